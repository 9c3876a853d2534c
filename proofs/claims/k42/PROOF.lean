import PyProof.Rows.All
import Wide.All
import OpenK.AllK
import Wide.FinOn
import KE.KStateDown
import KE.KDictKeyed
import HandS.ForMost
import HandS.IsInst
import HandS.Style
import HandS.Deep
import HandS.Defaults
import HandS.TupAny
import HandS.TupMul
import KE.KDictCopyH
import KE.SortData
import Lean
import HandS.Base
import HandS.Call
import HandS.Ends
import HandS.More
import HandS.Words
import HandS.WordsExc
import HandS.Head0
import HandS.Head1
import HandS.Head2
import HandS.HeadEnd
import HandS.HeadHook1
import HandS.HeadHook2
import PySem.Challenge.RW_twobesides_k42_whole_views_that_last
set_option Elab.async false
set_option linter.all false
set_option maxRecDepth 100000
set_option maxHeartbeats 0
/-! FL: a layer of plain data over the hand layer: what an expression gives is told as data (D), the heap is carried once and for all. -/
namespace FL
open PySem PySem.Spec PyProof.Rows L2
/-- what a slot holds: data that nobody changes; the cup (a cell that is changed); a dict by nested keys -/
inductive D where
  | d (p : PyData)
  | cup
  | dct (kvs : List (NestedKey × PyData))
  | adr (a : Addr)
abbrev dI (i : Int) : D := .d (.int i)
abbrev dB (b : Bool) : D := .d (.bool b)
abbrev dS (x : Str) : D := .d (.str x)
abbrev dN : D := .d .none
/-- a cell that may change: the cup (two ints), or one that stands fixed for now -/
inductive Cell where
  | cup
  | fix (o : HO)
def Cell.ok : Cell → HO → Prop
  | .cup, o => ∃ i j : Int, o = .lst [.int i, .int j] ∧ 0 ≤ j ∧ j < 2 ^ 32
  | .fix o', o => o = o'
abbrev Cells := Addr → Option Cell
def noCells : Cells := fun _ => none
section
variable (C : Cells) (H : Hp)
mutual
inductive Rp : V → PyData → Prop
  | non : Rp .non .none
  | bl (b : Bool) : Rp (.bl b) (.bool b)
  | int (i : Int) : Rp (.int i) (.int i)
  | str (x : Str) : Rp (.str x) (.str x)
  | lst {a : Addr} {xs : List V} {ds : List PyData} : C a = none → H a = some (.lst xs) → RpAll xs ds → Rp (.ref a) (.list ds)
  | tup {a : Addr} {xs : List V} {ds : List PyData} : C a = none → H a = some (.tup xs) → RpAll xs ds → Rp (.ref a) (.tuple ds)
inductive RpAll : List V → List PyData → Prop
  | nil : RpAll [] []
  | cons {v : V} {vs : List V} {d : PyData} {ds : List PyData} : Rp v d → RpAll vs ds → RpAll (v :: vs) (d :: ds)
end
end
/-- all that is tracked and is no cell is as it was -/
def Keep (C : Cells) (H H' : Hp) : Prop := ∀ a o, H a = some o → C a = none → H' a = some o
def CellsOk (C : Cells) (H : Hp) : Prop := ∀ a I, C a = some I → ∃ o, H a = some o ∧ I.ok o
theorem Keep.refl {C : Cells} {H : Hp} : Keep C H H := fun _ _ h _ => h
theorem Keep.trans {C : Cells} {H H1 H2 : Hp} (a : Keep C H H1) (b : Keep C H1 H2) : Keep C H H2 := fun c o h n => b c o (a c o h n) n
theorem Keep.new {C : Cells} {H : Hp} {p : Addr} {o : HO} (h : H p = none) : Keep C H (upd H p o) := fun b x e _ => by
  rw [upd_ne (ne_of_none e h)]
  exact e
theorem CellsOk.new {C : Cells} {H : Hp} {p : Addr} {o : HO} (k : CellsOk C H) (h : H p = none) : CellsOk C (upd H p o) := fun a I e => by
  obtain ⟨x, q, i⟩ := k a I e
  exact ⟨x, by rw [upd_ne (ne_of_none q h)]; exact q, i⟩
theorem CellsOk.free {C : Cells} {H : Hp} {p : Addr} (k : CellsOk C H) (h : H p = none) : C p = none := by
  cases e : C p with
  | none => rfl
  | some I =>
    obtain ⟨x, q, _⟩ := k p I e
    rw [h] at q
    cases q
theorem CellsOk.nil {H : Hp} : CellsOk noCells H := fun _ _ e => nomatch (show (none : Option Cell) = some _ from e)
section
variable {K : PySem.W.Frag} {C : Cells} {H H' : Hp}
theorem Keep.rd {a : Addr} {u : HO} (k : Keep C H H') (n : C a = none) (r : Rd H a u) : Rd H' a u := by
  rcases r with r | ⟨o, r⟩
  · exact .inl (k _ _ r n)
  · exact .inr ⟨o, k _ _ r n⟩
theorem Keep.seq {a : Addr} {xs : List V} (k : Keep C H H') (n : C a = none) (h : SqL K H a xs) : SqL K H' a xs := h.imp (fun r => k.rd n r) id
theorem Keep.tup {a : Addr} {xs : List V} (k : Keep C H H') (n : C a = none) (h : SqT K H a xs) : SqT K H' a xs := h.imp (fun r => k.rd n r) id
mutual
theorem Rp.keep (k : Keep C H H') : ∀ {v : V} {d : PyData}, Rp C H v d → Rp C H' v d
  | _, _, .non => .non
  | _, _, .bl b => .bl b
  | _, _, .int i => .int i
  | _, _, .str x => .str x
  | _, _, .lst n s r => .lst n (k _ _ s n) (RpAll.keep k r)
  | _, _, .tup n s r => .tup n (k _ _ s n) (RpAll.keep k r)
theorem RpAll.keep (k : Keep C H H') : ∀ {vs : List V} {ds : List PyData}, RpAll C H vs ds → RpAll C H' vs ds
  | _, _, .nil => .nil
  | _, _, .cons r t => .cons (Rp.keep k r) (RpAll.keep k t)
end
mutual
theorem Rp.dp : ∀ {v : V} {d : PyData}, Rp C H v d → Dp K H v d
  | _, _, .non => .non
  | _, _, .bl b => .bl b
  | _, _, .int i => .int i
  | _, _, .str x => .str x
  | _, _, .lst _ s r => .lst (SqL.of s) (RpAll.dp r)
  | _, _, .tup _ s r => .tup (SqT.of s) (RpAll.dp r)
theorem RpAll.dp : ∀ {vs : List V} {ds : List PyData}, RpAll C H vs ds → DpAll K H vs ds
  | _, _, .nil => .nil
  | _, _, .cons r t => .cons (Rp.dp r) (RpAll.dp t)
end
theorem RpAll.length {vs : List V} {ds : List PyData} (h : RpAll C H vs ds) : vs.length = ds.length := by
  induction ds generalizing vs with
  | nil => cases h; rfl
  | cons d ds ih => cases h with | cons r t => rw [List.length_cons, List.length_cons, ih t]
theorem RpAll.get {vs : List V} {ds : List PyData} (h : RpAll C H vs ds) {i : Nat} {d : PyData} (e : ds[i]? = some d) : ∃ v, vs[i]? = some v ∧ Rp C H v d := by
  induction ds generalizing vs i with
  | nil => simp at e
  | cons d' ds ih =>
    cases h with
    | cons r t =>
      cases i with
      | zero =>
        simp at e
        subst e
        exact ⟨_, rfl, r⟩
      | succ i =>
        obtain ⟨v, h1, h2⟩ := ih t (i := i) (by simpa using e)
        exact ⟨v, by simpa using h1, h2⟩
theorem RpAll.get' {vs : List V} {ds : List PyData} (h : RpAll C H vs ds) {i : Nat} {v : V} (e : vs[i]? = some v) : ∃ d, ds[i]? = some d ∧ Rp C H v d := by
  induction ds generalizing vs i with
  | nil => cases h; simp at e
  | cons d' ds ih =>
    cases h with
    | cons r t =>
      cases i with
      | zero =>
        simp at e
        subst e
        exact ⟨_, rfl, r⟩
      | succ i =>
        obtain ⟨d, h1, h2⟩ := ih t (i := i) (by simpa using e)
        exact ⟨d, by simpa using h1, h2⟩
theorem RpAll.append {vs ws : List V} {ds es : List PyData} (h : RpAll C H vs ds) (g : RpAll C H ws es) : RpAll C H (vs ++ ws) (ds ++ es) := by
  induction ds generalizing vs with
  | nil => cases h; exact g
  | cons d ds ih => cases h with | cons r t => exact .cons r (ih t)
theorem RpAll.take {vs : List V} {ds : List PyData} (n : Nat) (h : RpAll C H vs ds) : RpAll C H (vs.take n) (ds.take n) := by
  induction ds generalizing vs n with
  | nil => cases h; simp; exact .nil
  | cons d ds ih =>
    cases h with
    | cons r t =>
      cases n with
      | zero => simp; exact .nil
      | succ n => simp only [List.take_succ_cons]; exact .cons r (ih n t)
theorem RpAll.drop {vs : List V} {ds : List PyData} (n : Nat) (h : RpAll C H vs ds) : RpAll C H (vs.drop n) (ds.drop n) := by
  induction ds generalizing vs n with
  | nil => cases h; simp; exact .nil
  | cons d ds ih =>
    cases h with
    | cons r t =>
      cases n with
      | zero => exact .cons r t
      | succ n => simp only [List.drop_succ_cons]; exact ih n t
theorem RpAll.reverse {vs : List V} {ds : List PyData} (h : RpAll C H vs ds) : RpAll C H vs.reverse ds.reverse := by
  induction ds generalizing vs with
  | nil => cases h; exact .nil
  | cons d ds ih =>
    cases h with
    | cons r t =>
      rw [List.reverse_cons, List.reverse_cons]
      exact (ih t).append (.cons r .nil)
theorem Rp.int_inv {v : V} {i : Int} (h : Rp C H v (.int i)) : v = .int i := by cases h; rfl
theorem Rp.bl_inv {v : V} {b : Bool} (h : Rp C H v (.bool b)) : v = .bl b := by cases h; rfl
theorem Rp.str_inv {v : V} {x : Str} (h : Rp C H v (.str x)) : v = .str x := by cases h; rfl
theorem Rp.non_inv {v : V} (h : Rp C H v .none) : v = .non := by cases h; rfl
theorem RpAll.ints {vs : List V} : ∀ {ns : List Int}, RpAll C H vs (ns.map PyData.int) → vs = ns.map V.int := by
  induction vs with
  | nil => intro ns h; cases ns with
    | nil => rfl
    | cons n ns => cases h
  | cons v vs ih => intro ns h; cases ns with
    | nil => cases h
    | cons n ns =>
      cases h with
      | cons r t =>
        rw [List.map_cons, ih t, r.int_inv]
theorem RpAll.bools {vs : List V} : ∀ {ns : List Bool}, RpAll C H vs (ns.map PyData.bool) → vs = ns.map V.bl := by
  induction vs with
  | nil => intro ns h; cases ns with
    | nil => rfl
    | cons n ns => cases h
  | cons v vs ih => intro ns h; cases ns with
    | nil => cases h
    | cons n ns =>
      cases h with
      | cons r t =>
        rw [List.map_cons, ih t, r.bl_inv]
end
/-! ### dicts by nested keys -/
/-- the object at a is a dict of these entries (key, the key's own object, value) -/
def dictIs (P : Program) (w : World) (a : Addr) (xs : List (NestedKey × Addr × V)) : Heap → Prop := fun h => ∃ o es ep ys, h.get? a = some o ∧ o.ExactDict ∧ o.data = .dict es ep ∧
  Paired (fun (x : NestedKey × Addr × V) (y : NestedKey × Addr × Value) => x.1 = y.1 ∧ x.2.1 = y.2.1 ∧ RelV x.2.2 y.2.2) xs ys ∧ es.toList = ys.map (entryOfKey (nestedKind P w))
/-- the key k stands at a -/
def KeyAt (C : Cells) (H : Hp) (k : NestedKey) (a : Addr) : Prop := Rp C H (.ref a) k.data ∧ k.depth ≤ 8
theorem KeyAt.keep {C : Cells} {H H' : Hp} {k : NestedKey} {a : Addr} (q : Keep C H H') (h : KeyAt C H k a) : KeyAt C H' k a := ⟨h.1.keep q, h.2⟩
/-- entries and what they say -/
def EntOk (C : Cells) (H : Hp) (xs : List (NestedKey × Addr × V)) (kvs : List (NestedKey × PyData)) : Prop :=
  Paired (fun (x : NestedKey × Addr × V) (y : NestedKey × PyData) => x.1 = y.1 ∧ KeyAt C H x.1 x.2.1 ∧ Rp C H x.2.2 y.2) xs kvs
theorem EntOk.keep {C : Cells} {H H' : Hp} {xs : List (NestedKey × Addr × V)} {kvs : List (NestedKey × PyData)} (q : Keep C H H') (h : EntOk C H xs kvs) : EntOk C H' xs kvs :=
  Paired.mapP h fun _ _ z => ⟨z.1, z.2.1.keep q, z.2.2.keep q⟩
/-- at a stands a dict that holds kvs -/
structure DctAt (P : Program) (w : World) (C : Cells) (H : Hp) (a : Addr) (kvs : List (NestedKey × PyData)) (xs : List (NestedKey × Addr × V)) : Prop where
  sys : (a == sysModules) = false
  len : xs.length ≤ sizeLine
  at_ : H a = some (.ext (dictIs P w a xs))
  nd : (kvs.map (·.1)).Nodup
  ent : EntOk C H xs kvs
/-- what a value stands for -/
def RepD (P : Program) (w : World) (C : Cells) (H : Hp) (v : V) : D → Prop
  | .d p => Rp C H v p
  | .cup => ∃ a, C a = some .cup ∧ v = .ref a
  | .dct kvs => ∃ a xs, v = .ref a ∧ C a = none ∧ DctAt P w C H a kvs xs
  | .adr a => v = .ref a
abbrev RepAll (P : Program) (w : World) (C : Cells) (H : Hp) : List V → List D → Prop := Paired fun v d => RepD P w C H v d
section
variable {P : Program} {w : World} {K : PySem.W.Frag} {C : Cells} {H H' : Hp}
theorem DctAt.keep {a : Addr} {kvs : List (NestedKey × PyData)} {xs : List (NestedKey × Addr × V)} (h : DctAt P w C H a kvs xs) (q : Keep C H H') (n : C a = none) : DctAt P w C H' a kvs xs :=
  ⟨h.sys, h.len, q _ _ h.at_ n, h.nd, h.ent.keep q⟩
theorem RepD.keep {v : V} {d : D} (q : Keep C H H') (h : RepD P w C H v d) : RepD P w C H' v d := by
  cases d with
  | d p => exact Rp.keep q h
  | cup => exact h
  | dct kvs =>
    obtain ⟨a, xs, e, n, x⟩ := h
    exact ⟨a, xs, e, n, x.keep q n⟩
  | adr a => exact h
theorem RepAll.keep {vs : List V} {ds : List D} (q : Keep C H H') (h : RepAll P w C H vs ds) : RepAll P w C H' vs ds := Paired.mapP h fun _ _ z => z.keep q
end
/-! ### a later heap, other cells -/
structure Ext (C : Cells) (H : Hp) (C' : Cells) (H' : Hp) : Prop where
  go : ∀ a o, H a = some o → C a = none → C' a = none ∧ H' a = some o
  cup : ∀ a, C a = some .cup → C' a = some .cup
theorem Ext.of {C : Cells} {H H' : Hp} (k : Keep C H H') : Ext C H C H' := ⟨fun a o h n => ⟨n, k a o h n⟩, fun _ e => e⟩
theorem Ext.keep {C : Cells} {H H' : Hp} (x : Ext C H C H') : Keep C H H' := fun a o h n => (x.go a o h n).2
theorem Ext.trans {C C1 C2 : Cells} {H H1 H2 : Hp} (x : Ext C H C1 H1) (y : Ext C1 H1 C2 H2) : Ext C H C2 H2 :=
  ⟨fun a o h n => let ⟨n1, h1⟩ := x.go a o h n; y.go a o h1 n1, fun a e => y.cup a (x.cup a e)⟩
section
variable {P : Program} {w : World} {C C' : Cells} {H H' : Hp}
mutual
theorem Rp.ext (k : Ext C H C' H') : ∀ {v : V} {d : PyData}, Rp C H v d → Rp C' H' v d
  | _, _, .non => .non
  | _, _, .bl b => .bl b
  | _, _, .int i => .int i
  | _, _, .str x => .str x
  | _, _, .lst n s r => .lst (k.go _ _ s n).1 (k.go _ _ s n).2 (RpAll.ext k r)
  | _, _, .tup n s r => .tup (k.go _ _ s n).1 (k.go _ _ s n).2 (RpAll.ext k r)
theorem RpAll.ext (k : Ext C H C' H') : ∀ {vs : List V} {ds : List PyData}, RpAll C H vs ds → RpAll C' H' vs ds
  | _, _, .nil => .nil
  | _, _, .cons r t => .cons (Rp.ext k r) (RpAll.ext k t)
end
theorem RepD.ext {v : V} {d : D} (q : Ext C H C' H') (h : RepD P w C H v d) : RepD P w C' H' v d := by
  cases d with
  | d p => exact Rp.ext q h
  | cup =>
    obtain ⟨a, e, r⟩ := h
    exact ⟨a, q.cup a e, r⟩
  | dct kvs =>
    obtain ⟨a, xs, e, n, x⟩ := h
    exact ⟨a, xs, e, (q.go _ _ x.at_ n).1, x.sys, x.len, (q.go _ _ x.at_ n).2, x.nd, Paired.mapP x.ent fun _ _ z => ⟨z.1, ⟨Rp.ext q z.2.1.1, z.2.1.2⟩, Rp.ext q z.2.2⟩⟩
  | adr a => exact h
end
/-- the cells and one more: the object at p stands as o -/
def withC (C : Cells) (p : Addr) (o : HO) : Cells := fun a => if a = p then some (.fix o) else C a
theorem withC_same {C : Cells} {p : Addr} {o : HO} : withC C p o p = some (.fix o) := by unfold withC; rw [if_pos rfl]
theorem withC_ne {C : Cells} {p a : Addr} {o : HO} (h : a ≠ p) : withC C p o a = C a := by unfold withC; rw [if_neg h]
/-- a new object that will change -/
theorem Ext.made {C : Cells} {H : Hp} {p : Addr} {o : HO} (c : CellsOk C H) (h : H p = none) : Ext C H (withC C p o) (upd H p o) := by
  refine ⟨fun a x e n => ?_, fun a e => ?_⟩
  · have ne : a ≠ p := ne_of_none e h
    rw [withC_ne ne, upd_ne ne]
    exact ⟨n, e⟩
  · have ne : a ≠ p := fun z => by
      rw [z, c.free h] at e
      cases e
    rw [withC_ne ne]
    exact e
theorem CellsOk.made {C : Cells} {H : Hp} {p : Addr} {o : HO} (c : CellsOk C H) (h : H p = none) : CellsOk (withC C p o) (upd H p o) := fun a I e => by
  by_cases ne : a = p
  · subst ne
    rw [withC_same] at e
    cases e
    exact ⟨o, upd_same, rfl⟩
  · rw [withC_ne ne] at e
    rw [upd_ne ne]
    exact c a I e
theorem CellsOk.at_ {C : Cells} {H : Hp} {p : Addr} {o : HO} (c : CellsOk (withC C p o) H) : H p = some o := by
  obtain ⟨x, h, e⟩ := c p _ withC_same
  have e' : x = o := e
  rw [h, e']
/-- it changes -/
theorem Ext.turn {C : Cells} {H : Hp} {p : Addr} {o o' : HO} : Ext (withC C p o) H (withC C p o') (upd H p o') := by
  refine ⟨fun a x e n => ?_, fun a e => ?_⟩
  · have ne : a ≠ p := fun z => by
      rw [z, withC_same] at n
      cases n
    rw [withC_ne ne] at n
    rw [withC_ne ne, upd_ne ne]
    exact ⟨n, e⟩
  · have ne : a ≠ p := fun z => by
      rw [z, withC_same] at e
      cases e
    rw [withC_ne ne] at e
    rw [withC_ne ne]
    exact e
theorem CellsOk.turn {C : Cells} {H : Hp} {p : Addr} {o o' : HO} (c : CellsOk (withC C p o) H) : CellsOk (withC C p o') (upd H p o') := fun a I e => by
  by_cases ne : a = p
  · subst ne
    rw [withC_same] at e
    cases e
    exact ⟨o', upd_same, rfl⟩
  · rw [withC_ne ne] at e
    rw [upd_ne ne]
    exact c a I (by rw [withC_ne ne]; exact e)
/-- it is done with -/
theorem Ext.done {C : Cells} {H : Hp} {p : Addr} {o : HO} (n : C p = none) : Ext (withC C p o) H C H := by
  refine ⟨fun a x e n => ?_, fun a e => ?_⟩
  · have ne : a ≠ p := fun z => by
      rw [z, withC_same] at n
      cases n
    rw [withC_ne ne] at n
    exact ⟨n, e⟩
  · have ne : a ≠ p := fun z => by
      rw [z, withC_same] at e
      cases e
    rw [withC_ne ne] at e
    exact e
theorem CellsOk.done {C : Cells} {H : Hp} {p : Addr} {o : HO} (n : C p = none) (c : CellsOk (withC C p o) H) : CellsOk C H := fun a I e => by
  have ne : a ≠ p := fun z => by
    rw [z, n] at e
    cases e
  exact c a I (by rw [withC_ne ne]; exact e)
/-! ### slots -/
abbrev DEnv := List (Option D)
def RepS (P : Program) (w : World) (C : Cells) (H : Hp) (σ : L2.St) (δ : DEnv) : Prop :=
  ∀ (i : Nat) (d : D), δ[i]? = some (some d) → ∃ v, σ[i]? = some (some v) ∧ RepD P w C H v d
section
variable {P : Program} {w : World} {K : PySem.W.Frag} {C : Cells} {H H' : Hp} {σ : L2.St} {δ : DEnv}
theorem RepS.ext {C' : Cells} (q : Ext C H C' H') (h : RepS P w C H σ δ) : RepS P w C' H' σ δ := fun i d e => by
  obtain ⟨v, h1, h2⟩ := h i d e
  exact ⟨v, h1, h2.ext q⟩
theorem RepS.keep (q : Keep C H H') (h : RepS P w C H σ δ) : RepS P w C H' σ δ := fun i d e => by
  obtain ⟨v, h1, h2⟩ := h i d e
  exact ⟨v, h1, h2.keep q⟩
theorem RepS.set {i : Nat} {v : V} {d : D} (h : RepS P w C H σ δ) (r : RepD P w C H v d) (hl : σ.length = δ.length) : RepS P w C H (σ.set i (some v)) (δ.set i (some d)) := fun j e q => by
  by_cases hj : i = j
  · subst hj
    by_cases hi : i < δ.length
    · rw [List.getElem?_set_self hi] at q
      cases q
      exact ⟨v, List.getElem?_set_self (by omega), r⟩
    · rw [List.getElem?_eq_none (by simpa using hi)] at q
      cases q
  · rw [List.getElem?_set_ne hj] at q ⊢
    exact h j e q
end
end FL
/-! FL: lifts and the first rules. -/
namespace FL
open PySem PySem.Spec PyProof.Rows L2
section
variable {X : Cx}
theorem pe_wk {e : Expr} {t t' : TE} (h : PE X e t) (i : ∀ σ H k, t' σ H k → t σ H k) : PE X e t' := ⟨fun pins s σ H Q I hw => h.run pins s σ H Q I (i _ _ _ hw)⟩
theorem pt_wk {e : Expr} {t t' : TT} (h : PT X e t) (i : ∀ σ H k, t' σ H k → t σ H k) : PT X e t' := ⟨fun pins s σ H Q I hw => h.run pins s σ H Q I (i _ _ _ hw)⟩
theorem pw_wk {e : Expr} {t t' : TT} (h : PW X e t) (i : ∀ σ H k, t' σ H k → t σ H k) : PW X e t' := ⟨fun wh pins s σ H Q I hw => h.run wh pins s σ H Q I (i _ _ _ hw)⟩
theorem pa_wk {es : List Expr} {t t' : TA} (h : PA X es t) (i : ∀ σ H k, t' σ H k → t σ H k) : PA X es t' := ⟨fun pos pins s σ H Q I hw => h.run pos pins s σ H Q I (i _ _ _ hw)⟩
theorem ps_wk {st : Stmt} {t t' : TS} (h : PS X st t) (i : ∀ D σ H, t' D σ H → t D σ H) : PS X st t' := ⟨fun pins s σ H D I hw => h.run pins s σ H D I (i _ _ _ hw)⟩
theorem pss_wk {st : List Stmt} {t t' : TS} (h : PSs X st t) (i : ∀ D σ H, t' D σ H → t D σ H) : PSs X st t' := ⟨fun pins s σ H D I hw => h.run pins s σ H D I (i _ _ _ hw)⟩
theorem pi_wk {tg e : Expr} {t t' : TI} (h : PI X tg e t) (i : ∀ σ H k, t' σ H k → t σ H k) : PI X tg e t' := ⟨fun pins s σ H Q I hw => h.run pins s σ H Q I (i _ _ _ hw)⟩
theorem or_wk {f : Value → Value → Sem Value} {r r' : R2} (h : OpR X f r) (i : ∀ x y H k, r' x y H k → r x y H k) : OpR X f r' := fun pins s σ H x y v u Q I rx ry q => h pins s σ H x y v u Q I rx ry (i _ _ _ _ q)
theorem ix_wk {r r' : R2} (h : IxR X r) (i : ∀ x y H k, r' x y H k → r x y H k) : IxR X r' := fun a b pins s σ H x y v u Q I rx ry q => h a b pins s σ H x y v u Q I rx ry (i _ _ _ _ q)
theorem cr_wk {f : Value} {r r' : List V → Hp → VK → Prop} (h : CallR X f r) (i : ∀ xs H k, r' xs H k → r xs H k) : CallR X f r' := fun pins s σ H xs us Q I rs q => h pins s σ H xs us Q I rs (i _ _ _ q)
end
/-! ### readings of data -/
abbrev DT := DEnv → (D → Prop) → Prop
abbrev DTT := DEnv → (Bool → Prop) → Prop
abbrev DTA := DEnv → (List D → Prop) → Prop
abbrev DTI := DEnv → (List D → Prop) → Prop
abbrev DR2 := D → D → (D → Prop) → Prop
abbrev DRs := List D → (D → Prop) → Prop
structure DEnds where
  nx : DEnv → Prop
  rt : D → Prop
  bk : DEnv → Prop := fun _ => False
  ct : DEnv → Prop := fun _ => False
abbrev DTS := DEnds → DEnv → Prop
structure Here (P : Program) (w : World) (C : Cells) (H : Hp) (σ : L2.St) (δ : DEnv) : Prop where
  rep : RepS P w C H σ δ
  cells : CellsOk C H
  len : σ.length = δ.length
theorem Here.ext {P : Program} {w : World} {C C' : Cells} {H H' : Hp} {σ : L2.St} {δ : DEnv} (h : Here P w C H σ δ) (c : CellsOk C' H') (k : Ext C H C' H') : Here P w C' H' σ δ := ⟨h.rep.ext k, c, h.len⟩
theorem Here.go {P : Program} {w : World} {C : Cells} {H H' : Hp} {σ : L2.St} {δ : DEnv} (h : Here P w C H σ δ) (c : CellsOk C H') (k : Keep C H H') : Here P w C H' σ δ := ⟨h.rep.keep k, c, h.len⟩
section
variable (P : Program) (w : World)
def liftE (T : DT) : TE := fun σ H k => ∃ C δ Q, Here P w C H σ δ ∧ T δ Q ∧ ∀ v H' d, RepD P w C H' v d → CellsOk C H' → Keep C H H' → Q d → k v H'
def liftT (T : DTT) : TT := fun σ H k => ∃ C δ Q, Here P w C H σ δ ∧ T δ Q ∧ ∀ b H', CellsOk C H' → Keep C H H' → Q b → k b H'
def liftA (n : Nat) (T : DTA) : TA := fun σ H k => ∃ C δ Q, Here P w C H σ δ ∧ T δ Q ∧ ∀ vs H' ds, RepAll P w C H' vs ds → vs.length = n → CellsOk C H' → Keep C H H' → Q ds → k vs H'
def lift2 (r : DR2) : R2 := fun x y H k => ∃ C d e Q, RepD P w C H x d ∧ RepD P w C H y e ∧ CellsOk C H ∧ r d e Q ∧ ∀ v H' d, RepD P w C H' v d → CellsOk C H' → Keep C H H' → Q d → k v H'
def liftC (r : DRs) : List V → Hp → VK → Prop := fun xs H k => ∃ C ds Q, RepAll P w C H xs ds ∧ CellsOk C H ∧ r ds Q ∧ ∀ v H' d, RepD P w C H' v d → CellsOk C H' → Keep C H H' → Q d → k v H'
def liftSp (r : DRs) : Sp := fun vs H k _ => liftC P w r vs H k
def IterOk (C : Cells) (H0 : Hp) (J : It) (ds : List D) : Prop := ∀ C' H, Ext C H0 C' H → CellsOk C' H →
  (∀ (i : Nat) (d : D), ds[i]? = some d → J.go i H ∧ ∀ x H', J.yld i H x H' → RepD P w C' H' x d ∧ CellsOk C' H' ∧ Keep C' H H') ∧ ∀ i, ds.length ≤ i → J.stop i H
def liftI (T : DTI) : TI := fun σ H k => ∃ C δ Q, Here P w C H σ δ ∧ T δ Q ∧ ∀ J H' ds, IterOk P w C H' J ds → CellsOk C H' → Keep C H H' → Q ds → k J H'
def liftS (T : DTS) : TS := fun E σ H => ∃ C δ DE, Here P w C H σ δ ∧ T DE δ ∧
  (∀ σ' H' δ', Here P w C H' σ' δ' → Keep C H H' → DE.nx δ' → E.nx σ' H') ∧
  (∀ v H' d, RepD P w C H' v d → CellsOk C H' → Keep C H H' → DE.rt d → E.rt v H') ∧
  (∀ σ' H' δ', Here P w C H' σ' δ' → Keep C H H' → DE.bk δ' → E.bk σ' H') ∧
  (∀ σ' H' δ', Here P w C H' σ' δ' → Keep C H H' → DE.ct δ' → E.ct σ' H')
end
abbrev DE (X : Cx) (e : Expr) (T : DT) : Prop := PE X e (liftE X.prog X.w T)
abbrev DTe (X : Cx) (e : Expr) (T : DTT) : Prop := PT X e (liftT X.prog X.w T)
abbrev DW (X : Cx) (e : Expr) (T : DTT) : Prop := PW X e (liftT X.prog X.w T)
abbrev DA (X : Cx) (n : Nat) (es : List Expr) (T : DTA) : Prop := PA X es (liftA X.prog X.w n T)
abbrev DI (X : Cx) (tg e : Expr) (T : DTI) : Prop := PI X tg e (liftI X.prog X.w T)
abbrev DSt (X : Cx) (st : Stmt) (T : DTS) : Prop := PS X st (liftS X.prog X.w T)
abbrev DSs (X : Cx) (st : List Stmt) (T : DTS) : Prop := PSs X st (liftS X.prog X.w T)
/-! ### names and constants -/
def dVar (i : Nat) : DT := fun δ Q => match δ[i]? with
  | some (some d) => Q d
  | _ => False
def dC (d : D) : DT := fun _ Q => Q d
section
variable {X : Cx} {pos : Pos}
theorem de_var {i : Nat} {e : Expr} (h : PE X e (tVar i)) : DE X e (dVar i) := pe_wk h fun σ H k ⟨C, δ, Q, hh, hT, hk⟩ => by
  unfold dVar at hT
  split at hT
  · rename_i d e
    obtain ⟨v, h1, h2⟩ := hh.rep i d e
    exact ⟨v, h1, hk v H d h2 hh.cells Keep.refl hT⟩
  · exact hT.elim
theorem dv (i : Nat) {x : Str} (hN : X.N[i]? = some x := by rfl) (hv : Vis X.env.scope x := by first | exact Or.inl rfl | exact Or.inr (Or.inl rfl) | exact Or.inr (Or.inr rfl)) (hd : (x == ("__debug__" : Str)) = false := by decide)
    (hcd : (x == ("__classdict__" : Str)) = false := by decide) : DE X (.Name x pos) (dVar i) := de_var (pe_var hN hv hd hcd)
theorem de_c {e : Expr} {v : V} {p : PyData} (h : PE X e (tC v)) (r : ∀ C H, Rp C H v p) : DE X e (dC (.d p)) := pe_wk h fun σ H k ⟨C, δ, Q, hh, hT, hk⟩ => hk v H (.d p) (r C H) hh.cells Keep.refl hT
theorem de_int {i j} : DE X (.Constant (.int i) j pos) (dC (dI i)) := de_c pe_int fun _ _ => .int i
theorem de_bl {b j} : DE X (.Constant (.bool b) j pos) (dC (dB b)) := de_c pe_bl fun _ _ => .bl b
theorem de_non {j} : DE X (.Constant .none j pos) (dC dN) := de_c pe_non fun _ _ => .non
theorem de_str {x j} : DE X (.Constant (.str x) j pos) (dC (dS x)) := de_c pe_str fun _ _ => .str x
theorem de_globI {x : Str} {i : Int} {u : Value} (hg : Gl X x) (hm : X.mg x = some u) (r : RelV (.int i) u) (hd : (x == ("__debug__" : Str)) = false := by decide) : DE X (.Name x pos) (dC (dI i)) := de_c (pe_glob hg hm r hd) fun _ _ => .int i
end
/-! ### operations -/
def dOp (r : DR2) (a b : DT) : DT := fun δ Q => a δ fun x => b δ fun y => r x y Q
theorem tOp_lift {P : Program} {w : World} {r : DR2} {a b : DT} {σ : L2.St} {H : Hp} {k : VK} (h : liftE P w (dOp r a b) σ H k) : tOp (lift2 P w r) (liftE P w a) (liftE P w b) σ H k := by
  obtain ⟨C, δ, Q, hh, hT, hk⟩ := h
  refine ⟨C, δ, _, hh, hT, fun v1 H1 d1 r1 c1 k1 q1 => ⟨C, δ, _, hh.go c1 k1, q1, fun v2 H2 d2 r2 c2 k2 q2 => ?_⟩⟩
  exact ⟨C, d1, d2, Q, r1.keep k2, r2, c2, q2, fun v H' d r c k3 q => hk v H' d r c (k1.trans (k2.trans k3)) q⟩
def dTst (a : DT) : DTT := fun δ Q => a δ fun x => match x with
  | .d (.bool b) => Q b
  | _ => False
theorem tTest_lift {P : Program} {w : World} {a : DT} {t : TE} {σ : L2.St} {H : Hp} {k : Bool → Hp → Prop} (i : ∀ k, liftE P w a σ H k → t σ H k) (h : liftT P w (dTst a) σ H k) : tTest t σ H k := by
  obtain ⟨C, δ, Q, hh, hT, hk⟩ := h
  refine i _ ⟨C, δ, _, hh, hT, fun v H' d r c k1 q => ?_⟩
  split at q
  · rename_i b
    exact ⟨b, Rp.bl_inv r, hk b H' c k1 q⟩
  · exact q.elim
theorem tB_lift {P : Program} {w : World} {a : DT} {σ : L2.St} {H : Hp} {k : Bool → Hp → Prop} (h : liftT P w (dTst a) σ H k) : tB (liftE P w a) σ H k := tTest_lift (fun _ z => z) h
section
variable {X : Cx} {pos : Pos} {a b c : Expr} {Ta Tb Tc : DT} {r : DR2}
theorem de_bin {op : Operator} (ho : OpR X (binaryOp op) (lift2 X.prog X.w r)) (ha : DE X a Ta) (hb : DE X b Tb) : DE X (.BinOp a op b pos) (dOp r Ta Tb) := pe_wk (pe_op ho ha hb) fun _ _ _ h => tOp_lift h
theorem de_cmp {op : CmpOp} (ho : OpR X (compareOp op) (lift2 X.prog X.w r)) (ha : DE X a Ta) (hb : DE X b Tb) (hm : behindInMarks op b = false) : DE X (.Compare a [op] [b] pos) (dOp r Ta Tb) := pe_wk (pe_cmpR ho ha hb hm) fun _ _ _ h => tOp_lift h
theorem dt_cmp {op : CmpOp} (ho : OpR X (compareOp op) (lift2 X.prog X.w r)) (ha : DE X a Ta) (hb : DE X b Tb) (hm : behindInMarks op b = false) : DTe X (.Compare a [op] [b] pos) (dTst (dOp r Ta Tb)) := pt_wk (pt_cmpR ho ha hb hm) fun _ _ _ h => tTest_lift (fun _ z => tOp_lift z) h
theorem de_ix (hr : IxR X (lift2 X.prog X.w r)) (ha : DE X a Ta) (hb : DE X b Tb) (hs : PlainIx b) : DE X (.Subscript a b pos) (dOp r Ta Tb) := pe_wk (pe_ix hr ha hb hs) fun _ _ _ h => tOp_lift h
/-- a value that is a bool as a test -/
theorem dt_val {e : Expr} (h : DE X e Ta) (he : ∀ whole, isTrue e X.env whole = (do let v ← whole; standAt e.pos; holding [v] (truthy v)) := by intro _; rfl) : DTe X e (dTst Ta) := pt_wk (pt_val h he) fun _ _ _ h => tB_lift h
/-! ### and, or, not, if -/
def dAnd (t u : DTT) : DTT := fun δ Q => t δ fun c => if c = true then u δ Q else Q false
def dOr (t u : DTT) : DTT := fun δ Q => t δ fun c => if c = true then Q true else u δ Q
def dNot (t : DTT) : DTT := fun δ Q => t δ fun c => Q (!c)
def dIf (t : DTT) (a b : DT) : DT := fun δ Q => t δ fun c => if c = true then a δ Q else b δ Q
def dAndV (a b : DT) : DT := fun δ Q => a δ fun x => match x with
  | .d (.bool c) => if c = true then b δ Q else Q (dB false)
  | _ => False
def dOrV (a b : DT) : DT := fun δ Q => a δ fun x => match x with
  | .d (.bool c) => if c = true then Q (dB true) else b δ Q
  | _ => False
def dNotV (a : DT) : DT := fun δ Q => a δ fun x => match x with
  | .d (.bool c) => Q (dB (!c))
  | _ => False
variable {t u : DTT} {rest : List Expr}
theorem dw_and1 (ha : DTe X a t) : DW X (.BoolOp .And [a] pos) t := pw_and1 ha
theorem dw_or1 (ha : DTe X a t) : DW X (.BoolOp .Or [a] pos) t := pw_or1 ha
theorem dw_and (ha : DTe X a t) (hb : DW X (.BoolOp .And (b :: rest) pos) u) : DW X (.BoolOp .And (a :: b :: rest) pos) (dAnd t u) := pw_wk (pw_and ha hb) fun σ H k ⟨C, δ, Q, hh, hT, hk⟩ => by
  refine ⟨C, δ, _, hh, hT, fun c H1 c1 k1 q => ?_⟩
  cases c with
  | true => exact ⟨C, δ, Q, hh.go c1 k1, q, fun b H' c2 k2 q2 => hk b H' c2 (k1.trans k2) q2⟩
  | false => exact hk false H1 c1 k1 q
theorem dw_or (ha : DTe X a t) (hb : DW X (.BoolOp .Or (b :: rest) pos) u) : DW X (.BoolOp .Or (a :: b :: rest) pos) (dOr t u) := pw_wk (pw_or ha hb) fun σ H k ⟨C, δ, Q, hh, hT, hk⟩ => by
  refine ⟨C, δ, _, hh, hT, fun c H1 c1 k1 q => ?_⟩
  cases c with
  | true => exact hk true H1 c1 k1 q
  | false => exact ⟨C, δ, Q, hh.go c1 k1, q, fun b H' c2 k2 q2 => hk b H' c2 (k1.trans k2) q2⟩
theorem dt_w (h : DW X a t) : DTe X a t := PW.pt h
theorem dt_not (ha : DTe X a t) : DTe X (.UnaryOp .Not a pos) (dNot t) := pt_wk (pt_not ha) fun σ H k ⟨C, δ, Q, hh, hT, hk⟩ => ⟨C, δ, _, hh, hT, fun b H' c k1 q => hk _ H' c k1 q⟩
theorem de_one {op} (h : DE X a Ta) : DE X (.BoolOp op [a] pos) Ta := pe_one h
theorem de_and (ha : DE X a Ta) (hb : DE X (.BoolOp .And (b :: rest) pos) Tb) : DE X (.BoolOp .And (a :: b :: rest) pos) (dAndV Ta Tb) := pe_wk (pe_and ha hb) fun σ H k ⟨C, δ, Q, hh, hT, hk⟩ => by
  refine ⟨C, δ, _, hh, hT, fun v H1 d r1 c1 k1 q => ?_⟩
  split at q
  · rename_i c
    refine ⟨c, Rp.bl_inv r1, ?_⟩
    cases c with
    | true => exact ⟨C, δ, Q, hh.go c1 k1, q, fun v H' d r c2 k2 q2 => hk v H' d r c2 (k1.trans k2) q2⟩
    | false => exact hk _ H1 (dB false) (Rp.bl false) c1 k1 q
  · exact q.elim
theorem de_or (ha : DE X a Ta) (hb : DE X (.BoolOp .Or (b :: rest) pos) Tb) : DE X (.BoolOp .Or (a :: b :: rest) pos) (dOrV Ta Tb) := pe_wk (pe_or ha hb) fun σ H k ⟨C, δ, Q, hh, hT, hk⟩ => by
  refine ⟨C, δ, _, hh, hT, fun v H1 d r1 c1 k1 q => ?_⟩
  split at q
  · rename_i c
    refine ⟨c, Rp.bl_inv r1, ?_⟩
    cases c with
    | false => exact ⟨C, δ, Q, hh.go c1 k1, q, fun v H' d r c2 k2 q2 => hk v H' d r c2 (k1.trans k2) q2⟩
    | true => exact hk _ H1 (dB true) (Rp.bl true) c1 k1 q
  · exact q.elim
theorem de_not (ha : DE X a Ta) : DE X (.UnaryOp .Not a pos) (dNotV Ta) := pe_wk (pe_not ha) fun σ H k ⟨C, δ, Q, hh, hT, hk⟩ => by
  refine ⟨C, δ, _, hh, hT, fun v H1 d r1 c1 k1 q => ?_⟩
  split at q
  · rename_i c
    exact ⟨c, Rp.bl_inv r1, hk _ H1 (dB (!c)) (Rp.bl _) c1 k1 q⟩
  · exact q.elim
theorem de_if (hc : DTe X c t) (ha : DE X a Ta) (hb : DE X b Tb) : DE X (.IfExp c a b pos) (dIf t Ta Tb) := pe_wk (pe_ifExp hc ha hb) fun σ H k ⟨C, δ, Q, hh, hT, hk⟩ => by
  refine ⟨C, δ, _, hh, hT, fun c H1 c1 k1 q => ?_⟩
  cases c with
  | true => exact ⟨C, δ, Q, hh.go c1 k1, q, fun v H' d r c2 k2 q2 => hk v H' d r c2 (k1.trans k2) q2⟩
  | false => exact ⟨C, δ, Q, hh.go c1 k1, q, fun v H' d r c2 k2 q2 => hk v H' d r c2 (k1.trans k2) q2⟩
/-- a r b r' c -/
def dChain (r r' : DR2) (a b c : DT) : DT := fun δ Q => a δ fun x => b δ fun y => r x y fun z => match z with
  | .d (.bool k) => if k = true then c δ fun w => r' y w Q else Q (dB false)
  | _ => False
theorem de_chain {r' : DR2} {op op' : CmpOp} (ho : OpR X (compareOp op) (lift2 X.prog X.w r)) (ho' : OpR X (compareOp op') (lift2 X.prog X.w r')) (ha : DE X a Ta) (hb : DE X b Tb) (hc : DE X c Tc)
    (hm : lastMarks [op, op'] [b, c] = false := by with_unfolding_all rfl) : DE X (.Compare a [op, op'] [b, c] pos) (dChain r r' Ta Tb Tc) := pe_wk (pe_chain ho ho' ha hb hc hm) fun σ H k ⟨C, δ, Q, hh, hT, hk⟩ => by
  refine ⟨C, δ, _, hh, hT, fun v1 H1 d1 r1 c1 k1 q1 => ⟨C, δ, _, hh.go c1 k1, q1, fun v2 H2 d2 r2 c2 k2 q2 => ?_⟩⟩
  refine ⟨C, d1, d2, _, r1.keep k2, r2, c2, q2, fun v3 H3 d3 r3 c3 k3 q3 => ?_⟩
  split at q3
  · rename_i z
    refine ⟨z, Rp.bl_inv r3, ?_⟩
    cases z with
    | false => exact hk _ H3 (dB false) (Rp.bl false) c3 (k1.trans (k2.trans k3)) q3
    | true =>
      refine ⟨C, δ, _, hh.go c3 (k1.trans (k2.trans k3)), q3, fun v4 H4 d4 r4 c4 k4 q4 => ?_⟩
      exact ⟨C, d2, d4, Q, r2.keep (k3.trans k4), r4, c4, q4, fun v H' d r c k5 q => hk v H' d r c ((k1.trans (k2.trans k3)).trans (k4.trans k5)) q⟩
  · exact q3.elim
end
/-! ### argument lists, displays, calls -/
def dNil : DTA := fun _ Q => Q []
def dCons (a : DT) (r : DTA) : DTA := fun δ Q => a δ fun x => r δ fun xs => Q (x :: xs)
def plains : List D → Option (List PyData)
  | [] => some []
  | .d p :: r => (plains r).map (p :: ·)
  | _ :: _ => none
theorem plains_rep {P : Program} {w : World} {C : Cells} {H : Hp} : ∀ {vs : List V} {ds : List D} {ps : List PyData}, RepAll P w C H vs ds → plains ds = some ps → RpAll C H vs ps
  | _, _, _, .nil, e => by
    cases e
    exact .nil
  | _, .d p :: r, _, .cons h t, e => by
    have e' : (plains r).map (p :: ·) = some _ := e
    obtain ⟨qs, h1, h2⟩ := Option.map_eq_some_iff.mp e'
    cases h2
    exact .cons h (plains_rep t h1)
  | _, .cup :: _, _, .cons _ _, e => nomatch e
  | _, .dct _ :: _, _, .cons _ _, e => nomatch e
  | _, .adr _ :: _, _, .cons _ _, e => nomatch e
def dTup (t : DTA) : DT := fun δ Q => t δ fun ds => match plains ds with
  | some ps => Q (.d (.tuple ps))
  | none => False
def dLst (t : DTA) : DT := fun δ Q => t δ fun ds => match plains ds with
  | some ps => Q (.d (.list ps))
  | none => False
def dCall (r : DRs) (t : DTA) : DT := fun δ Q => t δ fun ds => r ds Q
section
variable {X : Cx} {pos p : Pos} {e : Expr} {es : List Expr} {Te : DT} {T : DTA} {n : Nat} {x : Str}
theorem da_nil : DA X 0 [] dNil := pa_wk pa_nil fun σ H k ⟨C, δ, Q, hh, hT, hk⟩ => hk [] H [] .nil rfl hh.cells Keep.refl hT
theorem da_cons (ha : DE X e Te) (hr : DA X n es T) (hs : starEach (e :: es) X.env = (false, eval e X.env) :: starEach es X.env := by rfl) : DA X (n + 1) (e :: es) (dCons Te T) := pa_wk (pa_cons ha hr hs) fun σ H k ⟨C, δ, Q, hh, hT, hk⟩ => by
  refine ⟨C, δ, _, hh, hT, fun v H1 d r1 c1 k1 q1 => ⟨C, δ, _, hh.go c1 k1, q1, fun vs H2 ds r2 l c2 k2 q2 => ?_⟩⟩
  exact hk (v :: vs) H2 (d :: ds) (.cons (r1.keep k2) r2) (by rw [List.length_cons, l]) c2 (k1.trans k2) q2
theorem rp_new_tup {C : Cells} {H : Hp} {q : Addr} {vs : List V} {ps : List PyData} (c : CellsOk C H) (h : H q = none) (r : RpAll C H vs ps) : Rp C (upd H q (.tup vs)) (.ref q) (.tuple ps) := .tup (c.free h) upd_same (r.keep (Keep.new h))
theorem rp_new_lst {C : Cells} {H : Hp} {q : Addr} {vs : List V} {ps : List PyData} (c : CellsOk C H) (h : H q = none) (r : RpAll C H vs ps) : Rp C (upd H q (.lst vs)) (.ref q) (.list ps) := .lst (c.free h) upd_same (r.keep (Keep.new h))
theorem le_line {n : Nat} (h : n ≤ 1000) : n ≤ sizeLine := Nat.le_of_lt (small1000 h)
theorem de_tup {x1} (h : DA X n es T) (hn : n ≤ 1000 := by decide) : DE X (.Tuple es x1 pos) (dTup T) := pe_wk (pe_tup h) fun σ H k ⟨C, δ, Q, hh, hT, hk⟩ => by
  refine ⟨C, δ, _, hh, hT, fun vs H1 ds r1 l c1 k1 q1 => ⟨le_line (by omega), fun q hq => ?_⟩⟩
  split at q1
  · rename_i ps hp
    exact hk _ _ (.d (.tuple ps)) (rp_new_tup c1 hq (plains_rep r1 hp)) (c1.new hq) (k1.trans (Keep.new hq)) q1
  · exact q1.elim
theorem de_lst (h : DA X n es T) (hn : n ≤ 1000 := by decide) : DE X (.List es pos) (dLst T) := pe_wk (pe_lst h) fun σ H k ⟨C, δ, Q, hh, hT, hk⟩ => by
  refine ⟨C, δ, _, hh, hT, fun vs H1 ds r1 l c1 k1 q1 => ⟨le_line (by omega), fun q hq => ?_⟩⟩
  split at q1
  · rename_i ps hp
    exact hk _ _ (.d (.list ps)) (rp_new_lst c1 hq (plains_rep r1 hp)) (c1.new hq) (k1.trans (Keep.new hq)) q1
  · exact q1.elim
theorem tCB_lift {P : Program} {w : World} {r : DRs} {n : Nat} {T : DTA} {σ : L2.St} {H : Hp} {k : VK} (h : liftE P w (dCall r T) σ H k) : tCB (liftC P w r) (liftA P w n T) σ H k := by
  obtain ⟨C, δ, Q, hh, hT, hk⟩ := h
  refine ⟨C, δ, _, hh, hT, fun vs H1 ds r1 l c1 k1 q1 => ⟨C, ds, Q, r1, c1, q1, fun v H' d r c k2 q => hk v H' d r c (k1.trans k2) q⟩⟩
variable {r : DRs}
theorem de_callB {id : String} (hc : CallR X (.builtin id) (liftC X.prog X.w r)) (hg : Gl X x) (hm : X.mg x = none) (hv : bootBuiltins x = some (.builtin id)) (ha : DA X n (e :: es) T) (hn : x ≠ "__name__" := by decide) (hdb : (x == ("__debug__" : Str)) = false := by decide)
    (he : starEach (e :: es) X.env = (false, eval e X.env) :: starEach es X.env := by rfl) (hpl : (backTo pos (starEach es X.env)).any (·.1) = false := by rfl) : DE X (.Call (.Name x p) (e :: es) [] pos) (dCall r T) :=
  pe_wk (pe_callB hc hg hm hv ha hn hdb he hpl) fun _ _ _ h => tCB_lift h
theorem de_callTy {id : String} (hc : CallR X (.type id) (liftC X.prog X.w r)) (hg : Gl X x) (hm : X.mg x = none) (hv : bootBuiltins x = some (.type id)) (ha : DA X n (e :: es) T) (hn : x ≠ "__name__" := by decide) (hdb : (x == ("__debug__" : Str)) = false := by decide)
    (he : starEach (e :: es) X.env = (false, eval e X.env) :: starEach es X.env := by rfl) (hpl : (backTo pos (starEach es X.env)).any (·.1) = false := by rfl) : DE X (.Call (.Name x p) (e :: es) [] pos) (dCall r T) :=
  pe_wk (pe_callTy hc hg hm hv ha hn hdb he hpl) fun _ _ _ h => tCB_lift h
/-- an own def -/
theorem de_call {f : Addr} {fd : FuncData} {ps : List Str} {k : Nat} (F : FnOk X.prog X.w X.K X.mg X.base CX0 k f fd ps (liftSp X.prog X.w r)) (hr : Room k X.A) (hg : Gl X x) (hm : X.mg x = some (.ref f)) (hk : PySem.W.keepIn X.K (.ref f) = true) (hb : Binds X.K fd ps [])
    (ha : DA X n (e :: es) T) (hdb : (x == ("__debug__" : Str)) = false := by decide) (he : starEach (e :: es) X.env = (false, eval e X.env) :: starEach es X.env := by rfl) (hpl : (backTo pos (starEach es X.env)).any (·.1) = false := by rfl) :
    DE X (.Call (.Name x p) (e :: es) [] pos) (dCall r T) := pe_wk (pe_call F hr hg hm hk hb .nil pass0 ha hdb he hpl) fun σ H k ⟨C, δ, Q, hh, hT, hk⟩ => by
  refine ⟨C, δ, _, hh, hT, fun vs H1 ds r1 l c1 k1 q1 => ?_⟩
  show liftSp X.prog X.w r (vs ++ []) H1 k E0
  rw [List.append_nil]
  exact ⟨C, ds, Q, r1, c1, q1, fun v H' d r c k2 q => hk v H' d r c (k1.trans k2) q⟩
theorem de_call0 {f : Addr} {fd : FuncData} {ps : List Str} {k : Nat} (F : FnOk X.prog X.w X.K X.mg X.base CX0 k f fd ps (liftSp X.prog X.w r)) (hr : Room k X.A) (hg : Gl X x) (hm : X.mg x = some (.ref f)) (hk : PySem.W.keepIn X.K (.ref f) = true) (hb : Binds X.K fd ps [])
    (hdb : (x == ("__debug__" : Str)) = false := by decide) : DE X (.Call (.Name x p) [] [] pos) (dCall r dNil) := pe_wk (pe_call0 F hr hg hm hk hb .nil pass0 hdb) fun σ H k ⟨C, δ, Q, hh, hT, hk⟩ => by
  exact ⟨C, [], Q, .nil, hh.cells, hT, fun v H' d r c k2 q => hk v H' d r c k2 q⟩
end
end FL
/-! FL: targets, statements, loops, comprehensions, defs. -/
namespace FL
open PySem PySem.Spec PyProof.Rows L2
/-! ### targets -/
inductive Tgt where
  | nm (i : Nat)
  | two (a b : Tgt)
def Tgt.slots : Tgt → List Nat
  | .nm i => [i]
  | .two a b => a.slots ++ b.slots
def Tgt.g (K : PySem.W.Frag) : Tgt → TG
  | .nm i => gName i
  | .two a b => gTup K 2 (gCons (a.g K) (gCons (b.g K) gNil))
def Tgt.put : Tgt → D → DEnv → (DEnv → Prop) → Prop
  | .nm i, d, δ, Q => Q (δ.set i (some d))
  | .two a b, d, δ, Q => match d with
    | .d (.tuple [p, q]) => a.put (.d p) δ fun δ' => b.put (.d q) δ' Q
    | _ => False
theorem wipe_get {σ : L2.St} {j : Nat} : ∀ {vs : List Nat}, (wipe σ vs)[j]? = if j ∈ vs then (if j < σ.length then some none else none) else σ[j]?
  | [] => by simp [wipe]
  | v :: vs => by
    unfold wipe
    by_cases h : v = j
    · subst h
      by_cases hl : v < σ.length
      · rw [List.getElem?_set_self (by rw [wipe_length]; exact hl)]
        simp [hl]
      · rw [List.getElem?_eq_none (by simp [wipe_length]; omega)]
        simp [hl]
    · rw [List.getElem?_set_ne h, wipe_get]
      have h' : ¬ j = v := fun e => h e.symm
      simp [h']
theorem wipe_wipe {σ : L2.St} {vs : List Nat} : wipe (wipe σ vs) vs = wipe σ vs := by
  apply List.ext_getElem?
  intro j
  rw [wipe_get, wipe_get, wipe_length]
  by_cases h : j ∈ vs <;> simp [h]
theorem wipe_set {σ : L2.St} {vs : List Nat} {i : Nat} {x : Option V} (h : i ∈ vs) : wipe (σ.set i x) vs = wipe σ vs := by
  apply List.ext_getElem?
  intro j
  rw [wipe_get, wipe_get, List.length_set]
  by_cases hj : j ∈ vs
  · simp [hj]
  · have : i ≠ j := fun e => hj (e ▸ h)
    rw [if_neg hj, if_neg hj, List.getElem?_set_ne this]
section
variable {P : Program} {w : World} {C : Cells} {K : PySem.W.Frag}
theorem Here.set {H : Hp} {σ : L2.St} {δ : DEnv} {i : Nat} {v : V} {d : D} (h : Here P w C H σ δ) (r : RepD P w C H v d) : Here P w C H (σ.set i (some v)) (δ.set i (some d)) :=
  ⟨h.rep.set r h.len, h.cells, by rw [List.length_set, List.length_set]; exact h.len⟩
theorem Tgt.go : ∀ {t : Tgt} {v : V} {d : D} {σ : L2.St} {δ : DEnv} {H : Hp} {Q : DEnv → Prop} {k : L2.St → Hp → Prop}, Here P w C H σ δ → RepD P w C H v d → t.put d δ Q →
    (∀ σ' δ', Here P w C H σ' δ' → (∀ vs : List Nat, (∀ i ∈ t.slots, i ∈ vs) → wipe σ' vs = wipe σ vs) → Q δ' → k σ' H) → t.g K v σ H k
  | .nm i, v, d, σ, δ, H, Q, k, h, r, p, f => f _ _ (h.set r) (fun vs hv => wipe_set (hv i (List.mem_singleton.mpr rfl))) p
  | .two a b, v, d, σ, δ, H, Q, k, h, r, p, f => by
    unfold Tgt.put at p
    split at p
    · have r' : Rp C H v (.tuple [_, _]) := r
      cases r' with
      | tup n s ra =>
        cases ra with
        | cons r1 t =>
          cases t with
          | cons r2 t2 =>
            cases t2
            refine ⟨_, _, rfl, SqT.of s, rfl, _, _, rfl, ?_⟩
            refine Tgt.go (t := a) (d := .d _) h r1 p fun σ1 δ1 h1 w1 p1 => ⟨_, _, rfl, ?_⟩
            refine Tgt.go (t := b) (d := .d _) h1 r2 p1 fun σ2 δ2 h2 w2 p2 => ⟨rfl, f _ _ h2 (fun vs hv => ?_) p2⟩
            rw [w2 vs fun i hi => hv i (List.mem_append_right _ hi), w1 vs fun i hi => hv i (List.mem_append_left _ hi)]
    · exact p.elim
end
/-! ### what is walked -/
def inI (j : Int) : Prop := -(2 ^ 62) ≤ j ∧ j < 2 ^ 62
def dIterL (T : DT) : DTI := fun δ Q => T δ fun x => match x with
  | .d (.list ps) => Q (ps.map .d)
  | _ => False
def dIterT (T : DT) : DTI := fun δ Q => T δ fun x => match x with
  | .d (.tuple ps) => Q (ps.map .d)
  | _ => False
def intD (lo : Int) (n : Nat) : List D := (List.range n).map fun i => dI (lo + (i : Nat))
def dRng1 (T : DT) : DTI := fun δ Q => T δ fun x => match x with
  | .d (.int j) => inI j ∧ Q (intD 0 j.toNat)
  | _ => False
def dRng2 (a b : DT) : DTI := fun δ Q => a δ fun x => b δ fun y => match x, y with
  | .d (.int i), .d (.int j) => inI i ∧ inI j ∧ Q (intD i (j - i).toNat)
  | _, _ => False
def enumD : Nat → List PyData → List D
  | _, [] => []
  | i, p :: r => .d (.tuple [.int (i : Nat), p]) :: enumD (i + 1) r
def dEnum (T : DT) : DTI := fun δ Q => T δ fun x => match x with
  | .d (.list ps) => Q (enumD 0 ps)
  | _ => False
theorem enumD_get : ∀ {ps : List PyData} {k i : Nat} {d : D}, (enumD k ps)[i]? = some d → ∃ p, ps[i]? = some p ∧ d = .d (.tuple [.int ((k + i : Nat) : Int), p])
  | [], _, _, _, h => by simp [enumD] at h
  | p :: r, k, 0, d, h => by
    simp [enumD] at h
    exact ⟨p, rfl, by rw [← h]; rfl⟩
  | p :: r, k, i + 1, d, h => by
    have h' : (enumD (k + 1) r)[i]? = some d := by simpa [enumD] using h
    obtain ⟨q, h1, h2⟩ := enumD_get h'
    refine ⟨q, by simpa using h1, ?_⟩
    rw [h2]
    have e : k + 1 + i = k + (i + 1) := by omega
    rw [e]
theorem enumD_length : ∀ {ps : List PyData} {k : Nat}, (enumD k ps).length = ps.length
  | [], _ => rfl
  | _ :: r, k => by
    unfold enumD
    rw [List.length_cons, List.length_cons, enumD_length]
section
variable {X : Cx} {tg e a b : Expr} {T Ta Tb : DT} {p pos : Pos}
theorem di_list (h : DE X e T) : DI X tg e (dIterL T) := pi_wk (pi_list h) fun σ H k ⟨C, δ, Q, hh, hT, hk⟩ => by
  refine ⟨C, δ, _, hh, hT, fun v H1 d r1 c1 k1 q => ?_⟩
  split at q
  · rename_i ps
    have r' : Rp C H1 v (.list ps) := r1
    cases r' with
    | lst n s ra =>
      refine ⟨_, rfl, ⟨_, SqL.of s⟩, hk _ H1 _ (fun C2 H2 k2 c2 => ⟨fun i d hd => ?_, fun i hi => ⟨_, SqL.of (k2.go _ _ s n).2, ?_⟩⟩) c1 k1 q⟩
      · rw [List.getElem?_map] at hd
        obtain ⟨p, hp, e⟩ := Option.map_eq_some_iff.mp hd
        subst e
        obtain ⟨v', hv, rv⟩ := ra.get hp
        refine ⟨⟨_, v', SqL.of (k2.go _ _ s n).2, hv⟩, fun x H' y => ?_⟩
        obtain ⟨rfl, y⟩ := y
        have e := y _ (SqL.of (k2.go _ _ s n).2)
        rw [hv] at e
        cases e
        exact ⟨rv.ext k2, c2, Keep.refl⟩
      · rw [ra.length]
        simpa using hi
  · exact q.elim
theorem di_tup (h : DE X e T) : DI X tg e (dIterT T) := pi_wk (pi_tup h) fun σ H k ⟨C, δ, Q, hh, hT, hk⟩ => by
  refine ⟨C, δ, _, hh, hT, fun v H1 d r1 c1 k1 q => ?_⟩
  split at q
  · rename_i ps
    have r' : Rp C H1 v (.tuple ps) := r1
    cases r' with
    | tup n s ra =>
      refine ⟨_, rfl, ⟨_, SqT.of s⟩, hk _ H1 _ (fun C2 H2 k2 c2 => ⟨fun i d hd => ?_, fun i hi => ⟨_, SqT.of (k2.go _ _ s n).2, ?_⟩⟩) c1 k1 q⟩
      · rw [List.getElem?_map] at hd
        obtain ⟨p, hp, e⟩ := Option.map_eq_some_iff.mp hd
        subst e
        obtain ⟨v', hv, rv⟩ := ra.get hp
        refine ⟨⟨_, v', SqT.of (k2.go _ _ s n).2, hv⟩, fun x H' y => ?_⟩
        obtain ⟨rfl, y⟩ := y
        have e := y _ (SqT.of (k2.go _ _ s n).2)
        rw [hv] at e
        cases e
        exact ⟨rv.ext k2, c2, Keep.refl⟩
      · rw [ra.length]
        simpa using hi
  · exact q.elim
theorem intD_get {lo : Int} {n i : Nat} {d : D} (h : (intD lo n)[i]? = some d) : i < n ∧ d = dI (lo + (i : Nat)) := by
  unfold intD at h
  rw [List.getElem?_map] at h
  obtain ⟨j, hj, e⟩ := Option.map_eq_some_iff.mp h
  obtain ⟨hl, e2⟩ := List.getElem?_eq_some_iff.mp hj
  simp at hl e2
  subst e2
  exact ⟨hl, e.symm⟩
theorem intD_length {lo : Int} {n : Nat} : (intD lo n).length = n := by simp [intD]
theorem iter_range {P : Program} {w : World} {C : Cells} {H : Hp} {lo : Int} {n : Nat} : IterOk P w C H (Itr lo n) (intD lo n) := fun C2 H2 k2 c2 => by
  refine ⟨fun i d hd => ?_, fun i hi => ?_⟩
  · obtain ⟨h1, rfl⟩ := intD_get hd
    exact ⟨h1, fun x H' ⟨e1, e2⟩ => by subst e1; subst e2; exact ⟨Rp.int _, c2, Keep.refl⟩⟩
  · rw [intD_length] at hi
    exact hi
theorem di_range1 (hg : Gl X "range") (hm : X.mg "range" = none) (ha : DE X a Ta) (hs : starEach [a] X.env = [(false, eval a X.env)] := by rfl) (hs' : starEach [a] X.env = (false, eval a X.env) :: starEach [] X.env := by rfl) : DI X tg (.Call (.Name "range" p) [a] [] pos) (dRng1 Ta) :=
  pi_wk (pi_range1 hg hm (pa_cons ha pa_nil hs') hs) fun σ H k ⟨C, δ, Q, hh, hT, hk⟩ => by
  refine ⟨C, δ, _, hh, hT, fun v H1 d r1 c1 k1 q => ?_⟩
  split at q
  · rename_i j
    obtain rfl := Rp.int_inv r1
    exact ⟨j, rfl, q.1.1, q.1.2, hk _ H1 _ iter_range c1 k1 q.2⟩
  · exact q.elim
theorem di_range2 (hg : Gl X "range") (hm : X.mg "range" = none) (ha : DE X a Ta) (hb : DE X b Tb) (hs : starEach [a, b] X.env = [(false, eval a X.env), (false, eval b X.env)] := by rfl) (hs2 : starEach [b] X.env = [(false, eval b X.env)] := by rfl)
    (hs' : starEach [a, b] X.env = (false, eval a X.env) :: starEach [b] X.env := by rfl) (hs2' : starEach [b] X.env = (false, eval b X.env) :: starEach [] X.env := by rfl) :
    DI X tg (.Call (.Name "range" p) [a, b] [] pos) (dRng2 Ta Tb) :=
  pi_wk (pi_range2 hg hm (pa_cons ha (pa_cons hb pa_nil hs2') hs') hs hs2) fun σ H k ⟨C, δ, Q, hh, hT, hk⟩ => by
  refine ⟨C, δ, _, hh, hT, fun v H1 d r1 c1 k1 q => ⟨C, δ, _, hh.go c1 k1, q, fun v2 H2 d2 r2 c2 k2 q2 => ?_⟩⟩
  split at q2
  · rename_i i j
    obtain rfl := Rp.int_inv (r1.keep k2)
    obtain rfl := Rp.int_inv r2
    exact ⟨i, j, rfl, ⟨q2.1.1, q2.1.2, q2.2.1.1, q2.2.1.2⟩, hk _ H2 _ iter_range c2 (k1.trans k2) q2.2.2⟩
  · exact q2.elim
end
/-! ### comprehensions -/
def dwipe (δ : DEnv) : List Nat → DEnv
  | [] => δ
  | v :: vs => (dwipe δ vs).set v none
theorem dwipe_length (δ : DEnv) : ∀ vs : List Nat, (dwipe δ vs).length = δ.length
  | [] => rfl
  | v :: vs => by unfold dwipe; rw [List.length_set, dwipe_length δ vs]
theorem dwipe_some {δ : DEnv} {i : Nat} {x : D} : ∀ {vs : List Nat}, (dwipe δ vs)[i]? = some (some x) → δ[i]? = some (some x) ∧ i ∉ vs
  | [], h => ⟨h, by simp⟩
  | v :: vs, h => by
    unfold dwipe at h
    by_cases hi : v = i
    · subst hi
      by_cases hv : v < (dwipe δ vs).length
      · rw [List.getElem?_set_self hv] at h; cases h
      · rw [List.getElem?_eq_none (by simpa using hv)] at h; cases h
    · rw [List.getElem?_set_ne hi] at h
      obtain ⟨h1, h2⟩ := dwipe_some h
      exact ⟨h1, by simp only [List.mem_cons, not_or]; exact ⟨fun e => hi e.symm, h2⟩⟩
theorem Here.wipe {P : Program} {w : World} {C : Cells} {H : Hp} {σ : L2.St} {δ : DEnv} {vs : List Nat} (h : Here P w C H σ δ) : Here P w C H (L2.wipe σ vs) (dwipe δ vs) := by
  refine ⟨fun i d e => ?_, h.cells, by rw [wipe_length, dwipe_length, h.len]⟩
  obtain ⟨e1, e2⟩ := dwipe_some e
  obtain ⟨v, h1, h2⟩ := h.rep i d e1
  exact ⟨v, by rw [wipe_out e2]; exact h1, h2⟩
def dYes : DTT := fun _ Q => Q true
def dGo (t : Tgt) (tt : DTT) (te : DT) (δ : DEnv) : List D → List PyData → (List PyData → Prop) → Prop
  | [], acc, Q => Q acc
  | x :: xs, acc, Q => t.put x δ fun δ2 => tt δ2 fun b => if b = true then te δ2 fun y => match y with
      | .d p => acc.length < sizeLine ∧ dGo t tt te δ xs (acc ++ [p]) Q
      | _ => False
    else dGo t tt te δ xs acc Q
def dLc (I : DTI) (t : Tgt) (tt : DTT) (te : DT) (vs : List Nat) : DT := fun δ Q => I δ fun ds => dGo t tt te (dwipe δ vs) ds [] fun ps => Q (.d (.list ps))
/-- two clauses: the second one's source, target, tests -/
def dGo2 (t : Tgt) (I1 : DTI) (t1 : Tgt) (tt1 : DTT) (te : DT) (vs1 : List Nat) (δ : DEnv) : List D → List PyData → (List PyData → Prop) → Prop
  | [], acc, Q => Q acc
  | x :: xs, acc, Q => t.put x δ fun δ2 => I1 δ2 fun ds => dGo t1 tt1 te (dwipe δ2 vs1) ds acc fun acc' => dGo2 t I1 t1 tt1 te vs1 δ xs acc' Q
def dLc2 (I : DTI) (t : Tgt) (I1 : DTI) (t1 : Tgt) (tt1 : DTT) (te : DT) (vs vs1 : List Nat) : DT := fun δ Q => I δ fun ds => dGo2 t I1 t1 tt1 te vs1 (dwipe δ vs) ds [] fun ps => Q (.d (.list ps))
section
variable {P : Program} {w : World} {K : PySem.W.Frag}
/-- one clause's loop: the list at D is made; Fin: what is wanted behind -/
theorem go_lift {C : Cells} {D : Addr} {av : List V} {acc : List PyData} {Hs : Hp} {σ : L2.St} {δ : DEnv} {vs : List Nat} {J : It} {ds : List FL.D} {t : Tgt} {tt : DTT} {te : DT} {Q : List PyData → Prop} {Fin : Hp → Prop}
    (hh : Here P w (withC C D (.lst av)) Hs σ δ) (hr : RpAll (withC C D (.lst av)) Hs av acc) (hi : IterOk P w (withC C D (.lst av)) Hs J ds) (hv : ∀ i ∈ t.slots, i ∈ vs) (hq : dGo t tt te (dwipe δ vs) ds acc Q)
    (fin : ∀ H av' acc', CellsOk (withC C D (.lst av')) H → RpAll (withC C D (.lst av')) H av' acc' → Ext (withC C D (.lst av)) Hs (withC C D (.lst av')) H → Q acc' → Fin H) :
    ∃ W : Nat → Nat → Hp → Prop, (∃ m, W 0 m Hs) ∧ ∀ i m H, W i m H → (J.stop i H ∧ Fin H) ∨ (J.go i H ∧ ∃ Nx : Hp → Prop, (∀ H', Nx H' → ∃ m', m' < m ∧ W (i + 1) m' H') ∧
      ∀ x H', J.yld i H x H' → t.g K x (L2.wipe σ vs) H' fun σ2 H2 => L2.wipe σ2 vs = L2.wipe σ vs ∧ liftT P w tt σ2 H2 fun b H3 =>
        if b = true then liftE P w te σ2 H3 fun y H4 => ∃ acc, H4 D = some (.lst acc) ∧ acc.length < sizeLine ∧ Nx (upd H4 D (.lst (acc ++ [y]))) else Nx H3) := by
  refine ⟨fun i m H => ∃ av' acc', m = ds.length - i ∧ i ≤ ds.length ∧ CellsOk (withC C D (.lst av')) H ∧ RpAll (withC C D (.lst av')) H av' acc' ∧ Ext (withC C D (.lst av)) Hs (withC C D (.lst av')) H ∧ dGo t tt te (dwipe δ vs) (ds.drop i) acc' Q,
    ⟨ds.length, av, acc, rfl, Nat.zero_le _, hh.cells, hr, Ext.of Keep.refl, by simpa using hq⟩, ?_⟩
  rintro i m H ⟨av', acc', rfl, hle, hc, ra, ex, go⟩
  obtain ⟨it1, it2⟩ := hi _ H ex hc
  by_cases hlt : i < ds.length
  · have hd : ds[i]? = some ds[i] := List.getElem?_eq_getElem hlt
    obtain ⟨g1, g2⟩ := it1 i _ hd
    rw [List.drop_eq_getElem_cons hlt] at go
    refine .inr ⟨g1, fun H' => ∃ av2 acc2, CellsOk (withC C D (.lst av2)) H' ∧ RpAll (withC C D (.lst av2)) H' av2 acc2 ∧ Ext (withC C D (.lst av)) Hs (withC C D (.lst av2)) H' ∧ dGo t tt te (dwipe δ vs) (ds.drop (i + 1)) acc2 Q,
      fun H' ⟨av2, acc2, h1, h2, h3, h4⟩ => ⟨ds.length - (i + 1), by omega, av2, acc2, rfl, hlt, h1, h2, h3, h4⟩, fun x H' y => ?_⟩
    obtain ⟨rx, c1, k1⟩ := g2 x H' y
    have ex1 : Ext (withC C D (.lst av)) Hs (withC C D (.lst av')) H' := ex.trans (Ext.of k1)
    have go' : t.put ds[i] (dwipe δ vs) fun δ2 => tt δ2 fun b => if b = true then te δ2 fun y => (match y with
      | .d p => acc'.length < sizeLine ∧ dGo t tt te (dwipe δ vs) (ds.drop (i + 1)) (acc' ++ [p]) Q
      | _ => False) else dGo t tt te (dwipe δ vs) (ds.drop (i + 1)) acc' Q := go
    refine Tgt.go ((hh.ext c1 ex1).wipe (vs := vs)) rx go' fun σ2 δ2 h2 wq p2 => ⟨by rw [wq vs hv, wipe_wipe], ?_⟩
    refine ⟨_, δ2, _, h2, p2, fun b H3 c3 k3 q3 => ?_⟩
    have ra3 := ra.keep (k1.trans k3)
    have ex3 := ex1.trans (Ext.of k3)
    cases b with
    | false => exact ⟨av', acc', c3, ra3, ex3, q3⟩
    | true =>
      refine ⟨_, δ2, _, h2.go c3 k3, q3, fun v H4 d r4 c4 k4 q4 => ?_⟩
      split at q4
      · rename_i p
        have r4' : Rp (withC C D (.lst av')) H4 v p := r4
        have ra4 := ra3.keep k4
        refine ⟨av', c4.at_, by rw [ra4.length]; exact q4.1, av' ++ [v], acc' ++ [p], c4.turn, ?_, (ex3.trans (Ext.of k4)).trans Ext.turn, q4.2⟩
        exact (ra4.append (.cons r4' .nil)).ext Ext.turn
      · exact q4.elim
  · have e : i = ds.length := by omega
    subst e
    rw [List.drop_eq_nil_of_le (Nat.le_refl _)] at go
    exact .inl ⟨it2 _ (Nat.le_refl _), fin H av' acc' hc ra ex go⟩
theorem tLc_lift {I : DTI} {t : Tgt} {tt : DTT} {te : DT} {vs : List Nat} {σ : L2.St} {H : Hp} {k : VK} (hv : ∀ i ∈ t.slots, i ∈ vs) (h : liftE P w (dLc I t tt te vs) σ H k) :
    tLc (liftI P w I) (t.g K) (liftT P w tt) (liftE P w te) vs σ H k := by
  obtain ⟨C, δ, Q, hh, hT, hk⟩ := h
  refine ⟨C, δ, _, hh, hT, fun J H1 ds it c1 k1 q1 D hD => ?_⟩
  have e0 : Ext C H1 (withC C D (.lst [])) (upd H1 D (.lst [])) := Ext.made c1 hD
  have n0 := c1.free hD
  refine go_lift (P := P) (w := w) (K := K) (C := C) (av := []) (acc := []) (Q := fun ps => Q (.d (.list ps))) (Fin := fun H => k (.ref D) H) ((hh.go c1 k1).ext (c1.made hD) e0) .nil (fun C' H' x c => it C' H' (e0.trans x) c) hv q1 fun H' av' acc' c2 ra ex q2 => ?_
  have e1 : Ext C H1 C H' := (e0.trans ex).trans (Ext.done n0)
  exact hk _ H' (.d (.list acc')) (Rp.lst n0 c2.at_ (ra.ext (Ext.done n0))) (c2.done n0) (k1.trans e1.keep) q2
theorem tLc2_lift {I I1 : DTI} {t t1 : Tgt} {tt1 : DTT} {te : DT} {vs vs1 : List Nat} {σ : L2.St} {H : Hp} {k : VK} (hv : ∀ i ∈ t.slots, i ∈ vs) (hv1 : ∀ i ∈ t1.slots, i ∈ vs1) (h : liftE P w (dLc2 I t I1 t1 tt1 te vs vs1) σ H k) :
    tLc2 (liftI P w I) (t.g K) tYes (liftI P w I1) (t1.g K) (liftT P w tt1) (liftE P w te) vs vs1 σ H k := by
  obtain ⟨C, δ, Q, hh, hT, hk⟩ := h
  refine ⟨C, δ, _, hh, hT, fun J H1 ds it c1 k1 q1 D hD => ?_⟩
  have e0 : Ext C H1 (withC C D (.lst [])) (upd H1 D (.lst [])) := Ext.made c1 hD
  have n0 := c1.free hD
  have h0 := (hh.go c1 k1).ext (c1.made (o := .lst []) hD) e0
  refine ⟨fun i m H => ∃ av' acc', m = ds.length - i ∧ i ≤ ds.length ∧ CellsOk (withC C D (.lst av')) H ∧ RpAll (withC C D (.lst av')) H av' acc' ∧ Ext (withC C D (.lst [])) (upd H1 D (.lst [])) (withC C D (.lst av')) H ∧ dGo2 t I1 t1 tt1 te vs1 (dwipe δ vs) (ds.drop i) acc' fun ps => Q (.d (.list ps)),
    ⟨ds.length, [], [], rfl, Nat.zero_le _, h0.cells, .nil, Ext.of Keep.refl, by simpa using q1⟩, ?_⟩
  rintro i m H ⟨av', acc', rfl, hle, hc, ra, ex, go⟩
  obtain ⟨it1, it2⟩ := it _ H (e0.trans ex) hc
  by_cases hlt : i < ds.length
  · have hd : ds[i]? = some ds[i] := List.getElem?_eq_getElem hlt
    obtain ⟨g1, g2⟩ := it1 i _ hd
    rw [List.drop_eq_getElem_cons hlt] at go
    refine .inr ⟨g1, fun H' => ∃ av2 acc2, CellsOk (withC C D (.lst av2)) H' ∧ RpAll (withC C D (.lst av2)) H' av2 acc2 ∧ Ext (withC C D (.lst [])) (upd H1 D (.lst [])) (withC C D (.lst av2)) H' ∧ dGo2 t I1 t1 tt1 te vs1 (dwipe δ vs) (ds.drop (i + 1)) acc2 fun ps => Q (.d (.list ps)),
      fun H' ⟨av2, acc2, h1, h2, h3, h4⟩ => ⟨ds.length - (i + 1), by omega, av2, acc2, rfl, hlt, h1, h2, h3, h4⟩, fun x H' y => ?_⟩
    obtain ⟨rx, c2, k2⟩ := g2 x H' y
    have ex1 := ex.trans (Ext.of k2)
    have go' : t.put ds[i] (dwipe δ vs) fun δ2 => I1 δ2 fun ds1 => dGo t1 tt1 te (dwipe δ2 vs1) ds1 acc' fun acc2 => dGo2 t I1 t1 tt1 te vs1 (dwipe δ vs) (ds.drop (i + 1)) acc2 fun ps => Q (.d (.list ps)) := go
    refine Tgt.go ((h0.ext c2 ex1).wipe (vs := vs)) rx go' fun σ2 δ2 h2 wq p2 => ⟨by rw [wq vs hv, wipe_wipe], ?_⟩
    show liftI P w I1 σ2 H' _
    refine ⟨_, δ2, _, h2, p2, fun J1 H4 ds1 it4 c4 k4 q4 => ?_⟩
    refine go_lift (P := P) (w := w) (K := K) (C := C) (Q := fun acc2 => dGo2 t I1 t1 tt1 te vs1 (dwipe δ vs) (ds.drop (i + 1)) acc2 fun ps => Q (.d (.list ps))) (h2.go c4 k4) (ra.keep (k2.trans k4)) it4 hv1 q4 fun H5 av5 acc5 c5 ra5 ex5 q5 => ?_
    exact ⟨av5, acc5, c5, ra5, (ex1.trans (Ext.of k4)).trans ex5, q5⟩
  · have e : i = ds.length := by omega
    subst e
    rw [List.drop_eq_nil_of_le (Nat.le_refl _)] at go
    have e1 : Ext C H1 C H := (e0.trans ex).trans (Ext.done n0)
    exact .inl ⟨it2 _ (Nat.le_refl _), hk _ H (.d (.list acc')) (Rp.lst n0 hc.at_ (ra.ext (Ext.done n0))) (hc.done n0) (k1.trans e1.keep) go⟩
end
end FL
/-! FL: statements, loops, defs. -/
namespace FL
open PySem PySem.Spec PyProof.Rows L2
def dNext : DTS := fun E δ => E.nx δ
def dSeq (t u : DTS) : DTS := fun E δ => t { E with nx := u E } δ
def dRet (T : DT) : DTS := fun E δ => T δ E.rt
def dAsg (T : DT) (t : Tgt) : DTS := fun E δ => T δ fun d => t.put d δ E.nx
def dPar (i j : Nat) (a b : DT) : DTS := fun E δ => a δ fun x => b δ fun y => E.nx ((δ.set i (some x)).set j (some y))
def dIfS (c : DTT) (t u : DTS) : DTS := fun E δ => c δ fun b => if b = true then t E δ else u E δ
def dNever : DTS := fun _ _ => False
def dDrop (T : DT) : DTS := fun E δ => T δ fun _ => E.nx δ
def dLoop (t : Tgt) (tb : DTS) (E : DEnds) : List D → DEnv → Prop
  | [], δ => E.nx δ
  | x :: xs, δ => t.put x δ fun δ' => tb { E with nx := dLoop t tb E xs, ct := dLoop t tb E xs, bk := E.nx } δ'
def dFor (I : DTI) (t : Tgt) (tb : DTS) : DTS := fun E δ => I δ fun ds => dLoop t tb E ds δ
def dWhile (c : DTT) (tb : DTS) : DTS := fun E δ => ∃ W : Nat → DEnv → Prop, (∃ m, W m δ) ∧ ∀ m δ, W m δ →
  c δ fun b => if b = true then tb { E with nx := fun δ' => ∃ m', m' < m ∧ W m' δ', ct := fun δ' => ∃ m', m' < m ∧ W m' δ', bk := E.nx } δ else E.nx δ
section
variable {X : Cx} {pos : Pos} {st : Stmt} {rest : List Stmt} {e c : Expr} {t u : DTS} {T Ta Tb : DT} {Tc : DTT}
theorem dss_nil : DSs X [] dNext := pss_wk pss_nil fun E σ H ⟨C, δ, DE, hh, hT, n, r, b, ct⟩ => n σ H δ hh Keep.refl hT
theorem dss_cons (h1 : DSt X st t) (h2 : DSs X rest u) : DSs X (st :: rest) (dSeq t u) := pss_wk (pss_cons h1 h2) fun E σ H ⟨C, δ, DE, hh, hT, n, r, b, ct⟩ =>
  ⟨C, δ, { DE with nx := u DE }, hh, hT, fun σ' H' δ' h' k' q => ⟨C, δ', DE, h', q, fun _ _ _ a k z => n _ _ _ a (k'.trans k) z, fun _ _ _ a c k z => r _ _ _ a c (k'.trans k) z, fun _ _ _ a k z => b _ _ _ a (k'.trans k) z, fun _ _ _ a k z => ct _ _ _ a (k'.trans k) z⟩, r, b, ct⟩
theorem dss_one (h1 : DSt X st t) : DSs X [st] t := pss_one h1
theorem ds_never : DSt X st dNever := ⟨fun _ _ _ _ _ _ ⟨_, _, _, _, h, _⟩ => h.elim⟩
theorem dss_never {sts : List Stmt} : DSs X sts dNever := ⟨fun _ _ _ _ _ _ ⟨_, _, _, _, h, _⟩ => h.elim⟩
theorem ds_pass : DSt X (.Pass pos) dNext := ps_wk ps_pass fun E σ H ⟨C, δ, DE, hh, hT, n, r, b, ct⟩ => n σ H δ hh Keep.refl hT
theorem ds_ret (he : DE X e T) : DSt X (.Return (some e) pos) (dRet T) := ps_wk (ps_ret he) fun E σ H ⟨C, δ, DE, hh, hT, n, r, b, ct⟩ =>
  ⟨C, δ, _, hh, hT, fun v H' d rd cd kd q => r v H' d rd cd kd q⟩
theorem ds_drop (he : DE X e T) (hs : swapsWith e none pos.line X.env = pure false := by rfl) : DSt X (.Expr e pos) (dDrop T) := ps_wk (ps_expr he hs) fun E σ H ⟨C, δ, DE, hh, hT, n, r, b, ct⟩ =>
  ⟨C, δ, _, hh, hT, fun v H' d rd cd kd q => n σ H' δ (hh.go cd kd) kd q⟩
theorem ds_if {a b : List Stmt} (hc : DTe X c Tc) (ha : DSs X a t) (hb : DSs X b u) : DSt X (.If c a b pos) (dIfS Tc t u) := ps_wk (ps_if hc ha hb) fun E σ H ⟨C, δ, DE, hh, hT, n, r, b, ct⟩ => by
  refine ⟨C, δ, _, hh, hT, fun x H1 c1 k1 q => ?_⟩
  cases x with
  | true => exact ⟨C, δ, DE, hh.go c1 k1, q, fun _ _ _ a k z => n _ _ _ a (k1.trans k) z, fun _ _ _ a c k z => r _ _ _ a c (k1.trans k) z, fun _ _ _ a k z => b _ _ _ a (k1.trans k) z, fun _ _ _ a k z => ct _ _ _ a (k1.trans k) z⟩
  | false => exact ⟨C, δ, DE, hh.go c1 k1, q, fun _ _ _ a k z => n _ _ _ a (k1.trans k) z, fun _ _ _ a c k z => r _ _ _ a c (k1.trans k) z, fun _ _ _ a k z => b _ _ _ a (k1.trans k) z, fun _ _ _ a k z => ct _ _ _ a (k1.trans k) z⟩
theorem tAsg_lift {P : Program} {w : World} {K : PySem.W.Frag} {te : TE} {tg : Tgt} {E : Ends} {σ : L2.St} {H : Hp} (i : ∀ k, liftE P w T σ H k → te σ H k) (h : liftS P w (dAsg T tg) E σ H) : tAsg te (tg.g K) E σ H := by
  obtain ⟨C, δ, DE, hh, hT, n, r, b, ct⟩ := h
  refine i _ ⟨C, δ, _, hh, hT, fun v H' d rd cd kd q => ?_⟩
  exact Tgt.go (hh.go cd kd) rd q fun σ' δ' h' _ q' => n σ' H' δ' h' kd q'
theorem ds_set {i : Nat} {x : Str} {pos' : Pos} (hN : X.N.Nodup) (hi : X.N[i]? = some x) (hx : Loc X.env.scope x) (he : DE X e T) (hs : swapsWith e (some (.Name x pos')) pos.line X.env = pure false := by rfl)
    (hf : X.fn x = true ∨ X.env.scope.names.lookup x = some .local := by first | exact .inl rfl | exact .inr rfl | assumption) : DSt X (.Assign [.Name x pos'] e pos) (dAsg T (.nm i)) :=
  ps_wk (ps_set hN hi hx he hs hf) fun E σ H h => tAsg_lift (K := X.K) (tg := .nm i) (fun _ z => z) h
/-- a nested target over a value -/
theorem ds_asg {tg : Expr} {t : Tgt} (he : DE X e T) (hg : PG X tg (t.g X.K)) (hs : swapsWithSole [tg] e pos.line X.env = pure false := by rfl) (hw : swappedStores [tg] e X.env = pure none := by rfl)
    (h1 : (assignEach [tg] X.env).map (·.2) = [assign tg X.env] := by rfl) : DSt X (.Assign [tg] e pos) (dAsg T t) := ps_wk (ps_asg he hg hs hw h1) fun E σ H h => tAsg_lift (K := X.K) (fun _ z => z) h
theorem pg_two {ea eb : Expr} {a b : Tgt} {k : Nat} (hc : X.calm = true) (ha : PG X ea (a.g X.K)) (hb : PG X eb (b.g X.K)) (hn : (assignEach [ea, eb] X.env).length = 2 := by rfl) (hst : (assignEach [ea, eb] X.env).findIdx? (·.1) = none := by rfl)
    (hs : (assignEach [ea, eb] X.env).map (·.2) = assign ea X.env :: (assignEach [eb] X.env).map (·.2) := by rfl) (hs2 : (assignEach [eb] X.env).map (·.2) = assign eb X.env :: (assignEach [] X.env).map (·.2) := by rfl) : PG X (.Tuple [ea, eb] k pos) ((Tgt.two a b).g X.K) :=
  pg_tup hc (pgs_cons ha (pgs_cons hb pgs_nil hs2) hs) hn hst
theorem pg_nm {i : Nat} {x : Str} (hN : X.N.Nodup) (hi : X.N[i]? = some x) (hx : Loc X.env.scope x) (hf : X.fn x = true ∨ X.env.scope.names.lookup x = some .local := by first | exact .inl rfl | exact .inr rfl | assumption) : PG X (.Name x pos) ((Tgt.nm i).g X.K) := pg_name hN hi hx hf
/-- a, b = x, y by a pair (a name is a cell) -/
theorem ds_par2 {i j : Nat} {ea eb xa xb : Expr} {kt k2 : Nat} {pt pt2 : Pos} (hc : X.calm = true) (hga : PG X ea ((Tgt.nm i).g X.K)) (hgb : PG X eb ((Tgt.nm j).g X.K)) (ha : DE X xa Ta) (hb : DE X xb Tb)
    (hsa : starEach [xa, xb] X.env = (false, eval xa X.env) :: starEach [xb] X.env := by rfl) (hsb : starEach [xb] X.env = (false, eval xb X.env) :: starEach [] X.env := by rfl)
    (hn : (assignEach [ea, eb] X.env).length = 2 := by rfl) (hst : (assignEach [ea, eb] X.env).findIdx? (·.1) = none := by rfl)
    (hs1 : (assignEach [ea, eb] X.env).map (·.2) = assign ea X.env :: (assignEach [eb] X.env).map (·.2) := by rfl) (hs2 : (assignEach [eb] X.env).map (·.2) = assign eb X.env :: (assignEach [] X.env).map (·.2) := by rfl)
    (hs : swapsWithSole [.Tuple [ea, eb] kt pt] (.Tuple [xa, xb] k2 pt2) pos.line X.env = pure false := by rfl) (hw : swappedStores [.Tuple [ea, eb] kt pt] (.Tuple [xa, xb] k2 pt2) X.env = pure none := by rfl)
    (h1 : (assignEach [.Tuple [ea, eb] kt pt] X.env).map (·.2) = [assign (.Tuple [ea, eb] kt pt) X.env] := by rfl) : DSt X (.Assign [.Tuple [ea, eb] kt pt] (.Tuple [xa, xb] k2 pt2) pos) (dPar i j Ta Tb) :=
  ps_wk (ps_asg (pe_tup (pa_cons ha (pa_cons hb pa_nil hsb) hsa)) (pg_tup hc (pgs_cons hga (pgs_cons hgb pgs_nil hs2) hs1) hn hst) hs hw h1) fun E σ H ⟨C, δ, DE, hh, hT, n, r, b, ct⟩ => by
    refine ⟨C, δ, _, hh, hT, fun v1 H1 d1 r1 c1 k1 q1 => ⟨C, δ, _, hh.go c1 k1, q1, fun v2 H2 d2 r2 c2 k2 q2 => ⟨le_line (show 2 ≤ 1000 by decide), fun p hp => ?_⟩⟩⟩
    refine ⟨p, _, rfl, SqT.of upd_same, rfl, _, _, rfl, ?_⟩
    have kn : Keep C H2 (upd H2 p (.tup [v1, v2])) := Keep.new hp
    have h3 := hh.go (c2.new (o := .tup [v1, v2]) hp) (k1.trans (k2.trans kn))
    exact ⟨_, _, rfl, rfl, n _ _ _ ((h3.set (r1.keep (k2.trans kn))).set (r2.keep kn)) (k1.trans (k2.trans kn)) q2⟩
theorem ds_par {i j : Nat} {x y : Str} {xa xb : Expr} {px py pt : Pos} {kt k2 pt2} (hc : X.calm = true) (hN : X.N.Nodup) (hi : X.N[i]? = some x) (hj : X.N[j]? = some y) (hij : i ≠ j)
    (hx : X.env.scope.names.lookup x = some .local) (hy : X.env.scope.names.lookup y = some .local) (ha : DE X xa Ta) (hb : DE X xb Tb)
    (hw : swappedStores [.Tuple [.Name x px, .Name y py] kt pt] (.Tuple [xa, xb] k2 pt2) X.env = pure (some [x, y]))
    (hsa : starEach [xa, xb] X.env = (false, eval xa X.env) :: starEach [xb] X.env := by rfl) (hsb : starEach [xb] X.env = (false, eval xb X.env) :: starEach [] X.env := by rfl)
    (hs : swapsWithSole [.Tuple [.Name x px, .Name y py] kt pt] (.Tuple [xa, xb] k2 pt2) pos.line X.env = pure false := by rfl) :
    DSt X (.Assign [.Tuple [.Name x px, .Name y py] kt pt] (.Tuple [xa, xb] k2 pt2) pos) (dPar i j Ta Tb) :=
  ps_wk (ps_par hc hN hi hj hij hx hy (pa_cons ha (pa_cons hb pa_nil hsb) hsa) hw hs) fun E σ H ⟨C, δ, DE, hh, hT, n, r, b, ct⟩ => by
    refine ⟨C, δ, _, hh, hT, fun v1 H1 d1 r1 c1 k1 q1 => ⟨C, δ, _, hh.go c1 k1, q1, fun v2 H2 d2 r2 c2 k2 q2 => ⟨_, _, rfl, ?_⟩⟩⟩
    exact n _ _ _ (((hh.go c2 (k1.trans k2)).set (r1.keep k2)).set r2) (k1.trans k2) q2
end
/-! ### loops -/
section
variable {X : Cx} {pos : Pos} {tg iter c : Expr} {body : List Stmt} {I : DTI} {t : Tgt} {tb : DTS} {tc : DTT}
theorem ds_for (hp : PassesOwn (model X.prog X.w) X.A X.env X.xe) (hc : X.calm = true) (hi : DI X tg iter I) (hg : PG X tg (t.g X.K)) (hb : DSs X body tb)
    (hs : ∀ x, foldedSetIterable iter X.env x = pure x := by intro _; rfl) : DSt X (.For tg iter body [] pos) (dFor I t tb) := ps_wk (ps_for hp hc hi hg hb hs) fun E σ H ⟨C, δ, DE, hh, hT, n, r, b, ct⟩ => by
  refine ⟨C, δ, _, hh, hT, fun J H1 ds it c1 k1 q1 => ?_⟩
  refine ⟨fun i m σ' H' => ∃ δ', m = ds.length - i ∧ i ≤ ds.length ∧ Here X.prog X.w C H' σ' δ' ∧ Keep C H1 H' ∧ dLoop t tb DE (ds.drop i) δ', ⟨ds.length, δ, rfl, Nat.zero_le _, hh.go c1 k1, Keep.refl, by simpa using q1⟩, ?_⟩
  rintro i m σ2 H2 ⟨δ2, rfl, hle, h2, k2, go⟩
  obtain ⟨it1, it2⟩ := it C H2 (Ext.of k2) h2.cells
  by_cases hlt : i < ds.length
  · have hd : ds[i]? = some ds[i] := List.getElem?_eq_getElem hlt
    obtain ⟨g1, g2⟩ := it1 i _ hd
    rw [List.drop_eq_getElem_cons hlt] at go
    refine .inr ⟨g1, fun σ' H' => ∃ δ', Here X.prog X.w C H' σ' δ' ∧ Keep C H1 H' ∧ dLoop t tb DE (ds.drop (i + 1)) δ', fun σ' H' ⟨δ', a1, a2, a3⟩ => ⟨ds.length - (i + 1), by omega, δ', rfl, hlt, a1, a2, a3⟩, fun x H' y => ?_⟩
    obtain ⟨rx, c3, k3⟩ := g2 x H' y
    have go' : t.put ds[i] δ2 fun δ' => tb { DE with nx := dLoop t tb DE (ds.drop (i + 1)), ct := dLoop t tb DE (ds.drop (i + 1)), bk := DE.nx } δ' := go
    refine Tgt.go (h2.go c3 k3) rx go' fun σ4 δ4 h4 _ q4 => ?_
    exact ⟨C, δ4, _, h4, q4, fun _ _ _ a k z => ⟨_, a, (k2.trans k3).trans k, z⟩, fun _ _ _ a c k z => r _ _ _ a c ((k1.trans (k2.trans k3)).trans k) z, fun _ _ _ a k z => n _ _ _ a ((k1.trans (k2.trans k3)).trans k) z, fun _ _ _ a k z => ⟨_, a, (k2.trans k3).trans k, z⟩⟩
  · have e : i = ds.length := by omega
    subst e
    rw [List.drop_eq_nil_of_le (Nat.le_refl _)] at go
    exact .inl ⟨it2 _ (Nat.le_refl _), n _ _ _ h2 (k1.trans k2) go⟩
theorem ds_while (hp : PassesOwn (model X.prog X.w) X.A X.env X.xe) (hc : DTe X c tc) (hb : DSs X body tb) : DSt X (.While c body [] pos) (dWhile tc tb) := ps_wk (ps_while hp hc hb) fun E σ H ⟨C, δ, DE, hh, ⟨W, ⟨m0, w0⟩, turn⟩, n, r, b, ct⟩ => by
  refine ⟨fun m σ' H' => ∃ δ', Here X.prog X.w C H' σ' δ' ∧ Keep C H H' ∧ W m δ', ⟨m0, δ, hh, Keep.refl, w0⟩, ?_⟩
  rintro m σ1 H1 ⟨δ1, h1, k1, w1⟩
  refine ⟨C, δ1, _, h1, turn m δ1 w1, fun x H2 c2 k2 q => ?_⟩
  cases x with
  | false => exact n _ _ _ (h1.go c2 k2) (k1.trans k2) q
  | true =>
    refine ⟨fun σ' H' => ∃ δ', Here X.prog X.w C H' σ' δ' ∧ Keep C H H' ∧ ∃ m', m' < m ∧ W m' δ', fun σ' H' ⟨δ', a1, a2, m', a3, a4⟩ => ⟨m', a3, δ', a1, a2, a4⟩, ?_⟩
    exact ⟨C, δ1, _, h1.go c2 k2, q, fun _ _ _ a k z => ⟨_, a, (k1.trans k2).trans k, z⟩, fun _ _ _ a c k z => r _ _ _ a c ((k1.trans k2).trans k) z, fun _ _ _ a k z => n _ _ _ a ((k1.trans k2).trans k) z, fun _ _ _ a k z => ⟨_, a, (k1.trans k2).trans k, z⟩⟩
end
/-! ### comprehensions -/
section
variable {X : Cx} {pos : Pos} {elt tg iter tg1 iter1 : Expr} {ifs ifs1 : List Expr} {scope : Scope} {own : List (Str × Nat)} {vs1 : List Nat} {I I1 : DTI} {t t1 : Tgt} {tt tt1 : DTT} {te : DT}
abbrev DTs (X : Cx) (ifs : List Expr) (T : DTT) : Prop := PTs X ifs (liftT X.prog X.w T)
theorem dts_nil : DTs X [] dYes := ⟨fun pins s σ H Q I ⟨C, δ, q, hh, hT, hk⟩ => pts_nil.run pins s σ H Q I (hk true H hh.cells Keep.refl hT)⟩
theorem dts_one {c : Expr} {T : DTT} (h : DTe X c T) : DTs X [c] T := pts_one h
theorem de_lc (hc : X.calm = true) (hN : X.N.Nodup) (hi : DI X tg iter I) (ok : BlkOk X.N X.env.scope scope own)
    (hg : ∀ (s : Shared) (H : Hp) (C : Addr) (cl : List (Str × Addr)) (fp : List Addr), PG (X.blk s H scope (compEnvC scope cl C X.env) fp) tg (t.g X.K)) (ht : ∀ (s : Shared) (H : Hp) (C : Addr) (cl : List (Str × Addr)) (fp : List Addr), DTs (X.blk s H scope (compEnvC scope cl C X.env) fp) ifs tt)
    (he : ∀ (s : Shared) (H : Hp) (C : Addr) (cl : List (Str × Addr)) (fp : List Addr), DE (X.blk s H scope (compEnvC scope cl C X.env) fp) elt te) (hv : ∀ i ∈ t.slots, i ∈ own.map (·.2) := by decide) (hs : ∀ x, foldedSetIterable iter X.env x = pure x := by intro _; rfl) :
    DE X (.ListComp elt [⟨tg, iter, ifs, 0⟩] scope pos) (dLc I t tt te (own.map (·.2))) := pe_wk (pe_lc hc hN hi ok hg ht he hs) fun σ H k h => tLc_lift (K := X.K) hv h
theorem de_lc2 (hc : X.calm = true) (hN : X.N.Nodup) (hi : DI X tg iter I) (ok : BlkOk X.N X.env.scope scope own) (hv1 : ∀ i ∈ vs1, i ∈ own.map (·.2))
    (hg : ∀ (s : Shared) (H : Hp) (C : Addr) (cl : List (Str × Addr)) (fp : List Addr), PG (X.blk s H scope (compEnvC scope cl C X.env) fp) tg (t.g X.K))
    (hi1 : ∀ (s : Shared) (H : Hp) (C : Addr) (cl : List (Str × Addr)) (fp : List Addr), DI (X.blk s H scope (compEnvC scope cl C X.env) fp) tg1 iter1 I1)
    (hg1 : ∀ (s : Shared) (H : Hp) (C : Addr) (cl : List (Str × Addr)) (fp : List Addr), PG (X.blk s H scope (compEnvC scope cl C X.env) fp) tg1 (t1.g X.K)) (ht1 : ∀ (s : Shared) (H : Hp) (C : Addr) (cl : List (Str × Addr)) (fp : List Addr), DTs (X.blk s H scope (compEnvC scope cl C X.env) fp) ifs1 tt1)
    (he : ∀ (s : Shared) (H : Hp) (C : Addr) (cl : List (Str × Addr)) (fp : List Addr), DE (X.blk s H scope (compEnvC scope cl C X.env) fp) elt te) (hv : ∀ i ∈ t.slots, i ∈ own.map (·.2) := by decide) (hv' : ∀ i ∈ t1.slots, i ∈ vs1 := by decide)
    (hs : ∀ x, foldedSetIterable iter X.env x = pure x := by intro _; rfl) (hs1 : ∀ env x, foldedSetIterable iter1 env x = pure x := by intro _ _; rfl) :
    DE X (.ListComp elt [⟨tg, iter, [], 0⟩, ⟨tg1, iter1, ifs1, 0⟩] scope pos) (dLc2 I t I1 t1 tt1 te (own.map (·.2)) vs1) := pe_wk (pe_lc2 hc hN hi ok hv1 hg (fun _ _ _ _ _ => pts_nil) hi1 hg1 ht1 he hs hs1) fun σ H k h => tLc2_lift (K := X.K) hv hv' h
/-- name = [..] -/
theorem ds_setLc {i : Nat} {y : Str} {py spos : Pos} (hc : X.calm = true) (hN : X.N.Nodup) (hy : X.N[i]? = some y) (hyl : X.env.scope.names.lookup y = some .local)
    (hsw : swapsWith (.ListComp elt [⟨tg, iter, ifs, 0⟩] scope pos) (some (.Name y py)) spos.line X.env = pure true) (hi : DI X tg iter I) (ok : BlkOk X.N X.env.scope scope own)
    (hg : ∀ (s : Shared) (H : Hp) (C : Addr) (cl : List (Str × Addr)) (fp : List Addr), PG (X.blk s H scope (compEnvC scope cl C X.env) fp) tg (t.g X.K)) (ht : ∀ (s : Shared) (H : Hp) (C : Addr) (cl : List (Str × Addr)) (fp : List Addr), DTs (X.blk s H scope (compEnvC scope cl C X.env) fp) ifs tt)
    (he : ∀ (s : Shared) (H : Hp) (C : Addr) (cl : List (Str × Addr)) (fp : List Addr), DE (X.blk s H scope (compEnvC scope cl C X.env) fp) elt te) (hv : ∀ i ∈ t.slots, i ∈ own.map (·.2) := by decide) (hs : ∀ x, foldedSetIterable iter X.env x = pure x := by intro _; rfl) :
    DSt X (.Assign [.Name y py] (.ListComp elt [⟨tg, iter, ifs, 0⟩] scope pos) spos) (dAsg (dLc I t tt te (own.map (·.2))) (.nm i)) :=
  ps_wk (ps_setLc hc hN hy hyl hsw hi ok hg ht he hs) fun E σ H h => tAsg_lift (K := X.K) (tg := .nm i) (fun k z => tLc_lift (K := X.K) hv z) h
end
/-! ### defs -/
def dstart (N : List Str) (ds : List D) : DEnv := ds.map some ++ List.replicate (N.length - ds.length) none
theorem start_here {P : Program} {w : World} {C : Cells} {H : Hp} {N : List Str} {vs : List V} {ds : List D} (r : RepAll P w C H vs ds) (c : CellsOk C H) : Here P w C H (L2.start N vs) (dstart N ds) := by
  have hl : vs.length = ds.length := Paired.length r
  refine ⟨fun i d e => ?_, c, by unfold L2.start dstart; simp [hl]⟩
  unfold dstart at e
  have hi : i < ds.length := by
    by_cases h : i < ds.length
    · exact h
    · rw [List.getElem?_append_right (by simpa using h)] at e
      obtain ⟨_, e2⟩ := List.getElem?_eq_some_iff.mp e
      simp at e2
  rw [List.getElem?_append_left (by simpa using hi), List.getElem?_map] at e
  obtain ⟨d', h1, h2⟩ := Option.map_eq_some_iff.mp e
  cases h2
  have key : ∀ {vs : List V} {ds : List D} {i : Nat} {d : D}, RepAll P w C H vs ds → ds[i]? = some d → ∃ v, vs[i]? = some v ∧ RepD P w C H v d := by
    intro vs ds
    induction ds generalizing vs with
    | nil => intro i d _ h; simp at h
    | cons d0 ds ih =>
      intro i d h e
      cases h with
      | cons r t =>
        cases i with
        | zero =>
          simp at e
          subst e
          exact ⟨_, rfl, r⟩
        | succ i =>
          obtain ⟨v, h1, h2⟩ := ih t (i := i) (by simpa using e)
          exact ⟨v, by simpa using h1, h2⟩
  obtain ⟨v, h3, h4⟩ := key r h1
  refine ⟨v, ?_, h4⟩
  unfold L2.start
  rw [List.getElem?_append_left (by simp; omega), List.getElem?_map, h3]
  rfl
/-- THE RULE for a def: T what it promises, Tb what its body does -/
theorem fl_fn {P : Program} {w : World} {K : PySem.W.Frag} {mg : Str → Option Value} {base : Heap} {x qual : Str} {params : Arguments} {body : List Stmt} {scope : Scope} {f : Addr} {fd : FuncData} {N ps : List Str} {k : Nat} (F : FunD K x qual params body scope [] [] f fd) (S : FnScope N ps scope)
    (T : DRs) (Tb : DTS) (hlen : ∀ ds Q, T ds Q → ds.length = ps.length) (hT : ∀ ds Q, T ds Q → Tb { nx := fun _ => Q dN, rt := Q } (dstart N ds))
    (hb : ∀ (cdv : Value) (A : Around) (outer : List Env) (s : Shared) (H : Hp) (E : XK), Room k (A.deeper (envOfC qual scope s.heap.objs.size f cdv)) → DSs (cxOf CX0 P w K mg base N qual scope f cdv A outer s H E).nox body Tb) :
    FnOk P w K mg base CX0 (k + 1) f fd ps (liftSp P w T) := by
  refine F.ok S (fun vs H Q E h => ?_) (fun cdv A outer s H vs Q E hr h => ⟨liftS P w Tb, PSs.nox (hb cdv A outer s H E hr), ?_⟩)
  · obtain ⟨C, ds, Q', r, c, t, _⟩ := h
    rw [Paired.length r]
    exact hlen ds Q' t
  · obtain ⟨C, ds, Q', r, c, t, hk⟩ := h
    exact ⟨C, dstart N ds, _, start_here r c, hT ds Q' t, fun σ' H' δ' h' k' q => hk .non H' dN Rp.non h'.cells k' q, fun v H' d rd cd kd q => hk v H' d rd cd kd q, fun _ _ _ _ _ q => q.elim, fun _ _ _ _ _ q => q.elim⟩
end FL
/-! FL: operations by values. -/
namespace FL
open PySem PySem.Spec PyProof.Rows L2
section
variable {X : Cx}
/-- two ints in -/
def drI (Cd : Int → Int → Prop) (g : Int → Int → PyData) : DR2 := fun x y Q => match x, y with
  | .d (.int i), .d (.int j) => Cd i j ∧ Q (.d (g i j))
  | _, _ => False
def drI0 (g : Int → Int → PyData) : DR2 := fun x y Q => match x, y with
  | .d (.int i), .d (.int j) => Q (.d (g i j))
  | _, _ => False
theorem lift_I {f : Value → Value → Sem Value} {Cd : Int → Int → Prop} {g : Int → Int → V} {g' : Int → Int → PyData} (h : OpR X f (rI Cd g)) (hg : ∀ C H i j, Rp C H (g i j) (g' i j)) : OpR X f (lift2 X.prog X.w (drI Cd g')) :=
  or_wk h fun x y H k ⟨C, d, e, Q, r1, r2, c, q, hk⟩ => by
    unfold drI at q
    split at q
    · rename_i i j
      exact ⟨i, j, Rp.int_inv r1, Rp.int_inv r2, q.1, hk _ H (.d (g' i j)) (hg C H i j) c Keep.refl q.2⟩
    · exact q.elim
theorem lift_I0 {f : Value → Value → Sem Value} {g : Int → Int → V} {g' : Int → Int → PyData} (h : OpR X f (rI0 g)) (hg : ∀ C H i j, Rp C H (g i j) (g' i j)) : OpR X f (lift2 X.prog X.w (drI0 g')) :=
  or_wk h fun x y H k ⟨C, d, e, Q, r1, r2, c, q, hk⟩ => by
    unfold drI0 at q
    split at q
    · rename_i i j
      exact ⟨i, j, Rp.int_inv r1, Rp.int_inv r2, hk _ H (.d (g' i j)) (hg C H i j) c Keep.refl q⟩
    · exact q.elim
abbrev drAdd : DR2 := drI0 fun i j => .int (i + j)
abbrev drSub : DR2 := drI0 fun i j => .int (i - j)
abbrev drMul : DR2 := drI CMul fun i j => .int (i * j)
abbrev drFdiv : DR2 := drI CDiv fun i j => .int (i / j)
abbrev drMod : DR2 := drI (fun _ j => 0 < j) fun i j => .int (i % j)
abbrev drPow : DR2 := drI CPow fun i j => .int (i ^ j.toNat)
abbrev drLt : DR2 := drI0 fun i j => .bool (decide (i < j))
abbrev drLe : DR2 := drI0 fun i j => .bool (decide (i ≤ j))
abbrev drGt : DR2 := drI0 fun i j => .bool (decide (j < i))
abbrev drGe : DR2 := drI0 fun i j => .bool (decide (j ≤ i))
theorem od_add : OpR X (binaryOp .Add) (lift2 X.prog X.w drAdd) := lift_I0 op_add fun _ _ _ _ => .int _
theorem od_sub : OpR X (binaryOp .Sub) (lift2 X.prog X.w drSub) := lift_I0 op_sub fun _ _ _ _ => .int _
theorem od_mul : OpR X (binaryOp .Mult) (lift2 X.prog X.w drMul) := lift_I op_mul fun _ _ _ _ => .int _
theorem od_fdiv : OpR X (binaryOp .FloorDiv) (lift2 X.prog X.w drFdiv) := lift_I op_fdiv fun _ _ _ _ => .int _
theorem od_mod : OpR X (binaryOp .Mod) (lift2 X.prog X.w drMod) := lift_I op_mod fun _ _ _ _ => .int _
theorem od_pow : OpR X (binaryOp .Pow) (lift2 X.prog X.w drPow) := lift_I op_pow fun _ _ _ _ => .int _
theorem od_lt : OpR X (compareOp .Lt) (lift2 X.prog X.w drLt) := lift_I0 op_lt fun _ _ _ _ => .bl _
theorem od_le : OpR X (compareOp .LtE) (lift2 X.prog X.w drLe) := lift_I0 op_le fun _ _ _ _ => .bl _
theorem od_gt : OpR X (compareOp .Gt) (lift2 X.prog X.w drGt) := lift_I0 op_gt fun _ _ _ _ => .bl _
theorem od_ge : OpR X (compareOp .GtE) (lift2 X.prog X.w drGe) := lift_I0 op_ge fun _ _ _ _ => .bl _
/-! ### equality, membership -/
def okd (p : PyData) : Prop := SeqAt.shaped p = true
def drEq : DR2 := fun x y Q => match x, y with
  | .d p, .d q => okd p ∧ okd q ∧ Q (dB (PyData.eqv p q))
  | _, _ => False
def drNe : DR2 := fun x y Q => match x, y with
  | .d p, .d q => okd p ∧ okd q ∧ Q (dB (!PyData.eqv p q))
  | _, _ => False
theorem od_eq (hu : X.A.units + 64 < cLine) : OpR X (compareOp .Eq) (lift2 X.prog X.w drEq) := or_wk (op_eqD hu) fun x y H k ⟨C, d, e, Q, r1, r2, c, q, hk⟩ => by
  unfold drEq at q
  split at q
  · rename_i p p'
    exact ⟨p, p', Rp.dp r1, Rp.dp r2, q.1, q.2.1, hk _ H (dB _) (Rp.bl _) c Keep.refl q.2.2⟩
  · exact q.elim
theorem od_ne (hu : X.A.units + 64 < cLine) : OpR X (compareOp .NotEq) (lift2 X.prog X.w drNe) := or_wk (op_neD hu) fun x y H k ⟨C, d, e, Q, r1, r2, c, q, hk⟩ => by
  unfold drNe at q
  split at q
  · rename_i p p'
    exact ⟨p, p', Rp.dp r1, Rp.dp r2, q.1, q.2.1, hk _ H (dB _) (Rp.bl _) c Keep.refl q.2.2⟩
  · exact q.elim
/-- in, over a tuple -/
def drInT : DR2 := fun x y Q => match x, y with
  | .d p, .d (.tuple ps) => okd p ∧ PyData.canLayAll0 ps = true ∧ Q (dB (ps.any fun z => PyData.eqv z p))
  | _, _ => False
def drNotInT : DR2 := fun x y Q => match x, y with
  | .d p, .d (.tuple ps) => okd p ∧ PyData.canLayAll0 ps = true ∧ Q (dB (!ps.any fun z => PyData.eqv z p))
  | _, _ => False
theorem od_inT (hu : X.A.units + 65 < cLine) : OpR X (compareOp .In) (lift2 X.prog X.w drInT) := by
  intro pins s σ H x y v u k I rx ry ⟨C, d, e, Q, r1, r2, c, q, hk⟩
  unfold drInT at q
  split at q
  · rename_i p ps
    obtain ⟨as, h1⟩ := Dp.reads I p x v (Rp.dp (K := X.K) r1) rx
    obtain ⟨bs, h2⟩ := Dp.reads I (.tuple ps) y u (Rp.dp (K := X.K) r2) ry
    exact SeqAt.in_tuple_reads h2 h1 q.2.1 (SeqAt.canLay_of_shaped q.1) (room_in_shaped q.1 hu) ⟨.bl _, H, I, rfl, hk _ H (dB _) (Rp.bl _) c Keep.refl q.2.2⟩
  · exact q.elim
theorem od_notInT (hu : X.A.units + 65 < cLine) : OpR X (compareOp .NotIn) (lift2 X.prog X.w drNotInT) := by
  intro pins s σ H x y v u k I rx ry ⟨C, d, e, Q, r1, r2, c, q, hk⟩
  unfold drNotInT at q
  split at q
  · rename_i p ps
    obtain ⟨as, h1⟩ := Dp.reads I p x v (Rp.dp (K := X.K) r1) rx
    obtain ⟨bs, h2⟩ := Dp.reads I (.tuple ps) y u (Rp.dp (K := X.K) r2) ry
    exact SeqAt.notIn_tuple_reads h2 h1 q.2.1 (SeqAt.canLay_of_shaped q.1) (room_in_shaped q.1 hu) ⟨.bl _, H, I, rfl, hk _ H (dB _) (Rp.bl _) c Keep.refl q.2.2⟩
  · exact q.elim
/-- is None -/
def drIsN : DR2 := fun x y Q => match x, y with
  | .d .none, .d .none => Q (dB true)
  | .d _, .d .none => Q (dB false)
  | .dct _, .d .none => Q (dB false)
  | _, _ => False
def drNotN : DR2 := fun x y Q => match x, y with
  | .d .none, .d .none => Q (dB false)
  | .d _, .d .none => Q (dB true)
  | .dct _, .d .none => Q (dB true)
  | _, _ => False
theorem rp_none {C : Cells} {H : Hp} {v : V} {p : PyData} (r : Rp C H v p) : v = .non ↔ p = .none := by
  cases r <;> simp
theorem od_isN : OpR X (compareOp .Is) (lift2 X.prog X.w drIsN) := or_wk op_isN fun x y H k ⟨C, d, e, Q, r1, r2, c, q, hk⟩ => by
  unfold drIsN at q
  split at q
  · rw [show decide (x = V.non) = true from decide_eq_true (Rp.non_inv r1)]
    exact ⟨Rp.non_inv r2, hk _ H (dB true) (Rp.bl _) c Keep.refl q⟩
  · rename_i p hp
    rw [show decide (x = V.non) = false from decide_eq_false fun z => hp (by have := (rp_none r1).mp z; rw [this])]
    exact ⟨Rp.non_inv r2, hk _ H (dB false) (Rp.bl _) c Keep.refl q⟩
  · obtain ⟨a, xs, e, _⟩ := r1
    rw [show decide (x = V.non) = false from decide_eq_false fun z => by rw [e] at z; cases z]
    exact ⟨Rp.non_inv r2, hk _ H (dB false) (Rp.bl _) c Keep.refl q⟩
  · exact q.elim
theorem od_notN : OpR X (compareOp .IsNot) (lift2 X.prog X.w drNotN) := or_wk op_notN fun x y H k ⟨C, d, e, Q, r1, r2, c, q, hk⟩ => by
  unfold drNotN at q
  split at q
  · rw [show decide (x = V.non) = true from decide_eq_true (Rp.non_inv r1)]
    exact ⟨Rp.non_inv r2, hk _ H (dB false) (Rp.bl _) c Keep.refl q⟩
  · rename_i p hp
    rw [show decide (x = V.non) = false from decide_eq_false fun z => hp (by have := (rp_none r1).mp z; rw [this])]
    exact ⟨Rp.non_inv r2, hk _ H (dB true) (Rp.bl _) c Keep.refl q⟩
  · obtain ⟨a, xs, e, _⟩ := r1
    rw [show decide (x = V.non) = false from decide_eq_false fun z => by rw [e] at z; cases z]
    exact ⟨Rp.non_inv r2, hk _ H (dB true) (Rp.bl _) c Keep.refl q⟩
  · exact q.elim
/-! ### subscripts, slices -/
theorem atI_rp {C : Cells} {H : Hp} {vs : List V} {ps : List PyData} (r : RpAll C H vs ps) {i : Int} {p : PyData} (h : atI ps i = some p) : ∃ v, atI vs i = some v ∧ Rp C H v p := by
  unfold atI at h ⊢
  obtain ⟨j, h1, h2⟩ := Option.bind_eq_some_iff.mp h
  obtain ⟨v, h3, h4⟩ := r.get h2
  exact ⟨v, Option.bind_eq_some_iff.mpr ⟨j, by rw [r.length]; exact h1, h3⟩, h4⟩
def drIxL : DR2 := fun x y Q => match x, y with
  | .d (.list ps), .d (.int i) => (match atI ps i with
    | some p => Q (.d p)
    | none => False)
  | _, _ => False
def drIxT : DR2 := fun x y Q => match x, y with
  | .d (.tuple ps), .d (.int i) => (match atI ps i with
    | some p => Q (.d p)
    | none => False)
  | _, _ => False
theorem xd_list : IxR X (lift2 X.prog X.w drIxL) := ix_wk ix_list fun x y H k ⟨C, d, e, Q, r1, r2, c, q, hk⟩ => by
  unfold drIxL at q
  split at q
  · rename_i ps i
    split at q
    · rename_i p hp
      have r1' : Rp C H x (.list ps) := r1
      cases r1' with
      | lst n s ra =>
        obtain ⟨v, h1, h2⟩ := atI_rp ra hp
        exact ⟨_, _, i, v, rfl, Rp.int_inv r2, SqL.of s, h1, hk v H (.d p) h2 c Keep.refl q⟩
    · exact q.elim
  · exact q.elim
theorem xd_tup : IxR X (lift2 X.prog X.w drIxT) := ix_wk ix_tup fun x y H k ⟨C, d, e, Q, r1, r2, c, q, hk⟩ => by
  unfold drIxT at q
  split at q
  · rename_i ps i
    split at q
    · rename_i p hp
      have r1' : Rp C H x (.tuple ps) := r1
      cases r1' with
      | tup n s ra =>
        obtain ⟨v, h1, h2⟩ := atI_rp ra hp
        exact ⟨_, _, i, v, rfl, Rp.int_inv r2, SqT.of s, h1, hk v H (.d p) h2 c Keep.refl q⟩
    · exact q.elim
  · exact q.elim
/-- xs[k:] of a list -/
def dTail (k : Nat) (T : DT) : DT := fun δ Q => T δ fun x => match x with
  | .d (.list ps) => Q (.d (.list (ps.drop k)))
  | _ => False
/-- t[:k] of a tuple -/
def dHead (k : Nat) (T : DT) : DT := fun δ Q => T δ fun x => match x with
  | .d (.tuple ps) => k < ps.length ∧ Q (.d (.tuple (ps.take k)))
  | _ => False
def dRev (T : DT) : DT := fun δ Q => T δ fun x => match x with
  | .d (.list ps) => Q (.d (.list ps.reverse))
  | _ => False
theorem cut_tail (xs : List V) (k : Nat) : cutV xs (some (k : Int)) none = xs.drop k := by
  unfold cutV
  rw [HT.sIx_nat, HT.sIx_none]
  by_cases h : k ≤ xs.length
  · rw [Nat.min_eq_left h, ← List.length_drop, List.take_length]
  · rw [Nat.min_eq_right (by omega), List.drop_eq_nil_of_le (Nat.le_refl _), List.drop_eq_nil_of_le (by omega)]
    simp
theorem cut_head (xs : List V) (k : Nat) (h : k ≤ xs.length) : cutV xs none (some (k : Int)) = xs.take k := by
  unfold cutV
  rw [HT.sIx_nat, HT.sIx_none, Nat.min_eq_left h]
  simp
variable {e : Expr} {T : DT} {pos p2 : Pos}
theorem de_tail {k : Nat} {j : Nat} {p1 : Pos} (he : DE X e T) : DE X (.Subscript e (.Slice (some (.Constant (.int (k : Int)) j p1)) none none p2) pos) (dTail k T) := pe_wk (pe_slice sl_list he (po_some pe_int) po_none) fun σ H kk ⟨C, δ, Q, hh, hT, hk⟩ => by
  refine ⟨C, δ, _, hh, hT, fun v H1 d r1 c1 k1 q => ?_⟩
  split at q
  · rename_i ps
    have r1' : Rp C H1 v (.list ps) := r1
    cases r1' with
    | lst n s ra =>
      refine ⟨(k : Int), rfl, _, _, rfl, SqL.of s, fun p hp => ?_⟩
      rw [cut_tail]
      exact hk _ _ (.d (.list (ps.drop k))) (rp_new_lst c1 hp (ra.drop k)) (c1.new hp) (k1.trans (Keep.new hp)) q
  · exact q.elim
theorem de_head {k : Nat} {j : Nat} {p1 : Pos} (he : DE X e T) (hpos : 0 < k := by decide) : DE X (.Subscript e (.Slice none (some (.Constant (.int (k : Int)) j p1)) none p2) pos) (dHead k T) := pe_wk (pe_slice sl_tup he po_none (po_some pe_int)) fun σ H kk ⟨C, δ, Q, hh, hT, hk⟩ => by
  refine ⟨C, δ, _, hh, hT, fun v H1 d r1 c1 k1 q => ?_⟩
  split at q
  · rename_i ps
    have r1' : Rp C H1 v (.tuple ps) := r1
    cases r1' with
    | tup n s ra =>
      have hl := ra.length
      refine ⟨(k : Int), rfl, _, _, rfl, SqT.of s, fun z => ?_, fun p hp => ?_⟩
      · have z2 := z.2
        rw [HT.sIx_nat] at z2
        omega
      · rw [cut_head _ _ (by omega)]
        exact hk _ _ (.d (.tuple (ps.take k))) (rp_new_tup c1 hp (ra.take k)) (c1.new hp) (k1.trans (Keep.new hp)) q.2
  · exact q.elim
theorem de_rev {k : Nat} {p1 p3 p4 : Pos} (he : DE X e T) : DE X (.Subscript e (.Slice none none (some (.UnaryOp .USub (.Constant (.int 1) k p1) p3)) p4) pos) (dRev T) := pe_wk (pe_revL he) fun σ H kk ⟨C, δ, Q, hh, hT, hk⟩ => by
  refine ⟨C, δ, _, hh, hT, fun v H1 d r1 c1 k1 q => ?_⟩
  split at q
  · rename_i ps
    have r1' : Rp C H1 v (.list ps) := r1
    cases r1' with
    | lst n s ra =>
      exact ⟨_, _, rfl, SqL.of s, fun p hp => hk _ _ (.d (.list ps.reverse)) (rp_new_lst c1 hp ra.reverse) (c1.new hp) (k1.trans (Keep.new hp)) q⟩
  · exact q.elim
/-! ### sums of sequences -/
def drCatL : DR2 := fun x y Q => match x, y with
  | .d (.list ps), .d (.list qs) => ps.length + qs.length ≤ sizeLine ∧ Q (.d (.list (ps ++ qs)))
  | _, _ => False
def drCatT : DR2 := fun x y Q => match x, y with
  | .d (.tuple ps), .d (.tuple qs) => ps.length + qs.length ≤ sizeLine ∧ Q (.d (.tuple (ps ++ qs)))
  | _, _ => False
theorem od_catL : OpR X (binaryOp .Add) (lift2 X.prog X.w drCatL) := or_wk op_cat fun x y H k ⟨C, d, e, Q, r1, r2, c, q, hk⟩ => by
  unfold drCatL at q
  split at q
  · rename_i ps qs
    have r1' : Rp C H x (.list ps) := r1
    have r2' : Rp C H y (.list qs) := r2
    cases r1' with
    | lst n s ra =>
      cases r2' with
      | lst n2 s2 ra2 =>
        exact ⟨_, _, _, _, rfl, rfl, s, s2, by rw [ra.length, ra2.length]; exact q.1, fun p hp => hk _ _ (.d (.list (ps ++ qs))) (rp_new_lst c hp (ra.append ra2)) (c.new hp) (Keep.new hp) q.2⟩
  · exact q.elim
theorem od_catT : OpR X (binaryOp .Add) (lift2 X.prog X.w drCatT) := or_wk op_catA fun x y H k ⟨C, d, e, Q, r1, r2, c, q, hk⟩ => by
  unfold drCatT at q
  split at q
  · rename_i ps qs
    have r1' : Rp C H x (.tuple ps) := r1
    have r2' : Rp C H y (.tuple qs) := r2
    cases r1' with
    | tup n s ra =>
      cases r2' with
      | tup n2 s2 ra2 =>
        refine ⟨_, _, _, _, rfl, rfl, SqT.of s, SqT.of s2, by rw [ra.length, ra2.length]; exact q.1, fun e => ?_, fun e e2 => ?_, fun e e2 p hp => hk _ _ (.d (.tuple (ps ++ qs))) (rp_new_tup c hp (ra.append ra2)) (c.new hp) (Keep.new hp) q.2⟩
        · subst e
          cases ra
          exact hk _ H (.d (.tuple qs)) (Rp.tup n2 s2 ra2) c Keep.refl q.2
        · subst e2
          cases ra2
          have q2 := q.2
          rw [List.append_nil] at q2
          exact hk _ H (.d (.tuple ps)) (Rp.tup n s ra) c Keep.refl q2
  · exact q.elim
def drRepT : DR2 := fun x y Q => match x, y with
  | .d (.tuple [p]), .d (.int k) => 2 ≤ k ∧ k ≤ 1000 ∧ Q (.d (.tuple (List.replicate k.toNat p)))
  | _, _ => False
theorem rpall_rep {C : Cells} {H : Hp} {v : V} {p : PyData} (r : Rp C H v p) : ∀ k : Nat, RpAll C H (List.replicate k v) (List.replicate k p)
  | 0 => .nil
  | k + 1 => .cons r (rpall_rep r k)
theorem flat_rep {α : Type} (v : α) : ∀ k : Nat, (List.replicate k [v]).flatten = List.replicate k v
  | 0 => rfl
  | k + 1 => by rw [List.replicate_succ, List.flatten_cons, flat_rep v k]; rfl
theorem od_repT : OpR X (binaryOp .Mult) (lift2 X.prog X.w drRepT) := or_wk op_repT fun x y H k ⟨C, d, e, Q, r1, r2, c, q, hk⟩ => by
  unfold drRepT at q
  split at q
  · rename_i p j
    have r1' : Rp C H x (.tuple [p]) := r1
    cases r1' with
    | tup n s ra =>
      cases ra with
      | cons ra t =>
        cases t
        refine ⟨_, j, _, rfl, Rp.int_inv r2, SqT.of s, by simp, q.1, q.2.1, by show 1 ≤ 1000; decide, fun p' hp => ?_⟩
        rw [flat_rep]
        exact hk _ _ (.d (.tuple _)) (rp_new_tup c hp (rpall_rep ra _)) (c.new hp) (Keep.new hp) q.2.2
  · exact q.elim
end
end FL
/-! FL: calls of built-ins. -/
namespace FL
open PySem PySem.Spec PyProof.Rows L2
inductive Ty4 where
  | int | bool | tup | str
def Ty4.nm : Ty4 → String
  | .int => "int"
  | .bool => "bool"
  | .tup => "tuple"
  | .str => "str"
def isaP : PyData → Ty4 → Option Bool
  | .int _, .int => some true
  | .int _, .bool => some false
  | .tuple _, .tup => some true
  | .str _, .str => some true
  | _, _ => none
def dIsi (t : Ty4) (T : DT) : DT := fun δ Q => T δ fun x => match x with
  | .d p => (match isaP p t with
    | some b => Q (dB b)
    | none => False)
  | _ => False
section
variable {X : Cx} {pos p p2 : Pos} {e : Expr} {es : List Expr} {T Ta Tb : DT}
theorem de_isi (t : Ty4) {x : Str} (hg : Gl X "isinstance") (hm : X.mg "isinstance" = none) (hg2 : Gl X x) (hm2 : X.mg x = none) (hv2 : bootBuiltins x = some (.type t.nm)) (he : DE X e T) (hn2 : x ≠ "__name__" := by decide) (hdb2 : (x == ("__debug__" : Str)) = false := by decide)
    (hs1 : starEach [e, .Name x p2] X.env = (false, eval e X.env) :: starEach [.Name x p2] X.env := by rfl) (hs2 : starEach [.Name x p2] X.env = (false, eval (.Name x p2) X.env) :: starEach [] X.env := by rfl) (hpl : (backTo pos (starEach [.Name x p2] X.env)).any (·.1) = false := by rfl) :
    DE X (.Call (.Name "isinstance" p) [e, .Name x p2] [] pos) (dIsi t T) :=
  pe_wk (pe_callB call_isi hg hm (by decide +kernel) (pa_cons he (pa_cons (pe_bltn (v := .ty t.nm) hg2 hm2 hv2 rfl hn2 hdb2) pa_nil hs2) hs1) (by decide) (by decide) hs1 hpl) fun σ H k ⟨C, δ, Q, hh, hT, hk⟩ => by
    refine ⟨C, δ, _, hh, hT, fun v H1 d r1 c1 k1 q => ?_⟩
    show rIsi X.K [v, .ty t.nm] H1 k
    split at q
    · rename_i pd
      split at q
      · rename_i b hb
        have fin := hk (.bl b) H1 (dB b) (Rp.bl b) c1 k1 q
        have r1' : Rp C H1 v pd := r1
        cases r1' <;> cases t <;> simp only [isaP, Option.some.injEq, reduceCtorEq] at hb
        all_goals subst hb
        · exact ⟨_, _, _, _, _, rfl, .ty _, .base (.int _), kit_ty (by decide +kernel), fin⟩
        · exact ⟨_, _, _, _, _, rfl, .ty _, .base (.int _), kit_ty (by decide +kernel), fin⟩
        · exact ⟨_, _, _, _, _, rfl, .ty _, .base (.str _), kit_ty (by decide +kernel), fin⟩
        · exact ⟨_, _, _, _, _, rfl, .ty _, .base (.tup (by assumption)), kit_ty (by decide +kernel), fin⟩
      · exact q.elim
    · exact q.elim
end
/-! ### by values -/
theorem rep1 {P : Program} {w : World} {C : Cells} {H : Hp} {vs : List V} {d : D} (r : RepAll P w C H vs [d]) : ∃ v, vs = [v] ∧ RepD P w C H v d := by
  cases r with
  | cons r t =>
    cases t
    exact ⟨_, rfl, r⟩
theorem rep2 {P : Program} {w : World} {C : Cells} {H : Hp} {vs : List V} {d e : D} (r : RepAll P w C H vs [d, e]) : ∃ v u, vs = [v, u] ∧ RepD P w C H v d ∧ RepD P w C H u e := by
  cases r with
  | cons r t =>
    obtain ⟨u, e, r2⟩ := rep1 t
    subst e
    exact ⟨_, u, rfl, r, r2⟩
def boolsOf : List PyData → Option (List Bool)
  | [] => some []
  | .bool b :: r => (boolsOf r).map (b :: ·)
  | _ :: _ => none
def intsOf : List PyData → Option (List Int)
  | [] => some []
  | .int b :: r => (intsOf r).map (b :: ·)
  | _ :: _ => none
theorem boolsOf_eq : ∀ {ps : List PyData} {bs : List Bool}, boolsOf ps = some bs → ps = bs.map PyData.bool
  | [], bs, h => by cases h; rfl
  | p :: r, bs, h => by
    cases p with
    | bool b =>
      have h' : (boolsOf r).map (b :: ·) = some bs := h
      obtain ⟨cs, h1, h2⟩ := Option.map_eq_some_iff.mp h'
      subst h2
      rw [List.map_cons, ← boolsOf_eq h1]
    | _ => cases h
theorem intsOf_eq : ∀ {ps : List PyData} {bs : List Int}, intsOf ps = some bs → ps = bs.map PyData.int
  | [], bs, h => by cases h; rfl
  | p :: r, bs, h => by
    cases p with
    | int b =>
      have h' : (intsOf r).map (b :: ·) = some bs := h
      obtain ⟨cs, h1, h2⟩ := Option.map_eq_some_iff.mp h'
      subst h2
      rw [List.map_cons, ← intsOf_eq h1]
    | _ => cases h
theorem boolsOf_map (bs : List Bool) : boolsOf (bs.map PyData.bool) = some bs := by
  induction bs with
  | nil => rfl
  | cons b r ih =>
    show (boolsOf (r.map PyData.bool)).map (b :: ·) = _
    rw [ih]
    rfl
theorem intsOf_map (bs : List Int) : intsOf (bs.map PyData.int) = some bs := by
  induction bs with
  | nil => rfl
  | cons b r ih =>
    show (intsOf (r.map PyData.int)).map (b :: ·) = _
    rw [ih]
    rfl
def drLen : DRs := fun ds Q => match ds with
  | [.d (.list ps)] => Q (dI (ps.length : Nat))
  | [.d (.tuple ps)] => Q (dI (ps.length : Nat))
  | _ => False
def drAll : DRs := fun ds Q => match ds with
  | [.d (.list ps)] => (match boolsOf ps with
    | some bs => Q (dB (bs.all id))
    | none => False)
  | _ => False
def drSum : DRs := fun ds Q => match ds with
  | [.d (.list ps)] => (match intsOf ps with
    | some ns => Q (dI ns.sum)
    | none => False)
  | _ => False
def drMin : DRs := fun ds Q => match ds with
  | [.d (.int i), .d (.int j)] => Q (dI (if j < i then j else i))
  | _ => False
def drMax : DRs := fun ds Q => match ds with
  | [.d (.int i), .d (.int j)] => Q (dI (if j > i then j else i))
  | _ => False
def drTuple : DRs := fun ds Q => match ds with
  | [.d (.list ps)] => Q (.d (.tuple ps))
  | _ => False
def drList : DRs := fun ds Q => match ds with
  | [.d (.list ps)] => Q (.d (.list ps))
  | [.d (.tuple ps)] => Q (.d (.list ps))
  | _ => False
def b2I (b : Bool) : Int := if b then 1 else 0
def drInt : DRs := fun ds Q => match ds with
  | [.d (.int i)] => Q (dI i)
  | [.d (.bool b)] => Q (dI (b2I b))
  | _ => False
def drAbs : DRs := fun ds Q => match ds with
  | [.d (.int i)] => Q (dI (if i < 0 then -i else i))
  | _ => False
section
variable {X : Cx}
theorem cd_len : CallR X (.builtin "len") (liftC X.prog X.w drLen) := cr_wk call_len_seq fun xs H k ⟨C, ds, Q, r, c, q, hk⟩ => by
  unfold drLen at q
  split at q
  · rename_i ps
    obtain ⟨v, rfl, rv⟩ := rep1 r
    have rv' : Rp C H v (.list ps) := rv
    cases rv' with
    | lst n s ra => exact ⟨_, _, rfl, .inl (SqL.of s), by rw [ra.length]; exact hk _ H (dI _) (Rp.int _) c Keep.refl q⟩
  · rename_i ps
    obtain ⟨v, rfl, rv⟩ := rep1 r
    have rv' : Rp C H v (.tuple ps) := rv
    cases rv' with
    | tup n s ra => exact ⟨_, _, rfl, .inr (SqT.of s), by rw [ra.length]; exact hk _ H (dI _) (Rp.int _) c Keep.refl q⟩
  · exact q.elim
theorem cd_all (hc : X.calm = true) : CallR X (.builtin "all") (liftC X.prog X.w drAll) := cr_wk (cr_all hc) fun xs H k ⟨C, ds, Q, r, c, q, hk⟩ => by
  unfold drAll at q
  split at q
  · rename_i ps
    split at q
    · rename_i bs hb
      obtain ⟨v, rfl, rv⟩ := rep1 r
      have rv' : Rp C H v (.list ps) := rv
      cases rv' with
      | lst n s ra =>
        rw [boolsOf_eq hb] at ra
        rw [ra.bools] at s
        exact ⟨_, bs, rfl, SqL.of s, hk _ H (dB _) (Rp.bl _) c Keep.refl q⟩
    · exact q.elim
  · exact q.elim
theorem cd_sum (hc : X.calm = true) : CallR X (.builtin "sum") (liftC X.prog X.w drSum) := cr_wk (cr_sum hc) fun xs H k ⟨C, ds, Q, r, c, q, hk⟩ => by
  unfold drSum at q
  split at q
  · rename_i ps
    split at q
    · rename_i ns hb
      obtain ⟨v, rfl, rv⟩ := rep1 r
      have rv' : Rp C H v (.list ps) := rv
      cases rv' with
      | lst n s ra =>
        rw [intsOf_eq hb] at ra
        rw [ra.ints] at s
        exact ⟨_, ns, rfl, SqL.of s, hk _ H (dI _) (Rp.int _) c Keep.refl q⟩
    · exact q.elim
  · exact q.elim
theorem cd_min (hc : X.calm = true) : CallR X (.builtin "min") (liftC X.prog X.w drMin) := cr_wk (call_min2 hc) fun xs H k ⟨C, ds, Q, r, c, q, hk⟩ => by
  unfold drMin at q
  split at q
  · rename_i i j
    obtain ⟨v, u, rfl, r1, r2⟩ := rep2 r
    obtain rfl := Rp.int_inv r1
    obtain rfl := Rp.int_inv r2
    exact ⟨i, j, rfl, hk _ H (dI _) (Rp.int _) c Keep.refl q⟩
  · exact q.elim
theorem cd_max (hc : X.calm = true) : CallR X (.builtin "max") (liftC X.prog X.w drMax) := cr_wk (call_max2 hc) fun xs H k ⟨C, ds, Q, r, c, q, hk⟩ => by
  unfold drMax at q
  split at q
  · rename_i i j
    obtain ⟨v, u, rfl, r1, r2⟩ := rep2 r
    obtain rfl := Rp.int_inv r1
    obtain rfl := Rp.int_inv r2
    exact ⟨i, j, rfl, hk _ H (dI _) (Rp.int _) c Keep.refl q⟩
  · exact q.elim
theorem cd_tuple : CallR X (.type "tuple") (liftC X.prog X.w drTuple) := cr_wk call_tuple_of fun xs H k ⟨C, ds, Q, r, c, q, hk⟩ => by
  unfold drTuple at q
  split at q
  · rename_i ps
    obtain ⟨v, rfl, rv⟩ := rep1 r
    have rv' : Rp C H v (.list ps) := rv
    cases rv' with
    | lst n s ra => exact ⟨_, _, rfl, .inl ⟨SqL.of s, fun p hp => hk _ _ (.d (.tuple ps)) (rp_new_tup c hp ra) (c.new hp) (Keep.new hp) q⟩⟩
  · exact q.elim
theorem cd_list : CallR X (.type "list") (liftC X.prog X.w drList) := cr_wk call_list_of fun xs H k ⟨C, ds, Q, r, c, q, hk⟩ => by
  unfold drList at q
  split at q
  · rename_i ps
    obtain ⟨v, rfl, rv⟩ := rep1 r
    have rv' : Rp C H v (.list ps) := rv
    cases rv' with
    | lst n s ra => exact ⟨_, _, rfl, .inl (SqL.of s), fun p hp => hk _ _ (.d (.list ps)) (rp_new_lst c hp ra) (c.new hp) (Keep.new hp) q⟩
  · rename_i ps
    obtain ⟨v, rfl, rv⟩ := rep1 r
    have rv' : Rp C H v (.tuple ps) := rv
    cases rv' with
    | tup n s ra => exact ⟨_, _, rfl, .inr (SqT.of s), fun p hp => hk _ _ (.d (.list ps)) (rp_new_lst c hp ra) (c.new hp) (Keep.new hp) q⟩
  · exact q.elim
theorem cd_int : CallR X (.type "int") (liftC X.prog X.w drInt) := cr_wk call_int1 fun xs H k ⟨C, ds, Q, r, c, q, hk⟩ => by
  unfold drInt at q
  split at q
  · rename_i i
    obtain ⟨v, rfl, rv⟩ := rep1 r
    obtain rfl := Rp.int_inv rv
    exact .inl ⟨i, rfl, hk _ H (dI _) (Rp.int _) c Keep.refl q⟩
  · rename_i b
    obtain ⟨v, rfl, rv⟩ := rep1 r
    obtain rfl := Rp.bl_inv rv
    exact .inr ⟨b, rfl, hk _ H (dI _) (Rp.int _) c Keep.refl q⟩
  · exact q.elim
theorem cd_abs : CallR X (.builtin "abs") (liftC X.prog X.w drAbs) := cr_wk call_abs fun xs H k ⟨C, ds, Q, r, c, q, hk⟩ => by
  unfold drAbs at q
  split at q
  · rename_i i
    obtain ⟨v, rfl, rv⟩ := rep1 r
    obtain rfl := Rp.int_inv rv
    exact ⟨i, rfl, hk _ H (dI _) (Rp.int _) c Keep.refl q⟩
  · exact q.elim
end
/-! ### xs.count(y) -/
def dCount (T Ta : DT) : DT := fun δ Q => T δ fun x => match x with
  | .d (.list ps) => Ta δ fun y => (match y with
    | .d p => okd p ∧ PyData.canLayAll0 ps = true ∧ Q (dI ((ps.countP fun z => PyData.eqv z p : Nat) : Int))
    | _ => False)
  | _ => False
def rCnt (P : Program) (w : World) : V → List V → Hp → VK → Prop := fun x xs H k => ∃ (C : Cells) (y : V) (ps : List PyData) (p : PyData), xs = [y] ∧ Rp C H x (.list ps) ∧ Rp C H y p ∧ okd p ∧ PyData.canLayAll0 ps = true ∧ k (.int ((ps.countP fun z => PyData.eqv z p : Nat) : Int)) H
section
variable {X : Cx}
theorem mt_cnt (hu : X.A.units + 65 < cLine) : MtR X "list.count" (rCnt X.prog X.w) := by
  intro pins s σ H x xs v us k I rx rxs ⟨C, y, ps, p, e, r1, r2, ok, lay, q⟩
  subst e
  cases r1 with
  | lst n hs ra =>
    cases rx
    obtain ⟨u, rfl, ru⟩ := rxs.one
    obtain ⟨bs, h1⟩ := Dp.reads I p y u (Rp.dp (K := X.K) r2) ru
    obtain ⟨its, rv, ⟨⟨cls, dd, data, sl⟩, nn, ho, hc, hdn, hd⟩, hlen⟩ := I.list (SqL.of hs)
    simp only at hc hd
    subst hc hd
    obtain ⟨as, h4⟩ := Dp.readsAll I ps _ its (RpAll.dp (K := X.K) ra) rv
    refine call_meets PySem.F.slot_list_count ⟨_, ho, rfl⟩ PySem.F.entry_list_count (PySem.F.args_list_count_2 _ _)
      (SeqAt.list_countAt _ its.toArray nn dd sl u (fun u => PyData.eqv (SeqAt.readOf s.heap u) p)) ⟨ho, SeqAt.items_eqAt (vs := its.toArray) (show ReadsAll s.heap its.toArray.toList ps as from h4) h1 lay (SeqAt.canLay_of_shaped ok) (room_in_shaped ok hu), ?_⟩
    have hmap : its.map (SeqAt.readOf s.heap) = ps := SeqAt.readsAll_map ps its as lay h4
    have ec : its.toArray.toList.countP (fun u => PyData.eqv (SeqAt.readOf s.heap u) p) = ps.countP fun z => PyData.eqv z p := by
      rw [← hmap, List.countP_map]
      rfl
    refine ⟨.int _, H, I.tok _, ⟨s.toks, ?_⟩, q⟩
    rw [ec]
theorem de_count {pos apos : Pos} {o e : Expr} {T Ta : DT} (hu : X.A.units + 65 < cLine) (ho : DE X o T) (ha : DE X e Ta) (hbase : attributeBase o "count" X.env (eval o X.env) = eval o X.env := by rfl)
    (hfew : ((backTo pos (starEach [e] X.env)).all (fun x => !x.1) && (backToKw pos (keywordEach [] X.env)).all (fun x => x.1.isSome)
      && decide ([e].length + ([] : List Keyword).length + (if ([] : List Keyword).isEmpty then 0 else 1) < 30)) = true := by rfl)
    (hline : (apos.endLine == pos.line) = true := by rfl) (hs : starEach [e] X.env = (false, eval e X.env) :: starEach [] X.env := by rfl) (hplain : (backTo pos (starEach [] X.env)).any (·.1) = false := by rfl) :
    DE X (.Call (.Attribute o "count" apos) [e] [] pos) (dCount T Ta) :=
  pe_wk (pe_bm PySem.F.plainAttrs_list PySem.F.slot_list_count PySem.F.type_list_count (mt_cnt hu) ho (pa_cons ha pa_nil hs) hbase hfew hline hs hplain) fun σ H k ⟨C, δ, Q, hh, hT, hk⟩ => by
    refine ⟨C, δ, _, hh, hT, fun v H1 d r1 c1 k1 q => ?_⟩
    split at q
    · rename_i ps
      have r1' : Rp C H1 v (.list ps) := r1
      have ty : tyV X.K "list" v H1 := by
        cases r1' with
        | lst n s ra => exact .inl ⟨rfl, _, SqL.of s⟩
      refine ⟨ty, C, δ, _, hh.go c1 k1, q, fun v2 H2 d2 r2 c2 k2 q2 => ?_⟩
      split at q2
      · rename_i p
        exact ⟨C, v2, ps, p, rfl, r1'.keep k2, r2, q2.1, q2.2.1, hk _ H2 (dI _) (Rp.int _) c2 (k1.trans k2) q2.2.2⟩
      · exact q2.elim
    · exact q.elim
end
end FL
/-! FL: dicts by nested keys. -/
namespace FL
open PySem PySem.Spec PyProof.Rows L2
/-- places one behind the other, from a first one on -/
theorem forIn_places {M : Model} {A : Around} {E : Value → Shared → Prop} {body : Nat → PUnit → Sem (ForInStep PUnit)} {Q : PUnit → Shared → Prop} (J : Nat → Shared → Prop) :
    ∀ (n i : Nat) (s : Shared), (∀ j t, j < i + n → J j t → wpAny M A (body j ⟨⟩) (fun r t' => r = .yield ⟨⟩ ∧ J (j + 1) t') E t) → (∀ t, J (i + n) t → Q ⟨⟩ t) → J i s → wpAny M A (forIn (List.range' i n) PUnit.unit body) Q E s
  | 0, _, s, _, last, here => wpAny_pure (last s here)
  | n + 1, i, s, turn, last, here => by
    rw [List.range'_succ, List.forIn_cons]
    refine wpAny_bind (wpAny_mono (turn i s (by omega) here) (fun r t ⟨er, ht⟩ => ?_) fun _ _ h => h)
    rw [er]
    exact forIn_places J n (i + 1) t (fun j t' hj => turn j t' (by omega)) (fun t' h' => last t' (by rwa [show i + (n + 1) = i + 1 + n by omega])) ht
/-- a look at each thing, by which nothing changes -/
theorem forIn_looks {α : Type} {M : Model} {A : Around} {E : Value → Shared → Prop} {body : α → PUnit → Sem (ForInStep PUnit)} {Q : PUnit → Shared → Prop} {s : Shared} (last : Q ⟨⟩ s) :
    ∀ l : List α, (∀ x ∈ l, wpAny M A (body x ⟨⟩) (fun r t => r = .yield ⟨⟩ ∧ t = s) E s) → wpAny M A (forIn l PUnit.unit body) Q E s
  | [], _ => wpAny_pure last
  | x :: l, look => by
    rw [List.forIn_cons]
    refine wpAny_bind (wpAny_mono (look x (.head _)) (fun r t ⟨er, et⟩ => ?_) fun _ _ h => h)
    rw [er, et]
    exact forIn_looks last l fun y hy => look y (.tail _ hy)
section
variable {prog : Program} {w : World} {K : Type} [DecidableEq K] {knd : HeapKind prog w K} {A : Around} {E : Value → Shared → Prop} {s : Shared}
/-- a key that is new goes behind the others -/
theorem dictPut_heap {d a : Addr} {xs : List (K × Addr × Value)} {k : K} {v : Value} {Q : Unit → Shared → Prop} (hu : knd.room A) (hkey : knd.is s.heap k a) (hm : s.heap.DictOfH knd d xs) (hf : k ∉ xs.map (·.1))
    (hQ : ∀ h', h'.DictOfH knd d (xs ++ [(k, a, v)]) → Heap.SameBut d s.heap h' → Q () { s with heap := h' }) (hsz : xs.length ≤ sizeLine) :
    wpAny (model prog w) A (dictPut d (knd.hash k) (.ref a) v) Q E s := by
  rcases hm with ⟨ob, ents, gen, got, exact_, cells, shown, keyed, apart⟩
  have line : ents.size ≤ sizeLine := by rwa [size_of_entries shown]
  have more : (s.heap.update d (Obj.mapDictKeys (·.push ⟨knd.hash k, .ref a, v⟩))).DictOfH knd d (xs ++ [(k, a, v)]) := by
    refine ⟨_, _, gen + 1, Heap.get?_update_self _ got (Obj.isFreed_of_dict (Obj.data_mapDictKeys cells _)), exact_.mapDictKeys _, Obj.data_mapDictKeys cells _, ?_, fun x m => ?_, ?_⟩
    · rw [Array.toList_push, shown, List.map_append]
      rfl
    · have old : knd.is s.heap x.1 x.2.1 := (List.mem_append.mp m).elim (keyed x) fun z => by
        cases List.mem_singleton.mp z
        exact hkey
      exact knd.keeps old got cells (Heap.SameBut.update ..)
    · rw [List.map_append]
      exact List.nodup_append.mpr ⟨apart, by simp, fun x m y n e => hf (by rw [← show y = k from List.mem_singleton.mp n, ← e]; exact m)⟩
  unfold dictPut
  exact wpAny_bind (wpAny_dictFind_heap hu hkey got cells shown keyed apart
    (fun _ => wpAny_updateDictKeys (hz := by omega) got cells (hQ _ more (Heap.SameBut.update ..)))
    fun j p hj => (hf (List.mem_map_of_mem (List.mem_of_getElem? hj))).elim)
/-- a dict takes another one's entries, all of new keys -/
theorem mergeMapping_heap {d o : Addr} {kvs more : List (K × Addr × Value)} {Q : Unit → Shared → Prop} (hu : knd.room A) (hdo : d ≠ o) (hoS : (o == sysModules) = false)
    (hd : s.heap.DictOfH knd d kvs) (ho : s.heap.DictOfH knd o more) (hnd : ((kvs ++ more).map (·.1)).Nodup) (hap : kvs = [] → (∀ x ∈ more, s.TypeIs (.ref x.2.1) "tuple") ∧ (more.map fun x => knd.hash x.1).Nodup)
    (hQ : ∀ h', h'.DictOfH knd d (kvs ++ more) → h'.DictOfH knd o more → Heap.SameBut d s.heap h' → Q () { s with heap := h' })
    (hsz : kvs.length + more.length ≤ sizeLine) :
    wpAny (model prog w) A (mergeMapping d (.ref o) false) Q E s := by
  have typed := ho.typeIs
  obtain ⟨ob, ents, gen, got, _, cells, shown, _, _⟩ := id ho
  obtain ⟨ob1, ents1, gen1, got1, _, cells1, shown1, _, _⟩ := id hd
  have many : ents.size = more.length := size_of_entries shown
  have grown : ∀ i (lt : i < more.length), kvs ++ more.take (i + 1) = kvs ++ more.take i ++ [more[i]] := fun i lt => by rw [List.take_succ_eq_append_getElem lt, List.append_assoc]
  have fresh : ∀ i (lt : i < more.length), (more[i]).1 ∉ (kvs ++ more.take i).map (·.1) := fun i lt m => by
    have parts : kvs ++ more = (kvs ++ more.take i) ++ more[i] :: more.drop (i + 1) := by simp
    rw [parts, List.map_append] at hnd
    exact (List.nodup_append.mp hnd).2.2 _ m _ (.head _) rfl
  unfold mergeMapping
  refine wpAny_bind (wpAny_isInstance (T := "dict") (b := true) typed PySem.F.sub_dict_dict ?_)
  rw [if_pos rfl]
  refine wpAny_bind (wpAny_specialOf typed F.slot_dict_iter.lookup (wpAny_bind (wpAny_pure ?_)))
  rw [show (some (Value.builtin "dict.__iter__") == some (Value.builtin "dict.__iter__")) = true by decide]
  dsimp only
  rw [hoS, if_neg (by decide)]
  refine wpAny_bind (wpAny_dictEntries got1 cells1 ?_)
  split
  rename_i none_
  have bare : kvs = [] := List.length_eq_zero_iff.mp (by rw [← size_of_entries shown1]; simpa using none_)
  refine wpAny_bind (wpAny_dictEntries got cells (wpAny_bind ?_))
  rw [← Array.forIn_toList]
  refine forIn_looks ?_ _ fun e m => ?_
  rotate_left
  · have one := keysApart (s := s) shown (hap bare).1 (hap bare).2 e m
    split
    · rename_i z ez
      rcases one with byV | ⟨b, eb, tup, few⟩
      · rw [ez] at byV
        cases byV
      · cases eb.symm.trans ez
        rw [ez]
        refine wpAny_bind (wpAny_specialOf tup F.slot_tuple_eq.lookup (wpAny_ite_split (fun _ => ?_) fun _ => wpAny_pure ⟨rfl, rfl⟩))
        rw [if_neg (Nat.not_lt.mpr few)]
        exact wpAny_pure ⟨rfl, rfl⟩
    · exact wpAny_pure ⟨rfl, rfl⟩
  all_goals
    refine wpAny_bind (wpAny_dictEntries got cells (wpAny_bind (wpAny_dictEpoch got cells (wpAny_bind ?_))))
    rw [many, List.range_eq_range']
    refine forIn_places (fun i t => ∃ h', t = { s with heap := h' } ∧ h'.DictOfH knd d (kvs ++ more.take i) ∧ h'.DictOfH knd o more ∧ h'.get? o = some ob ∧ Heap.SameBut d s.heap h') _ _ _ ?_ ?_ ⟨s.heap, rfl, by simpa using hd, ho, got, Heap.SameBut.refl _ _⟩
    · rintro i _ lt ⟨h1, rfl, d1, o1, g1, b1⟩
      rw [Nat.zero_add] at lt
      have key1 : knd.is h1 (more[i]).1 (more[i]).2.1 := by
        obtain ⟨_, _, _, _, _, _, _, each, _⟩ := o1
        exact each _ (List.getElem_mem lt)
      refine wpAny_bind (wpAny_dictEntries g1 cells ?_)
      rw [entry_at shown, List.getElem?_eq_getElem lt]
      refine wpAny_bind (wpAny_holding (dictPut_heap (s := { s with heap := h1 }) hu key1 d1 (fresh i lt) (fun h2 d2 b2 => ?_) (by simp only [List.length_append, List.length_take]; omega)))
      have g2 : h2.get? o = some ob := by rw [b2.2 o hdo.symm]; exact g1
      refine wpAny_bind (wpAny_dictEpoch g2 cells ?_)
      rw [if_neg (by simp)]
      exact wpAny_pure ⟨rfl, h2, rfl, (grown i lt).symm ▸ d2, o1.notHere d1 hdo b2, g2, b1.trans b2⟩
    · rintro _ ⟨h1, rfl, d1, o1, _, b1⟩
      rw [Nat.zero_add, List.take_length] at d1
      exact wpAny_pure (hQ h1 d1 o1 b1)
end
/-! ### keys as data -/
mutual
def keyOf : PyData → Option NestedKey
  | .none => some .none
  | .int i => some (.num i)
  | .str x => some (.text x)
  | .tuple ps => (keysOf ps).map NestedKey.tup
  | .bool _ => none
  | .list _ => none
  | .dict _ => none
def keysOf : List PyData → Option (List NestedKey)
  | [] => some []
  | p :: r => (match keyOf p, keysOf r with
    | some k, some ks => some (k :: ks)
    | _, _ => none)
end
mutual
theorem keyOf_data : ∀ {p : PyData} {k : NestedKey}, keyOf p = some k → k.data = p
  | .none, k, h => by
    simp only [keyOf, Option.some.injEq] at h
    subst h
    rfl
  | .int i, k, h => by
    simp only [keyOf, Option.some.injEq] at h
    subst h
    rfl
  | .str x, k, h => by
    simp only [keyOf, Option.some.injEq] at h
    subst h
    rfl
  | .tuple ps, k, h => by
    simp only [keyOf] at h
    obtain ⟨ks, h1, h2⟩ := Option.map_eq_some_iff.mp h
    subst h2
    show PyData.tuple (NestedKey.datas ks) = _
    rw [keysOf_data h1]
  | .bool _, k, h => by simp [keyOf] at h
  | .list _, k, h => by simp [keyOf] at h
  | .dict _, k, h => by simp [keyOf] at h
theorem keysOf_data : ∀ {ps : List PyData} {ks : List NestedKey}, keysOf ps = some ks → NestedKey.datas ks = ps
  | [], ks, h => by
    simp only [keysOf, Option.some.injEq] at h
    subst h
    rfl
  | p :: r, ks, h => by
    simp only [keysOf] at h
    split at h
    · rename_i k ks' h1 h2
      simp only [Option.some.injEq] at h
      subst h
      show k.data :: NestedKey.datas ks' = _
      rw [keyOf_data h1, keysOf_data h2]
    · cases h
end
section
variable {X : Cx} {pins : List (Addr × Obj)} {σ : L2.St} {H : Hp} {s : Shared} {C : Cells}
mutual
theorem rp_nested (I : Inv X pins σ H s) : ∀ (k : NestedKey) (v : V) (u : Value), Rp C H v k.data → RelV v u → NestedIs s.heap k u
  | .none, v, u, r, rv => by
    simp only [NestedKey.data] at r
    cases r
    cases (show u = Value.none from rv)
    exact .none
  | .num i, v, u, r, rv => by
    simp only [NestedKey.data] at r
    cases r
    obtain ⟨t, e⟩ := (show ∃ t, u = Value.int i t from rv)
    subst e
    exact .int i t
  | .text x, v, u, r, rv => by
    simp only [NestedKey.data] at r
    cases r
    obtain ⟨t, e⟩ := (show ∃ t, u = Value.str x t from rv)
    subst e
    exact .text x t
  | .tup ks, v, u, r, rv => by
    simp only [NestedKey.data] at r
    cases r with
    | tup n hs ra =>
      cases (show u = Value.ref _ from rv)
      obtain ⟨its, r1, ⟨o, ho, hc, m, hd⟩, _⟩ := I.tuple (SqT.of hs)
      exact .tup ho hc hd (by simpa using rp_nesteds I ks _ _ ra r1)
theorem rp_nesteds (I : Inv X pins σ H s) : ∀ (ks : List NestedKey) (vs : List V) (us : List Value), RpAll C H vs (NestedKey.datas ks) → Vals vs us → NestedAll s.heap ks us
  | [], vs, us, r, rv => by
    simp only [NestedKey.datas] at r
    cases r
    cases rv
    exact .nil
  | k :: ks, vs, us, r, rv => by
    simp only [NestedKey.datas] at r
    cases r with
    | cons r1 t1 =>
      cases rv with
      | cons r2 t2 => exact .cons (rp_nested I k _ _ r1 r2) (rp_nesteds I ks _ _ t1 t2)
end
end
/-! ### the object -/
abbrev EntRel : List (NestedKey × Addr × V) → List (NestedKey × Addr × Value) → Prop := Paired fun x y => x.1 = y.1 ∧ x.2.1 = y.2.1 ∧ RelV x.2.2 y.2.2
theorem EntRel.keys {xs : List (NestedKey × Addr × V)} {ys : List (NestedKey × Addr × Value)} (h : EntRel xs ys) : xs.map (·.1) = ys.map (·.1) := by
  induction ys generalizing xs with
  | nil => cases h; rfl
  | cons y ys ih => cases h with | cons r t => rw [List.map_cons, List.map_cons, r.1, ih t]
theorem EntOk.keys {C : Cells} {H : Hp} {xs : List (NestedKey × Addr × V)} {kvs : List (NestedKey × PyData)} (h : EntOk C H xs kvs) : xs.map (·.1) = kvs.map (·.1) := by
  induction kvs generalizing xs with
  | nil => cases h; rfl
  | cons y ys ih => cases h with | cons r t => rw [List.map_cons, List.map_cons, r.1, ih t]
theorem paired_app {α β : Type} {F : α → β → Prop} : ∀ {a : List α} {b : List β} {c : List α} {d : List β}, Paired F a b → Paired F c d → Paired F (a ++ c) (b ++ d)
  | _, _, _, _, .nil, k => k
  | _, _, _, _, .cons r t, k => .cons r (paired_app t k)
theorem entOk_mem {C : Cells} {H : Hp} {xs : List (NestedKey × Addr × V)} {kvs : List (NestedKey × PyData)} (h : EntOk C H xs kvs) : ∀ x ∈ xs, KeyAt C H x.1 x.2.1 := by
  induction kvs generalizing xs with
  | nil => cases h; intro x hx; cases hx
  | cons y ys ih =>
    cases h with
    | cons r t =>
      intro x hx
      rcases List.mem_cons.mp hx with e | hx
      · subst e
        exact r.2.1
      · exact ih t x hx
theorem entRel_mem {xs : List (NestedKey × Addr × V)} {ys : List (NestedKey × Addr × Value)} (h : EntRel xs ys) : ∀ y ∈ ys, ∃ x ∈ xs, x.1 = y.1 ∧ x.2.1 = y.2.1 := by
  induction ys generalizing xs with
  | nil => intro y hy; cases hy
  | cons y ys ih =>
    cases h with
    | cons r t =>
      intro z hz
      rcases List.mem_cons.mp hz with e | hz
      · subst e
        exact ⟨_, List.mem_cons_self, r.1, r.2.1⟩
      · obtain ⟨x, hx, e⟩ := ih t z hz
        exact ⟨x, List.mem_cons_of_mem _ hx, e⟩
section
variable {X : Cx} {pins : List (Addr × Obj)} {σ : L2.St} {H : Hp} {s : Shared} {C : Cells} {a : Addr}
theorem key_is (I : Inv X pins σ H s) {k : NestedKey} {b : Addr} (h : KeyAt C H k b) : (nestedKind X.prog X.w).is s.heap k b := ⟨rp_nested I k _ _ h.1 rfl, h.2⟩
theorem key_tup (I : Inv X pins σ H s) {k : NestedKey} {b : Addr} (h : KeyAt C H k b) : s.TypeIs (.ref b) "tuple" := nestedKind_stays.tuple (key_is I h)
theorem dct_heap {kvs : List (NestedKey × PyData)} {xs : List (NestedKey × Addr × V)} (I : Inv X pins σ H s) (h : DctAt X.prog X.w C H a kvs xs) : ∃ ys, EntRel xs ys ∧ s.heap.DictOfH (nestedKind X.prog X.w) a ys := by
  have ok : ObjOk X.prog X.w H s.heap a (.ext (dictIs X.prog X.w a xs)) := I.hok a _ h.at_
  obtain ⟨⟨o, es, ep, ys, h1, h2, h3, h4, h5⟩, _, _⟩ := ok
  refine ⟨ys, h4, o, es, ep, h1, h2, h3, h5, fun y hy => ?_, ?_⟩
  · obtain ⟨x, hx, e1, e2⟩ := entRel_mem h4 y hy
    rw [← e1, ← e2]
    exact key_is I (entOk_mem h.ent x hx)
  · rw [← EntRel.keys h4, EntOk.keys h.ent]
    exact h.nd
theorem dictIs_stay {P : Program} {w : World} {xs : List (NestedKey × Addr × V)} : ∀ h1 h2 : Heap, dictIs P w a xs h1 → (∀ o, h1.get? a = some o → h2.get? a = some o) → dictIs P w a xs h2 := fun h1 h2 ⟨o, es, ep, ys, e, r⟩ k => ⟨o, es, ep, ys, k o e, r⟩
theorem dictIs_of {P : Program} {w : World} {h : Heap} {xs : List (NestedKey × Addr × V)} {ys : List (NestedKey × Addr × Value)} (e : EntRel xs ys) (d : h.DictOfH (nestedKind P w) a ys) : dictIs P w a xs h := by
  obtain ⟨o, es, ep, h1, h2, h3, h4, _, _⟩ := d
  exact ⟨o, es, ep, ys, h1, h2, h3, e, h4⟩
theorem dct_obj {P : Program} {w : World} {H' : Hp} {h : Heap} {xs : List (NestedKey × Addr × V)} (d : dictIs P w a xs h) : ObjOk P w H' h a (.ext (dictIs P w a xs)) := by
  obtain ⟨o, es, ep, ys, h1, r⟩ := id d
  exact ⟨d, ⟨o, h1⟩, dictIs_stay⟩
theorem nk_room (hu : X.A.units + 64 < cLine) : (nestedKind X.prog X.w).room X.A.in1 := by
  show X.A.units + 1 + 8 < cLine
  omega
theorem nk_room0 (hu : X.A.units + 64 < cLine) : (nestedKind X.prog X.w).room X.A := by
  show X.A.units + 8 < cLine
  omega
end
/-! ### look-up -/
def lookK (kvs : List (NestedKey × PyData)) (k : NestedKey) : Option PyData := (kvs.find? fun x => decide (x.1 = k)).map (·.2)
theorem look_rel {C : Cells} {H : Hp} {k : NestedKey} : ∀ {kvs : List (NestedKey × PyData)} {xs : List (NestedKey × Addr × V)} {ys : List (NestedKey × Addr × Value)}, EntOk C H xs kvs → EntRel xs ys →
    (lookK kvs k = none ∧ atKey ys k = none) ∨ ∃ p v b u, lookK kvs k = some p ∧ atKey ys k = some (b, u) ∧ RelV v u ∧ Rp C H v p
  | [], _, _, .nil, .nil => .inl ⟨rfl, rfl⟩
  | (k', p) :: kvs, x :: xs, y :: ys, .cons r1 t1, .cons r2 t2 => by
    by_cases e : k' = k
    · refine .inr ⟨p, x.2.2, y.2.1, y.2.2, ?_, ?_, r2.2.2, r1.2.2⟩
      · unfold lookK
        rw [List.find?_cons_of_pos (by simpa using e)]
        rfl
      · unfold atKey
        have e2 : y.1 = k := by rw [← r2.1, r1.1]; exact e
        rw [List.find?_cons_of_pos (by simpa using e2)]
        rfl
    · have e2 : ¬ y.1 = k := by rw [← r2.1, r1.1]; exact e
      have h := look_rel (k := k) t1 t2
      have h1 : lookK ((k', p) :: kvs) k = lookK kvs k := by
        unfold lookK
        rw [List.find?_cons_of_neg (by simpa using e)]
      have h2 : atKey (y :: ys) k = atKey ys k := by
        unfold atKey
        rw [List.find?_cons_of_neg (by simpa using e2)]
      rw [h1, h2]
      exact h
/-- a key that is a tuple -/
def tkey (p : PyData) : Option NestedKey := match p with
  | .tuple ps => (match keyOf (.tuple ps) with
    | some k => if k.depth ≤ 8 then some k else none
    | none => none)
  | _ => none
theorem tkey_at {C : Cells} {H : Hp} {v : V} {p : PyData} {k : NestedKey} (h : tkey p = some k) (r : Rp C H v p) : ∃ b, v = .ref b ∧ KeyAt C H k b := by
  unfold tkey at h
  split at h
  · split at h
    · rename_i ps k' hk
      split at h
      · rename_i hd
        cases h
        have e := keyOf_data hk
        cases r with
        | tup n s ra => exact ⟨_, rfl, by rw [e]; exact .tup n s ra, hd⟩
      · cases h
    · cases h
  · cases h
def drGet : DR2 := fun x y Q => match x, y with
  | .dct kvs, .d p => (match tkey p with
    | some k => (match lookK kvs k with
      | some v => Q (.d v)
      | none => False)
    | none => False)
  | _, _ => False
def drInD : DR2 := fun x y Q => match x, y with
  | .d p, .dct kvs => (match tkey p with
    | some k => Q (dB (lookK kvs k).isSome)
    | none => False)
  | _, _ => False
def drNotInD : DR2 := fun x y Q => match x, y with
  | .d p, .dct kvs => (match tkey p with
    | some k => Q (dB (!(lookK kvs k).isSome))
    | none => False)
  | _, _ => False
section
variable {X : Cx}
theorem xd_dict (hu : X.A.units + 64 < cLine) : IxR X (lift2 X.prog X.w drGet) := by
  intro value slice pins s σ H x y v u k I rx ry ⟨C, d, e, Q, r1, r2, c, q, hk⟩ hs
  unfold drGet at q
  split at q
  · rename_i kvs p
    split at q
    · rename_i kk hkk
      split at q
      · rename_i pv hpv
        obtain ⟨a, xs, rfl, n, da⟩ := r1
        obtain ⟨b, rfl, ka⟩ := tkey_at hkk r2
        cases rx
        cases ry
        obtain ⟨ys, er, dh⟩ := dct_heap I da
        rcases look_rel (k := kk) da.ent er with ⟨z, _⟩ | ⟨p', v', b', u', z1, z2, z3, z4⟩
        · rw [hpv] at z
          cases z
        · rw [hpv] at z1
          cases z1
          exact tail_any dh.typeIs slot_dict_getitem.lookup (wpAny_getItem_heap (nk_room hu) (key_is I ka) dh z2 ⟨v', H, I.tok _, z3, hk v' H (.d pv) z4 c Keep.refl q⟩) hs
      · exact q.elim
    · exact q.elim
  · exact q.elim
theorem od_inD (hu : X.A.units + 64 < cLine) : OpR X (compareOp .In) (lift2 X.prog X.w drInD) := by
  intro pins s σ H x y v u k I rx ry ⟨C, d, e, Q, r1, r2, c, q, hk⟩
  unfold drInD at q
  split at q
  · rename_i p kvs
    split at q
    · rename_i kk hkk
      obtain ⟨a, xs, rfl, n, da⟩ := r2
      obtain ⟨b, rfl, ka⟩ := tkey_at hkk r1
      cases rx
      cases ry
      obtain ⟨ys, er, dh⟩ := dct_heap I da
      refine wpAny_in_heap (nk_room hu) (key_is I ka) da.sys dh ⟨.bl _, H, I.tok _, rfl, ?_⟩
      have e : (atKey ys kk).isSome = (lookK kvs kk).isSome := by
        rcases look_rel (k := kk) da.ent er with ⟨z1, z2⟩ | ⟨_, _, _, _, z1, z2, _⟩ <;> rw [z1, z2] <;> rfl
      rw [e]
      exact hk _ H (dB _) (Rp.bl _) c Keep.refl q
    · exact q.elim
  · exact q.elim
theorem od_notInD (hu : X.A.units + 64 < cLine) : OpR X (compareOp .NotIn) (lift2 X.prog X.w drNotInD) := by
  intro pins s σ H x y v u k I rx ry ⟨C, d, e, Q, r1, r2, c, q, hk⟩
  unfold drNotInD at q
  split at q
  · rename_i p kvs
    split at q
    · rename_i kk hkk
      obtain ⟨a, xs, rfl, n, da⟩ := r2
      obtain ⟨b, rfl, ka⟩ := tkey_at hkk r1
      cases rx
      cases ry
      obtain ⟨ys, er, dh⟩ := dct_heap I da
      show wpAny _ _ (do return Value.bool (!(← contains (.ref a) (.ref b)))) _ _ s
      refine wpAny_bind (wpAny_contains_heap (nk_room hu) (key_is I ka) da.sys dh (wpAny_pure ⟨.bl _, H, I.tok _, rfl, ?_⟩))
      have e : (atKey ys kk).isSome = (lookK kvs kk).isSome := by
        rcases look_rel (k := kk) da.ent er with ⟨z1, z2⟩ | ⟨_, _, _, _, z1, z2, _⟩ <;> rw [z1, z2] <;> rfl
      rw [e]
      exact hk _ H (dB _) (Rp.bl _) c Keep.refl q
    · exact q.elim
  · exact q.elim
end
/-! ### {} -/
def dNew : DT := fun _ Q => Q (.dct [])
theorem de_dnew {X : Cx} {pos : Pos} : DE X (.Dict [] [] pos) dNew := ⟨fun pins s σ H k I ⟨C, δ, Q, hh, hT, hk⟩ => by
  refine wpAny_Dict_empty ?_
  have hn : H s.heap.objs.size = none := I.hok.fresh (Nat.le_refl _)
  have hd := dictIs_of (P := X.prog) (w := X.w) (xs := []) .nil (Heap.DictOfH.new (knd := nestedKind X.prog X.w) s.heap)
  refine ⟨.ref s.heap.objs.size, _, I.laid (a := s.heap.objs.size) (o := .ext (dictIs X.prog X.w s.heap.objs.size [])) (t' := s.toks) (fun _ _ q => Heap.get?_push_of_some _ q) (Nat.le_refl _) (dct_obj hd), rfl, ?_⟩
  refine hk _ _ (.dct []) ⟨s.heap.objs.size, [], rfl, hh.cells.free hn, beq_eq_false_iff_ne.mpr (Nat.ne_of_gt I.big), Nat.zero_le _, upd_same, List.nodup_nil, .nil⟩ (hh.cells.new hn) (Keep.new hn) hT⟩
/-! ### dict(a list of pairs) -/
def pairsOf : List PyData → Option (List (NestedKey × PyData))
  | [] => some []
  | .tuple [k, v] :: r => (match tkey k, pairsOf r with
    | some kk, some kvs => some ((kk, v) :: kvs)
    | _, _ => none)
  | _ :: _ => none
def drDict : DRs := fun ds Q => match ds with
  | [.d (.list ps)] => (match pairsOf ps with
    | some kvs => (kvs.map (·.1)).Nodup ∧ Q (.dct kvs)
    | none => False)
  | _ => False
/-- the pairs as they stand -/
theorem pairs_rep {X : Cx} {pins : List (Addr × Obj)} {σ : L2.St} {H : Hp} {s : Shared} {C : Cells} (I : Inv X pins σ H s) : ∀ {ps : List PyData} {kvs : List (NestedKey × PyData)} {vs : List V} {its : List Value}, pairsOf ps = some kvs → RpAll C H vs ps → Vals vs its →
    ∃ (xs : List (NestedKey × Addr × V)) (ys : List (NestedKey × Addr × Value)) (Ts : List Addr), EntOk C H xs kvs ∧ EntRel xs ys ∧ its = Ts.map Value.ref ∧ Paired (fun T (y : NestedKey × Addr × Value) => IsTup s.heap T #[.ref y.2.1, y.2.2]) Ts ys
  | [], kvs, vs, its, h, r, rv => by
    cases h
    cases r
    cases rv
    exact ⟨[], [], [], .nil, .nil, rfl, .nil⟩
  | p :: ps, kvs, vs, its, h, r, rv => by
    cases r with
    | cons r1 t1 =>
      cases rv with
      | cons r2 t2 =>
        unfold pairsOf at h
        split at h
        · rename_i e1
          cases e1
        · rename_i e1
          injection e1 with e1 e2
          subst e1 e2
          split at h
          · rename_i kk kvs' hk hp
            cases h
            obtain ⟨xs, ys, Ts, a1, a2, a3, a4⟩ := pairs_rep I hp t1 t2
            cases r1 with
            | tup n hs ra =>
              cases (show _ = Value.ref _ from r2)
              cases ra with
              | cons q1 q2 =>
                cases q2 with
                | cons q2 q3 =>
                  cases q3
                  obtain ⟨b, rfl, ka⟩ := tkey_at hk q1
                  obtain ⟨tits, tv, tt, _⟩ := I.tuple (SqT.of hs)
                  obtain ⟨u1, u2, rfl, w1, w2⟩ := vals2 tv
                  cases (show u1 = Value.ref b from w1)
                  exact ⟨(kk, b, _) :: xs, (kk, b, u2) :: ys, _ :: Ts, .cons ⟨rfl, ka, q2⟩ a1, .cons ⟨rfl, rfl, w2⟩ a2, by rw [a3]; rfl, .cons tt a4⟩
          · cases h
        · cases h
theorem cd_dict {X : Cx} (hcalm : X.calm = true) (hu : X.A.units + 64 < cLine) : CallR X (.type "dict") (liftC X.prog X.w drDict) := by
  intro pins s σ H xs us k I rx ⟨C, ds, Q, r, c, q, hk⟩
  unfold drDict at q
  split at q
  · rename_i ps
    split at q
    · rename_i kvs hkv
      obtain ⟨v, rfl, rv⟩ := rep1 r
      have rv' : Rp C H v (.list ps) := rv
      cases rv' with
      | lst n hs ra =>
        obtain ⟨u, rfl, ru⟩ := vals1 rx
        cases ru
        obtain ⟨its, rI, pl, hz⟩ := I.list (SqL.of hs)
        obtain ⟨es, ys, Ts, e1, e2, e3, e4⟩ := pairs_rep I hkv ra rI
        obtain ⟨o, nn, ho, hc, hd, hdat⟩ := pl
        have hlT : Ts.length = ys.length := Paired.length e4
        have hl2 : es.length = ys.length := Paired.length e2
        have hl3 : es.length = kvs.length := Paired.length e1
        have hlps : ps.length = Ts.length := by rw [← ra.length, rI.length, e3, List.length_map]
        have hzz : ys.length ≤ sizeLine := by rw [← hlT, ← hlps, ← ra.length]; exact hz
        have get4 : ∀ (j : Nat) (y : NestedKey × Addr × Value), ys[j]? = some y → ∃ T, Ts[j]? = some T ∧ IsTup s.heap T #[.ref y.2.1, y.2.2] := by
          intro j y hj
          have hjl : j < Ts.length := by rw [hlT]; exact (List.getElem?_eq_some_iff.mp hj).1
          obtain ⟨y', h1, h2⟩ := paired_get e4 (List.getElem?_eq_getElem hjl)
          rw [hj] at h1
          cases h1
          exact ⟨_, List.getElem?_eq_getElem hjl, h2⟩
        rename_i la _
        have P := PairArg.list (prog := X.prog) (w := X.w) la its.toArray (fun j => Ts.getD j 0) (ys.map fun y => ((Value.ref y.2.1, y.2.2) : Value × Value))
        have hit : PairItems s.heap its.toArray (fun j => Ts.getD j 0) (ys.map fun y => ((Value.ref y.2.1, y.2.2) : Value × Value)) := by
          refine ⟨by simp [e3, hlT], fun j kk vv hj => ?_⟩
          rw [List.getElem?_map] at hj
          obtain ⟨y, hy, ey⟩ := Option.map_eq_some_iff.mp hj
          cases ey
          obtain ⟨T, h1, h2⟩ := get4 j y hy
          have eT : Ts.getD j 0 = T := by rw [List.getD_eq_getElem?_getD, h1]; rfl
          refine ⟨?_, ?_⟩
          · rw [e3]
            simp [h1, eT]
          · show PairAt s.heap (Ts.getD j 0) _ _
            rw [eT]
            exact .inl h2
        have hnd : (ys.map (·.1)).Nodup := by rw [← EntRel.keys e2, EntOk.keys e1]; exact q.1
        refine call_dict_pairsH (knd := nestedKind X.prog X.w) (ps := ys) P (I.ok.hd hcalm) (by show X.A.units + 1 + 1 + 8 < cLine; omega) ⟨⟨o, nn, ho, hc, hd, hdat⟩, hit⟩ ⟨by simp, fun i key vv hi => ?_⟩ (fun h' hk' x hx => ?_) (by simpa using hzz) fun h' tk hd' hk' => ?_
        · have hi' : (ys.map fun y => ((Value.ref y.2.1, y.2.2) : Value × Value))[i]? = some (key, vv) := hi
          rw [List.getElem?_map] at hi'
          obtain ⟨y, hy, ey⟩ := Option.map_eq_some_iff.mp hi'
          cases ey
          exact ⟨y.1, y.2.1, hy, rfl⟩
        · obtain ⟨z, hz1, hz2, hz3⟩ := entRel_mem e2 x hx
          have ki := key_is I (entOk_mem e1 z hz1)
          rw [hz2, hz3] at ki
          exact nestedKind_stays.stays (fun b ob vs m hb hdd => hk' b ob (Nat.ne_of_lt (Heap.lt_size hb)) (fun hm => nomatch hm) hb) ki
        · rw [storedAllH_nil_of_nodup ys hnd] at hd'
          have hn : H s.heap.objs.size = none := I.hok.fresh (Nat.le_refl _)
          refine ⟨.ref s.heap.objs.size, _, I.laid (a := s.heap.objs.size) (o := .ext (dictIs X.prog X.w s.heap.objs.size es)) (t' := tk) (fun b ob hb => hk' b ob (fun hm => nomatch hm) hb) (Nat.le_refl _) (dct_obj (dictIs_of e2 hd')), rfl, ?_⟩
          exact hk _ _ (.dct kvs) ⟨s.heap.objs.size, es, rfl, c.free hn, beq_eq_false_iff_ne.mpr (Nat.ne_of_gt I.big), by rw [hl2]; exact hzz, upd_same, q.1, EntOk.keep (Keep.new hn) e1⟩ (c.new hn) (Keep.new hn) q.2
    · exact q.elim
  · exact q.elim
end FL
/-! FL: the display of two dicts, a store into a dict. -/
namespace FL
open PySem PySem.Spec PyProof.Rows L2
def Apart (kvs : List (NestedKey × PyData)) : Prop := ∀ w : World, (kvs.map fun p => p.1.hash w).Nodup
def dMerge (Ta Tb : DT) : DT := fun δ Q => Ta δ fun x => match x with
  | .dct a => Apart a ∧ a.length ≤ sizeLine ∧ Tb δ fun y => (match y with
    | .dct b => Apart b ∧ ((a ++ b).map (·.1)).Nodup ∧ a.length + b.length ≤ sizeLine ∧ Q (.dct (a ++ b))
    | _ => False)
  | _ => False
theorem entRel_hash {xs : List (NestedKey × Addr × V)} {ys : List (NestedKey × Addr × Value)} {kvs : List (NestedKey × PyData)} {C : Cells} {H : Hp} (w : World) (e : EntRel xs ys) (k : EntOk C H xs kvs) : (ys.map fun x => x.1.hash w) = kvs.map fun p => p.1.hash w := by
  have h : ys.map (·.1) = kvs.map (·.1) := (EntRel.keys e).symm.trans (EntOk.keys k)
  have h2 : (ys.map (·.1)).map (fun k => k.hash w) = (kvs.map (·.1)).map (fun k => k.hash w) := by rw [h]
  rw [List.map_map, List.map_map] at h2
  exact h2
section
variable {X : Cx} {pins : List (Addr × Obj)} {σ : L2.St} {H : Hp} {s : Shared} {C : Cells}
/-- the dict that is being made takes another one's entries -/
theorem merge_step {d : Addr} {a b : List (NestedKey × PyData)} {xs : List (NestedKey × Addr × V)} {y : V} {u : Value} {E : Value → Shared → Prop} {Q : Unit → Shared → Prop} (hu : X.A.units + 64 < cLine) (I : Inv X pins σ H s) (hn : C d = none)
    (hc : CellsOk (withC C d (.ext (dictIs X.prog X.w d xs))) H) (hs : (d == sysModules) = false) (hx : EntOk (withC C d (.ext (dictIs X.prog X.w d xs))) H xs a) (hnd : ((a ++ b).map (·.1)).Nodup) (hsz : a.length + b.length ≤ sizeLine) (hap : a = [] → Apart b)
    (ry : RelV y u) (r : RepD X.prog X.w (withC C d (.ext (dictIs X.prog X.w d xs))) H y (.dct b))
    (h : ∀ s' H' zs, Inv X pins σ H' s' → CellsOk (withC C d (.ext (dictIs X.prog X.w d (xs ++ zs)))) H' → Ext (withC C d (.ext (dictIs X.prog X.w d xs))) H (withC C d (.ext (dictIs X.prog X.w d (xs ++ zs)))) H' →
      EntOk (withC C d (.ext (dictIs X.prog X.w d (xs ++ zs)))) H' (xs ++ zs) (a ++ b) → Q () s') : wpAny (model X.prog X.w) X.A (mergeMapping d u false) Q E s := by
  obtain ⟨o, zs, rfl, no, da⟩ := r
  cases (show u = Value.ref o from ry)
  have hdo : d ≠ o := fun e => by
    rw [← e, withC_same] at no
    cases no
  obtain ⟨ws, e2, h2⟩ := dct_heap I da
  have nda : (a.map (·.1)).Nodup := by
    rw [List.map_append] at hnd
    exact (List.nodup_append.mp hnd).1
  have lxa : xs.length = a.length := Paired.length hx
  have lzb : zs.length = b.length := Paired.length da.ent
  obtain ⟨vs, e1, h1⟩ := dct_heap (C := withC C d (.ext (dictIs X.prog X.w d xs))) I ⟨hs, by omega, hc.at_, nda, hx⟩
  have lv : xs.length = vs.length := Paired.length e1
  have lw : zs.length = ws.length := Paired.length e2
  have nd2 : ((vs ++ ws).map (·.1)).Nodup := by
    rw [List.map_append, ← EntRel.keys e1, ← EntRel.keys e2, EntOk.keys hx, EntOk.keys da.ent, ← List.map_append]
    exact hnd
  refine mergeMapping_heap (nk_room0 hu) hdo da.sys h1 h2 nd2 (fun ev => ⟨fun x hm => ?_, ?_⟩) (fun h' hd' ho' hs' => ?_) (by omega)
  · obtain ⟨z, hz, q1, q2⟩ := entRel_mem e2 x hm
    have := key_tup I (entOk_mem da.ent z hz)
    rw [q2] at this
    exact this
  · have ha : a = [] := List.length_eq_zero_iff.mp (by rw [← lxa, lv, ev]; rfl)
    rw [show (ws.map fun x => (nestedKind X.prog X.w).hash x.1) = ws.map fun x => x.1.hash X.w from rfl, entRel_hash X.w e2 da.ent]
    exact hap ha X.w
  · have hD := hc.at_
    have mu : Mut (H d) := by
      rw [hD]
      trivial
    have er : EntRel (xs ++ zs) (vs ++ ws) := paired_app e1 e2
    obtain ⟨od', _, _, hod', _⟩ := id hd'
    have I' : Inv X pins σ (upd H d (.ext (dictIs X.prog X.w d (xs ++ zs)))) { s with heap := h' } := I.write (t' := s.toks) (o := .ext (dictIs X.prog X.w d (xs ++ zs))) mu (.inl rfl) (fun c uo hcd hg => (hs'.2 c hcd).trans hg) ⟨od', hod'⟩ (dct_obj (dictIs_of er hd'))
    refine h _ _ zs I' hc.turn Ext.turn ?_
    exact paired_app (Paired.mapP hx fun _ _ z => ⟨z.1, ⟨z.2.1.1.ext Ext.turn, z.2.1.2⟩, z.2.2.ext Ext.turn⟩) (Paired.mapP da.ent fun _ _ z => ⟨z.1, ⟨z.2.1.1.ext Ext.turn, z.2.1.2⟩, z.2.2.ext Ext.turn⟩)
end
theorem de_merge {X : Cx} {ea eb : Expr} {Ta Tb : DT} {pos : Pos} (hu : X.A.units + 64 < cLine) (ha : DE X ea Ta) (hb : DE X eb Tb) (he : evalEachOpt [none, none] X.env = [none, none] := by rfl)
    (he2 : (evalEach [ea, eb] X.env).map (fun v => do let x ← v; standAt pos; pure x) = [do let x ← eval ea X.env; standAt pos; pure x, do let x ← eval eb X.env; standAt pos; pure x] := by rfl) : DE X (.Dict [none, none] [ea, eb] pos) (dMerge Ta Tb) :=
  ⟨fun pins s σ H k I ⟨C, δ, Q, hh, hT, hk⟩ => by
    rw [arm_eval_Dict, he, he2]
    show wpAny _ _ (standAt pos >>= fun _ => dictDisplay [(none, do let x ← eval ea X.env; standAt pos; pure x), (none, do let x ← eval eb X.env; standAt pos; pure x)]) _ _ _
    unfold dictDisplay
    simp only [List.forIn_cons, List.forIn_nil, List.isEmpty_nil, if_true, pure_bind, bind_assoc]
    refine wpAny_bind (wpAny_standAt (wpAny_bind (wpAny_alloc ?_)))
    generalize hd : s.heap.objs.size = d
    have hn : H d = none := I.hok.fresh (Nat.le_of_eq hd)
    have hsys : (d == sysModules) = false := beq_eq_false_iff_ne.mpr (by rw [← hd]; exact Nat.ne_of_gt I.big)
    have nC := hh.cells.free hn
    have d0 : dictIs X.prog X.w d [] (s.heap.push { cls := .type "dict", data := .dict #[] }) := by
      have z := dictIs_of (P := X.prog) (w := X.w) (xs := []) .nil (Heap.DictOfH.new (knd := nestedKind X.prog X.w) s.heap)
      rw [hd] at z
      exact z
    have I1 : Inv X pins σ (upd H d (.ext (dictIs X.prog X.w d []))) { s with heap := s.heap.push { cls := .type "dict", data := .dict #[] } } :=
      I.laid (a := d) (o := .ext (dictIs X.prog X.w d [])) (t' := s.toks) (fun _ _ q => Heap.get?_push_of_some _ q) (Nat.le_of_eq hd) (dct_obj d0)
    have x0 : Ext C H (withC C d (.ext (dictIs X.prog X.w d []))) (upd H d (.ext (dictIs X.prog X.w d []))) := Ext.made hh.cells hn
    have h1 := hh.ext (hh.cells.made (o := .ext (dictIs X.prog X.w d [])) hn) x0
    refine wpAny_bind (wpAny_holding (wpAny_bind (thn (ha.run pins _ σ _ (fun v H2 => ∃ a, RepD X.prog X.w (withC C d (.ext (dictIs X.prog X.w d []))) H2 v (.dct a) ∧ CellsOk (withC C d (.ext (dictIs X.prog X.w d []))) H2 ∧ Keep (withC C d (.ext (dictIs X.prog X.w d []))) (upd H d (.ext (dictIs X.prog X.w d []))) H2 ∧
      Apart a ∧ a.length ≤ sizeLine ∧ Tb δ fun y => (match y with
        | .dct b => Apart b ∧ ((a ++ b).map (·.1)).Nodup ∧ a.length + b.length ≤ sizeLine ∧ Q (.dct (a ++ b))
        | _ => False)) I1 ⟨_, δ, _, h1, hT, fun v H2 dd r2 c2 k2 q => ?_⟩) fun u s2 ⟨v, H2, I2, rv, a, r2, c2, k2, ap, la, q⟩ => ?_)))
    · split at q
      · rename_i a
        exact ⟨a, r2, c2, k2, q⟩
      · exact q.elim
    refine wpAny_bind (wpAny_standAt (wpAny_pure (wpAny_bind (wpAny_onRaise (wpAny_tryCatch (wpAny_onRaise (wpAny_holding ?_)))))))
    have nda : (([] ++ a : List (NestedKey × PyData)).map (·.1)).Nodup := by
      obtain ⟨_, _, _, _, da⟩ := r2
      exact da.nd
    refine merge_step (a := []) (b := a) (xs := []) hu I2 nC c2 hsys .nil nda (by simpa using la) (fun _ => ap) rv r2 fun s3 H3 zs I3 c3 x3 e3 => ?_
    have x13 := (x0.trans (Ext.of k2)).trans x3
    refine wpAny_bind (wpAny_holding (wpAny_bind (thn (hb.run pins _ σ _ (fun v H4 => ∃ b, RepD X.prog X.w (withC C d (.ext (dictIs X.prog X.w d ([] ++ zs)))) H4 v (.dct b) ∧ CellsOk (withC C d (.ext (dictIs X.prog X.w d ([] ++ zs)))) H4 ∧ Keep (withC C d (.ext (dictIs X.prog X.w d ([] ++ zs)))) H3 H4 ∧
      Apart b ∧ ((a ++ b).map (·.1)).Nodup ∧ a.length + b.length ≤ sizeLine ∧ Q (.dct (a ++ b))) I3 ⟨_, δ, _, hh.ext c3 x13, q, fun v H4 dd r4 c4 k4 q4 => ?_⟩) fun u4 s4 ⟨v4, H4, I4, rv4, b, r4, c4, k4, apb, ndb, lb, q4⟩ => ?_)))
    · split at q4
      · rename_i b
        exact ⟨b, r4, c4, k4, q4⟩
      · exact q4.elim
    refine wpAny_bind (wpAny_standAt (wpAny_pure (wpAny_bind (wpAny_onRaise (wpAny_tryCatch (wpAny_onRaise (wpAny_holding ?_)))))))
    refine merge_step (a := [] ++ a) (b := b) (xs := [] ++ zs) hu I4 nC c4 hsys (e3.keep k4) ndb lb (fun _ => apb) rv4 r4 fun s5 H5 ws I5 c5 x5 e5 => ?_
    have xx := ((x13.trans (Ext.of k4)).trans x5).trans (Ext.done nC)
    have lz : ([] ++ zs ++ ws).length = ([] ++ a ++ b).length := Paired.length e5
    refine wpAny_pure ⟨.ref d, H5, I5, rfl, hk _ H5 (.dct (a ++ b)) ⟨d, [] ++ zs ++ ws, rfl, nC, hsys, by rw [lz]; simpa using lb, c5.at_, ndb, ?_⟩ (c5.done nC) xx.keep q4⟩
    exact Paired.mapP e5 fun _ _ z => ⟨z.1, ⟨z.2.1.1.ext (Ext.done nC), z.2.1.2⟩, z.2.2.ext (Ext.done nC)⟩⟩
/-! ### d[k] = v, the dict a cell -/
theorem set_dct {X : Cx} {pins : List (Addr × Obj)} {σ : L2.St} {H : Hp} {s : Shared} {C : Cells} {d : Addr} {kvs : List (NestedKey × PyData)} {xs : List (NestedKey × Addr × V)} {y v : V} {yu u : Value} {p pv : PyData} {k : NestedKey} {E : Value → Shared → Prop} {Q : Unit → Shared → Prop}
    (hu : X.A.units + 64 < cLine) (I : Inv X pins σ H s) (hc : CellsOk (withC C d (.ext (dictIs X.prog X.w d xs))) H) (hs : (d == sysModules) = false) (hx : EntOk (withC C d (.ext (dictIs X.prog X.w d xs))) H xs kvs) (hnd : (kvs.map (·.1)).Nodup) (hsz : kvs.length + 1 ≤ sizeLine)
    (hk : tkey p = some k) (hf : k ∉ kvs.map (·.1)) (ry : RelV y yu) (rp : Rp (withC C d (.ext (dictIs X.prog X.w d xs))) H y p) (rv : RelV v u) (rpv : Rp (withC C d (.ext (dictIs X.prog X.w d xs))) H v pv)
    (h : ∀ s' H' z, Inv X pins σ H' s' → CellsOk (withC C d (.ext (dictIs X.prog X.w d (xs ++ [z])))) H' → Ext (withC C d (.ext (dictIs X.prog X.w d xs))) H (withC C d (.ext (dictIs X.prog X.w d (xs ++ [z])))) H' →
      H' = upd H d (.ext (dictIs X.prog X.w d (xs ++ [z]))) → EntOk (withC C d (.ext (dictIs X.prog X.w d (xs ++ [z])))) H' (xs ++ [z]) (kvs ++ [(k, pv)]) → Q () s') : wpAny (model X.prog X.w) X.A (setItem (.ref d) yu u) Q E s := by
  have lxa : xs.length = kvs.length := Paired.length hx
  obtain ⟨vs, e1, h1⟩ := dct_heap (C := withC C d (.ext (dictIs X.prog X.w d xs))) I ⟨hs, by omega, hc.at_, hnd, hx⟩
  have lv : xs.length = vs.length := Paired.length e1
  obtain ⟨b, rfl, ka⟩ := tkey_at hk rp
  cases (show yu = Value.ref b from ry)
  refine wpAny_setItem_heap (nk_room hu) (key_is I ka) h1 (fun h' hd' hs' => ?_) (by omega)
  have hfr : atKey vs k = none := by
    unfold atKey
    cases z : vs.find? (fun x => decide (x.1 = k)) with
    | none => rfl
    | some w =>
      exfalso
      have m := List.mem_of_find?_eq_some z
      have e := List.find?_some z
      refine hf ?_
      rw [← EntOk.keys hx, EntRel.keys e1]
      exact List.mem_map.mpr ⟨w, m, by simpa using e⟩
  rw [storedH_new hfr] at hd'
  have mu : Mut (H d) := by
    rw [hc.at_]
    trivial
  have er : EntRel (xs ++ [(k, b, v)]) (vs ++ [(k, b, u)]) := paired_app e1 (.cons ⟨rfl, rfl, rv⟩ .nil)
  obtain ⟨od', _, _, hod', _⟩ := id hd'
  refine h _ _ (k, b, v) (I.write (t' := _) (o := .ext (dictIs X.prog X.w d (xs ++ [(k, b, v)]))) mu (.inl rfl) (fun c uo hcd hg => (hs'.2 c hcd).trans hg) ⟨od', hod'⟩ (dct_obj (dictIs_of er hd'))) hc.turn Ext.turn rfl ?_
  exact paired_app (Paired.mapP hx fun _ _ z => ⟨z.1, ⟨z.2.1.1.ext Ext.turn, z.2.1.2⟩, z.2.2.ext Ext.turn⟩) (.cons ⟨rfl, ⟨ka.1.ext Ext.turn, ka.2⟩, rpv.ext Ext.turn⟩ .nil)
end FL
/-! FL: sorted of tuples the first of which is empty. -/
namespace FLS
open PySem PySem.W PySem.Calls PyProof.Rows SeqAt
section
variable {prog : Program} {w : World} {A : Around} {E : Value → Shared → Prop} {s : Shared}
theorem call_tuple_lt {Q : Value → Shared → Prop} {l b : Addr} {items items2 : Array Value} {e r : Nat → Bool} (hl : s.heap.IsTuple l items) (hb : s.heap.IsTuple b items2)
    (he : ∀ j (h1 : j < items.size) (h2 : j < items2.size), EqAt A.in1 s items[j] items2[j] (e j)) (hr : ∀ j (h1 : j < items.size) (h2 : j < items2.size), e j = false → RcLt A.in1 s items[j] items2[j] (r j))
    (h : Q (.bool (firstLt e r (decide (items.size < items2.size)) (List.range (min items.size items2.size)))) s) : wpAny (model prog w) A (call (.builtin "tuple.__lt__") [.ref l, .ref b]) Q E s := by
  obtain ⟨⟨cls, dd, data, sl⟩, ho, hc, n, hd⟩ := id hl
  obtain ⟨⟨cls2, dd2, data2, sl2⟩, ho2, hc2, n2, hd2⟩ := id hb
  simp only at hc hd hc2 hd2
  subst hc hd hc2 hd2
  exact call_meets F.slot_tuple_lt ⟨_, ho, rfl⟩ F.entry_tuple_lt (F.args_tuple_lt_2 _ _) (tuple_ltAt l b items items2 n n2 dd dd2 sl sl2 e r) ⟨ho, ho2, he, hr, h⟩
theorem oneLt_tup {xs ys : List PyData} {a b : Value} {as bs : List Addr} {Q : Bool → Shared → Prop} (ra : Reads s.heap a (.tuple xs) as) (rb : Reads s.heap b (.tuple ys) bs) (hal : alikeAll xs ys = true)
    (hu : A.units + min (PyData.tuple xs).depth (PyData.tuple ys).depth < cLine) (hq : Q (dataLt (.tuple xs) (.tuple ys)) s) : wpAny (model prog w) A (oneLt' true a b) Q E s := by
  cases ra with
  | @tuple l o vs n _ as₁ h1 h2 h3 h4 =>
    cases rb with
    | @tuple l' o' vs' n' _ bs₁ k1 k2 k3 k4 =>
      have n1 : vs.size = xs.length := by simpa using ReadsAll.length _ _ _ h4
      have n2 : vs'.size = ys.length := by simpa using ReadsAll.length _ _ _ k4
      rw [dataLt_tuple, ← firstLt_toks xs ys hal, ← n1, ← n2] at hq
      rw [oneLt'_eq]
      simp only [if_true]
      refine wpAny_bind (wpAny_cRoomFor (room_here hu) ?_)
      refine wpAny_bind (wpAny_callSpecialIfBound?_slot (T := "tuple") ⟨_, h1, h2⟩ F.slot_tuple_lt (call_tuple_lt (e := pairEq xs ys) (r := fun j => dataLt (xs.getD j .none) (ys.getD j .none)) ⟨_, h1, h2, _, h3⟩ ⟨_, k1, k2, _, k3⟩ (fun j j1 j2 => ?_) (fun j j1 j2 hj => ?_) ?_))
      · have := eqAt_alikeAll xs ys A.in1 s vs.toList vs'.toList _ _ h4 k4 hal (room_in hu) j (by simpa using j1) (by simpa using j2)
        simpa using this
      · have := rcLt_alikeAll xs ys A.in1 s vs.toList vs'.toList _ _ h4 k4 hal (room_in hu) j (by simpa using j1) (by simpa using j2) hj
        simpa using this
      · exact wpAny_truthy_bool hq
/-- the first items of tuples, none of an empty one -/
theorem firsts_any : ∀ {vs : List Value} {ds : List PyData} {Q : List (Option Value) → Shared → Prop}, EachIs (fun v d => ∃ as, Reads s.heap v d as) vs ds → (∀ d, d ∈ ds → ∃ xs, d = .tuple xs) →
    (∀ bs : List (Option Value), bs.length = vs.length → (∀ r : List PyData, ds = .tuple [] :: r → bs[0]? = some none) → Q bs s) → wpAny (model prog w) A (vs.mapM firstOfTuple') Q E s
  | [], _, Q, .nil, _, h => by
    rw [List.mapM_nil]
    exact wpAny_pure (h [] rfl fun _ e => nomatch e)
  | v :: vs, d :: ds, Q, .cons ⟨as, r⟩ t, ht, h => by
    obtain ⟨xs, rfl⟩ := ht d List.mem_cons_self
    rw [List.mapM_cons]
    refine wpAny_bind ?_
    cases r with
    | @tuple a o its n _ _ ho hc hd hr =>
      rw [kas_first_eq]
      refine wpAny_bind (Looks.here (show Looks (model prog w) s.heap (typeOf (.ref a)) o.cls from (Looks.ld ho).andThen .now) ?_)
      rw [hc, if_neg (by first | decide | simp)]
      refine wpAny_bind (listItems_at ho hd (wpAny_pure ?_))
      refine wpAny_bind (firsts_any (Q := fun bs s' => wpAny (model prog w) A (pure (its[0]? :: bs)) Q E s') t (fun d hd => ht d (List.mem_cons_of_mem _ hd)) fun bs hl _ => wpAny_pure (h _ (by rw [List.length_cons, List.length_cons, hl]) fun r e => ?_))
      obtain ⟨e1, _⟩ := List.cons.inj e
      cases e1
      have h0 : its.toList = [] := by
        generalize its.toList = l at hr
        cases hr
        rfl
      have h1 : its = #[] := Array.toList_inj.mp (by simpa using h0)
      subst h1
      rfl
theorem kind_empty {vs : List Value} {ds : List PyData} {Q : SortKind → Shared → Prop} (e : EachIs (fun v d => ∃ as, Reads s.heap v d as) vs (.tuple [] :: ds)) (ht : ∀ d, d ∈ PyData.tuple [] :: ds → ∃ xs, d = .tuple xs) (h2 : 2 ≤ vs.length) (h : Q oneType' s) :
    wpAny (model prog w) A (keyKind' vs.toArray) Q E s := by
  obtain ⟨v₁, v₂, rest, rfl⟩ : ∃ v₁ v₂ rest, vs = v₁ :: v₂ :: rest := by
    match vs, h2 with
    | [], h2 => simp at h2
    | [_], h2 => simp at h2
    | v₁ :: v₂ :: rest, _ => exact ⟨v₁, v₂, rest, rfl⟩
  rw [keyKind'_eq, List.mapM_toArray, map_eq_pure_bind]
  refine wpAny_bind (wpAny_bind (firsts_any e ht fun bs hl h0 => wpAny_pure ?_))
  have h00 := h0 ds rfl
  obtain ⟨b0, br, rfl⟩ : ∃ b0 br, bs = b0 :: br := by
    cases bs with
    | nil => simp at hl
    | cons a b => exact ⟨a, b, rfl⟩
  have hb : b0 = none := by simpa using h00
  subst hb
  rw [if_neg (by simp), if_neg (by simp)]
  rw [oneTypeOnly'_eq, List.mapM_toArray, map_eq_pure_bind]
  refine wpAny_bind (wpAny_bind (wpAny_bind (kas_mapM (r := Value.type "tuple") _ (fun v hv Q' hq => ?_) (wpAny_pure ?_))))
  · obtain ⟨d, hd, as, r⟩ := e.left v hv
    obtain ⟨xs, rfl⟩ := ht d hd
    exact (looks_reads (M := model prog w) r).here hq
  · have hall : ((List.map (fun _ => Value.type "tuple") (v₁ :: v₂ :: rest)).toArray.all fun x => x == Value.type "tuple") = true := by
      simp only [List.all_toArray, List.all_map, List.all_eq_true]
      intro _ _
      rfl
    have h0 : (List.map (fun _ => Value.type "tuple") (v₁ :: v₂ :: rest)).toArray[0]? = some (Value.type "tuple") := by simp
    rw [h0]
    simp only [hall, if_true]
    exact wpAny_pure (wpAny_pure h)
theorem sortsAt_empty {vs : List Value} {ds : List PyData} (e : EachIs (fun v d => ∃ as, Reads s.heap v d as) vs (.tuple [] :: ds)) (ht : ∀ d, d ∈ PyData.tuple [] :: ds → ∃ xs, d = .tuple xs) (hal : AllAlike (.tuple [] :: ds)) (hu : ∀ d, d ∈ PyData.tuple [] :: ds → A.units + d.depth < cLine) :
    SortsAt prog w A s (dataKind s.heap (.tuple [] :: ds)) vs := by
  have room : ∀ {d d' : PyData}, d ∈ PyData.tuple [] :: ds → A.units + min d.depth d'.depth < cLine := fun {d d'} hd => Nat.lt_of_le_of_lt (Nat.add_le_add_left (Nat.min_le_left _ _) _) (hu d hd)
  refine ⟨fun v hv => ?_, oneType', ?_, fun h2 E Q hq => kind_empty e ht h2 hq⟩
  · obtain ⟨d, hd, as, r⟩ := e.left v hv
    exact ⟨_, dataKind_some hal hd r⟩
  · intro E x y a b Q ha hb hq
    obtain ⟨d, as, hd, ra, rfl⟩ := dataKind_inv ha
    obtain ⟨d', as', hd', rb, rfl⟩ := dataKind_inv hb
    have hdd := hal d hd d' hd'
    have hr := room (d' := d') hd
    obtain ⟨xs, rfl⟩ := ht d hd
    obtain ⟨ys, rfl⟩ := ht d' hd'
    rw [keyLt'_oneType]
    exact oneLt_tup ra rb (by simpa [alike] using hdd) hr hq
/-- sorted(xs) -/
theorem sorted_empty {R : Value → PyData → Prop} {l : Addr} {vs : List Value} {ds : List PyData} {Q : Value → Shared → Prop} (hl : s.heap.IsList l vs.toArray) (e : EachIs R vs (.tuple [] :: ds)) (er : EachIs (fun v b => ∃ as, Reads s.heap v b as) vs (.tuple [] :: ds))
    (ht : ∀ d, d ∈ PyData.tuple [] :: ds → ∃ xs, d = .tuple xs) (hal : AllAlike (.tuple [] :: ds)) (hL : (PyData.tuple [] :: ds).length ≤ sizeLine) (hu : ∀ b, b ∈ PyData.tuple [] :: ds → A.units + 2 + b.depth < cLine)
    (h : ∀ out, out.length = vs.length → EachIs R out ((PyData.tuple [] :: ds).mergeSort (dataLe false id)) → Q (.ref (s.heap.objs.size + 1)) { s with heap := sortedAll s.heap vs (List.toArray out) }) : wpAny (model prog w) A (call (.builtin "sorted") [.ref l]) Q E s := by
  have er' : EachIs (fun v b => ∃ as, Reads (sortingHeap (copyHeap s.heap vs) (s.heap.objs.size + 1) vs) v b as) vs (.tuple [] :: ds) := er.mono fun _ _ ⟨as, r⟩ => ⟨as, PyProof.Rows.Reads.keeps (fun _ _ => sorting_copy_old) r⟩
  have em : (PyData.tuple [] :: ds).map id = PyData.tuple [] :: ds := List.map_id _
  refine sorted_vals (κ := dataKind (sortingHeap (copyHeap s.heap vs) (s.heap.objs.size + 1) vs) (.tuple [] :: ds)) hl (sortsAt_empty (s := { s with heap := sortingHeap (copyHeap s.heap vs) (s.heap.objs.size + 1) vs }) er' ht hal fun d hd => hu d hd) (by rw [e.length]; exact hL) (h _ (sortVals_length false rfl) ?_)
  have z := sortVals_data (enc := id) (h' := sortingHeap (copyHeap s.heap vs) (s.heap.objs.size + 1) vs) false e er' (by rw [em]; exact hal)
  rw [em] at z
  exact z
end
/-- a list in strict order is THE sorted one -/
theorem sort_is {ds out : List PyData} (p : out.Perm ds) (hs : out.Pairwise fun a b => dataLt a b = true) : ds.mergeSort (dataLe false id) = out := by
  have tot : TotalLe (dataLe false (id : PyData → PyData)) := sortLe_total (listOrd itemOrd) false fun b => keyToks b
  have h1 := sort_pairwise tot ds
  have irr : ∀ a b : PyData, dataLt a b = true → dataLt b a = false := fun a b h => by
    cases q : dataLt b a with
    | false => rfl
    | true =>
      have z := (listOrd itemOrd).trans _ _ _ h q
      have z2 := (listOrd itemOrd).irrefl (keyToks a)
      rw [z] at z2
      cases z2
  have h2 : out.Pairwise fun a b => dataLe false id a b = true := hs.imp fun {a b} h => by
    show (!dataLt b a) = true
    rw [irr a b h]
    rfl
  refine List.Perm.eq_of_pairwise (le := fun a b => dataLe false id a b = true) (fun a b ha hb hab hba => ?_) h1 h2 ((List.mergeSort_perm ds _).trans p.symm)
  have ha' : a ∈ out := p.symm.mem_iff.mp ((List.mergeSort_perm ds _).mem_iff.mp ha)
  have hab' : dataLt b a = false := by
    have : (!dataLt b a) = true := hab
    simpa using this
  have hba' : dataLt a b = false := by
    have : (!dataLt a b) = true := hba
    simpa using this
  have key : ∀ (l : List PyData), (l.Pairwise fun a b => dataLt a b = true) → a ∈ l → b ∈ l → a = b := by
    intro l hl
    induction l with
    | nil => intro h; cases h
    | cons x r ih =>
      intro m1 m2
      obtain ⟨q1, q2⟩ := List.pairwise_cons.mp hl
      rcases List.mem_cons.mp m1 with e1 | m1
      · rcases List.mem_cons.mp m2 with e2 | m2
        · rw [e1, e2]
        · have := q1 b m2
          rw [← e1, hba'] at this
          cases this
      · rcases List.mem_cons.mp m2 with e2 | m2
        · have := q1 a m1
          rw [← e2, hab'] at this
          cases this
        · exact ih q2 m1 m2
  exact key out hs ha' hb
end FLS
/-! FL: sorted, in the layer; a name in a written table of texts. -/
namespace FL
open PySem PySem.Spec PyProof.Rows L2
structure SortOk (ps out : List PyData) : Prop where
  fst : ∃ r, ps = .tuple [] :: r
  tup : ∀ d, d ∈ ps → ∃ xs, d = .tuple xs
  alike : PySem.W.AllAlike ps
  dep : ∀ d, d ∈ ps → d.depth ≤ 8
  perm : out.Perm ps
  srt : out.Pairwise fun a b => PySem.W.dataLt a b = true
def drSorted : DRs := fun ds Q => match ds with
  | [.d (.list ps)] => ∃ out, SortOk ps out ∧ Q (.d (.list out))
  | _ => False
section
variable {X : Cx}
theorem each_rp {C : Cells} {H : Hp} : ∀ {vs : List V} {ps : List PyData} {us : List Value}, RpAll C H vs ps → Vals vs us → PySem.W.EachIs (fun u p => ∃ v, RelV v u ∧ Rp C H v p) us ps
  | _, _, _, .nil, .nil => .nil
  | _, _, _, .cons r t, .cons q s => .cons ⟨_, q, r⟩ (each_rp t s)
theorem rp_each {C : Cells} {H : Hp} : ∀ {ps : List PyData} {us : List Value}, PySem.W.EachIs (fun u p => ∃ v, RelV v u ∧ Rp C H v p) us ps → ∃ vs, Vals vs us ∧ RpAll C H vs ps
  | _, _, .nil => ⟨[], .nil, .nil⟩
  | _, _, .cons ⟨v, a, b⟩ t => by
    obtain ⟨vs, h1, h2⟩ := rp_each t
    exact ⟨v :: vs, .cons a h1, .cons b h2⟩
theorem cd_sorted (hu : X.A.units + 64 < cLine) : CallR X (.builtin "sorted") (liftC X.prog X.w drSorted) := by
  intro pins s σ H xs us k I rx ⟨C, ds, Q, r, c, q, hk⟩
  unfold drSorted at q
  split at q
  · rename_i ps
    obtain ⟨out, ⟨⟨rr, rfl⟩, h2, h3, h4, h5, h6⟩, q⟩ := q
    obtain ⟨v, rfl, rv⟩ := rep1 r
    have rv' : Rp C H v (.list (.tuple [] :: rr)) := rv
    cases rv' with
    | lst n hs ra =>
      obtain ⟨u, rfl, ru⟩ := vals1 rx
      cases ru
      obtain ⟨its, rI, pl, hz⟩ := I.list (SqL.of hs)
      have e1 := each_rp ra rI
      have e2 : PySem.W.EachIs (fun v b => ∃ as, Reads s.heap v b as) its (.tuple [] :: rr) := e1.mono fun u p ⟨v, a, b⟩ => Dp.reads I p v u (Rp.dp (K := X.K) b) a
      have hlen := ra.length
      refine FLS.sorted_empty pl.isList e1 e2 h2 h3 (by omega) (fun b hb => by have := h4 b hb; omega) fun outv hl e3 => ?_
      rw [FLS.sort_is h5 h6] at e3
      obtain ⟨vs, g1, g2⟩ := rp_each e3
      have hn : H (s.heap.objs.size + 1) = none := I.hok.fresh (Nat.le_succ _)
      obtain ⟨m, hm⟩ := sortedAll_at s.heap its outv.toArray
      refine ⟨.ref (s.heap.objs.size + 1), upd H (s.heap.objs.size + 1) (.lst vs), I.laid (t' := s.toks) (fun b o e => sortedAll_old e) (Nat.le_succ _) ⟨?_, outv, m, g1, hm⟩, rfl, ?_⟩
      · rw [g1.length, hl, ← rI.length]
        exact hz
      · exact hk _ _ (.d (.list out)) (rp_new_lst c hn g2) (c.new hn) (Keep.new hn) q
  · exact q.elim
/-- x in a written tuple of texts -/
def dInW (ws : List Str) (T : DT) : DT := fun δ Q => T δ fun x => match x with
  | .d (.str y) => Q (dB (ws.any fun z => decide (z = y)))
  | _ => False
theorem de_inW {e : Expr} {T : DT} {ws : List Str} {x : Str} {a : Addr} {pos p : Pos} (he : DE X e T) (hg : Gl X x) (hm : X.mg x = some (.ref a)) (hT : ∀ H, SqT X.K H a (ws.map V.str)) (hd : (x == ("__debug__" : Str)) = false := by decide)
    (hmk : behindInMarks .In (.Name x p) = false := by with_unfolding_all rfl) : DE X (.Compare e [.In] [.Name x p] pos) (dInW ws T) :=
  pe_wk (pe_cmpR op_in_seq he (pe_glob hg hm (v := .ref a) rfl hd) hmk) fun σ H k ⟨C, δ, Q, hh, hTT, hk⟩ => by
    refine ⟨C, δ, _, hh, hTT, fun v H1 d r1 c1 k1 q => ?_⟩
    split at q
    · rename_i y
      obtain rfl := Rp.str_inv r1
      refine ⟨a, ws.map V.str, rfl, .inr (hT H1), rfl, ?_, ?_⟩
      · rw [List.all_map]
        exact List.all_eq_true.mpr fun _ _ => rfl
      · have e : inV (.str y) (ws.map V.str) = ws.any fun z => decide (z = y) := by
          unfold inV
          rw [List.any_map]
          congr
        rw [if_neg (by simp), e]
        exact hk _ H1 (dB _) (Rp.bl _) c1 k1 q
    · exact q.elim
end
end FL
/-! FL: enumerate over a list. -/
namespace FL
open PySem PySem.Spec PyProof.Rows L2
section
variable {X : Cx} {e a b : Expr} {T Ta Tb : DT} {p pos tpos : Pos} {elts : List Expr} {kk : Nat}
theorem di_enum (hg : Gl X "enumerate") (hm : X.mg "enumerate" = none) (ha : DE X e T) (hs : starEach [e] X.env = [(false, eval e X.env)] := by rfl) (hs' : starEach [e] X.env = (false, eval e X.env) :: starEach [] X.env := by rfl) :
    DI X (.Tuple elts kk tpos) (.Call (.Name "enumerate" p) [e] [] pos) (dEnum T) := pi_wk (pi_enum hg hm (pa_cons ha pa_nil hs') hs) fun σ H k ⟨C, δ, Q, hh, hT, hk⟩ => by
  refine ⟨C, δ, _, hh, hT, fun v H1 d r1 c1 k1 q => ?_⟩
  split at q
  · rename_i ps
    have r' : Rp C H1 v (.list ps) := r1
    cases r' with
    | lst n s ra =>
      refine ⟨_, _, rfl, SqL.of s, hk _ H1 _ (fun C2 H2 k2 c2 => ⟨fun i d hd => ?_, fun i hi => ⟨_, SqL.of (k2.go _ _ s n).2, ?_⟩⟩) c1 k1 q⟩
      · obtain ⟨p, hp, e⟩ := enumD_get hd
        subst e
        obtain ⟨v', hv, rv⟩ := ra.get hp
        refine ⟨⟨_, v', SqL.of (k2.go _ _ s n).2, hv⟩, fun x H' y => ?_⟩
        obtain ⟨T, x1, e1, e2, e3, y⟩ := y
        subst e1 e3
        have e := y _ (SqL.of (k2.go _ _ s n).2)
        rw [hv] at e
        cases e
        have kn : Keep C2 H2 (upd H2 T (.tup [.int (i : Nat), v'])) := Keep.new e2
        refine ⟨?_, c2.new e2, kn⟩
        have e0 : ((0 + i : Nat) : Int) = (i : Nat) := by simp
        rw [e0]
        exact rp_new_tup c2 e2 (.cons (.int _) (.cons (rv.ext k2) .nil))
      · rw [ra.length]
        rw [enumD_length] at hi
        exact hi
  · exact q.elim
end
end FL
/-! FL: rules that look at the data. -/
namespace FL
open PySem PySem.Spec PyProof.Rows L2
def drPlus : DR2 := fun x y Q => match x, y with
  | .d (.int i), .d (.int j) => Q (dI (i + j))
  | .d (.list ps), .d (.list qs) => ps.length + qs.length ≤ sizeLine ∧ Q (.d (.list (ps ++ qs)))
  | .d (.tuple ps), .d (.tuple qs) => ps.length + qs.length ≤ sizeLine ∧ Q (.d (.tuple (ps ++ qs)))
  | _, _ => False
def drIx : DR2 := fun x y Q => match x, y with
  | .d (.list ps), .d (.int i) => (match atI ps i with
    | some p => Q (.d p)
    | none => False)
  | .d (.tuple ps), .d (.int i) => (match atI ps i with
    | some p => Q (.d p)
    | none => False)
  | .dct kvs, .d p => (match tkey p with
    | some k => (match lookK kvs k with
      | some v => Q (.d v)
      | none => False)
    | none => False)
  | _, _ => False
def drIn : DR2 := fun x y Q => match x, y with
  | .d p, .d (.tuple ps) => okd p ∧ PyData.canLayAll0 ps = true ∧ Q (dB (ps.any fun z => PyData.eqv z p))
  | .d p, .dct kvs => (match tkey p with
    | some k => Q (dB (lookK kvs k).isSome)
    | none => False)
  | _, _ => False
def drNIn : DR2 := fun x y Q => match x, y with
  | .d p, .d (.tuple ps) => okd p ∧ PyData.canLayAll0 ps = true ∧ Q (dB (!ps.any fun z => PyData.eqv z p))
  | .d p, .dct kvs => (match tkey p with
    | some k => Q (dB (!(lookK kvs k).isSome))
    | none => False)
  | _, _ => False
section
variable {X : Cx}
theorem od_plus : OpR X (binaryOp .Add) (lift2 X.prog X.w drPlus) := fun pins s σ H x y v u Q I rx ry ⟨C, d, e, R, r1, r2, c, q, hk⟩ => by
  unfold drPlus at q
  split at q
  · exact od_add pins s σ H x y v u Q I rx ry ⟨C, _, _, R, r1, r2, c, q, hk⟩
  · exact od_catL pins s σ H x y v u Q I rx ry ⟨C, _, _, R, r1, r2, c, q, hk⟩
  · exact od_catT pins s σ H x y v u Q I rx ry ⟨C, _, _, R, r1, r2, c, q, hk⟩
  · exact q.elim
theorem xd_ix (hu : X.A.units + 64 < cLine) : IxR X (lift2 X.prog X.w drIx) := fun a b pins s σ H x y v u Q I rx ry ⟨C, d, e, R, r1, r2, c, q, hk⟩ => by
  unfold drIx at q
  split at q
  · exact xd_list a b pins s σ H x y v u Q I rx ry ⟨C, _, _, R, r1, r2, c, q, hk⟩
  · exact xd_tup a b pins s σ H x y v u Q I rx ry ⟨C, _, _, R, r1, r2, c, q, hk⟩
  · exact xd_dict hu a b pins s σ H x y v u Q I rx ry ⟨C, _, _, R, r1, r2, c, q, hk⟩
  · exact q.elim
theorem od_in (hu : X.A.units + 65 < cLine) : OpR X (compareOp .In) (lift2 X.prog X.w drIn) := fun pins s σ H x y v u Q I rx ry ⟨C, d, e, R, r1, r2, c, q, hk⟩ => by
  unfold drIn at q
  split at q
  · exact od_inT hu pins s σ H x y v u Q I rx ry ⟨C, _, _, R, r1, r2, c, q, hk⟩
  · exact od_inD (by omega) pins s σ H x y v u Q I rx ry ⟨C, _, _, R, r1, r2, c, q, hk⟩
  · exact q.elim
theorem od_nin (hu : X.A.units + 65 < cLine) : OpR X (compareOp .NotIn) (lift2 X.prog X.w drNIn) := fun pins s σ H x y v u Q I rx ry ⟨C, d, e, R, r1, r2, c, q, hk⟩ => by
  unfold drNIn at q
  split at q
  · exact od_notInT hu pins s σ H x y v u Q I rx ry ⟨C, _, _, R, r1, r2, c, q, hk⟩
  · exact od_notInD (by omega) pins s σ H x y v u Q I rx ry ⟨C, _, _, R, r1, r2, c, q, hk⟩
  · exact q.elim
theorem r65 {k : Nat} {A : Around} (hr : Room k A) : A.units + 65 < cLine := by have := hr.un; omega
end
end FL
/-! FL: {text: .., text: .., text: ..}[e]. -/
namespace FL
open PySem PySem.Spec PyProof.Rows L2
def dWord (a b c : Str) (T1 T2 T3 T0 : DT) : DT := fun δ Q => T1 δ fun x => T2 δ fun y => T3 δ fun z => T0 δ fun k => match k with
  | .d (.str k) => if k = a then Q x else if k = b then Q y else if k = c then Q z else False
  | _ => False
section
variable {X : Cx}
/-- the dict made: its three values -/
def tWord (P : Program) (w : World) (a b c : Str) (T1 T2 T3 : DT) : TE := fun σ H k => ∃ (C : Cells) (δ : DEnv) (R : D → D → D → Prop), Here P w C H σ δ ∧ (T1 δ fun x => T2 δ fun y => T3 δ fun z => R x y z) ∧
  ∀ d H' v1 v2 v3 x y z, Here P w C H' σ δ → Keep C H H' → C d = none → H' d = some (.dK [(.inr a, v1), (.inr b, v2), (.inr c, v3)]) → RepD P w C H' v1 x → RepD P w C H' v2 y → RepD P w C H' v3 z → R x y z → k (.ref d) H'
theorem pe_word {a b c : Str} {e1 e2 e3 : Expr} {T1 T2 T3 : DT} {ja jb jc : Nat} {pa pb pc pos : Pos} (hab : a ≠ b) (hac : a ≠ c) (hbc : b ≠ c) (h1 : DE X e1 T1) (h2 : DE X e2 T2) (h3 : DE X e3 T3) :
    PE X (.Dict [some (.Constant (.str a) ja pa), some (.Constant (.str b) jb pb), some (.Constant (.str c) jc pc)] [e1, e2, e3] pos) (tWord X.prog X.w a b c T1 T2 T3) := ⟨fun pins s σ H k I ⟨C, δ, R, hh, hT, hk⟩ => by
  refine wpAny_Dict_walk (knd := mixKind X.prog X.w) rfl rfl (by simp) (by simp) ?_
  generalize hd : s.heap.objs.size = d
  have hn : H d = none := I.hok.fresh (Nat.le_of_eq hd)
  have hsys : (d == sysModules) = false := beq_eq_false_iff_ne.mpr (by rw [← hd]; exact Nat.ne_of_gt I.big)
  have nC := hh.cells.free hn
  have d0 : ObjOk X.prog X.w (upd H d (.dK [])) (s.heap.push { cls := .type "dict", data := .dict #[] }) d (.dK []) := by
    rw [← hd]
    exact dk_empty s.heap I.big
  have I1 : Inv X pins σ (upd H d (.dK [])) { s with heap := s.heap.push { cls := .type "dict", data := .dict #[] } } :=
    I.laid (a := d) (o := .dK []) (t' := s.toks) (fun _ _ q => Heap.get?_push_of_some _ q) (Nat.le_of_eq hd) d0
  have x0 : Ext C H (withC C d (.dK [])) (upd H d (.dK [])) := Ext.made hh.cells hn
  have g1 := hh.ext (hh.cells.made (o := .dK []) hn) x0
  refine pairTrees_cons_walk (thn (pe_str.run pins _ σ _ (fun v H2 => v = .str a ∧ H2 = upd H d (.dK [])) I1 ⟨rfl, rfl⟩) fun u1 s1 ⟨_, HH, I1, ru1, e, e'⟩ => ?_)
  subst e
  rw [e'] at I1
  refine thn (h1.run pins _ σ _ (fun v H2 => ∃ x, RepD X.prog X.w (withC C d (.dK [])) H2 v x ∧ CellsOk (withC C d (.dK [])) H2 ∧ Keep (withC C d (.dK [])) (upd H d (.dK [])) H2 ∧ T2 δ fun y => T3 δ fun z => R x y z) I1 ⟨_, δ, _, g1, hT, fun v H2 x r c k q => ⟨x, r, c, k, q⟩⟩) fun w1 s2 ⟨v1, H2, I2, rw1, x, r1, c1, k1, q1⟩ => ?_
  refine pairTrees_cons_walk (thn (pe_str.run pins _ σ _ (fun v H3 => v = .str b ∧ H3 = H2) I2 ⟨rfl, rfl⟩) fun u2 s3 ⟨_, HH, I3, ru2, e, e'⟩ => ?_)
  subst e
  rw [e'] at I3
  refine thn (h2.run pins _ σ _ (fun v H4 => ∃ y, RepD X.prog X.w (withC C d (.dK [])) H4 v y ∧ CellsOk (withC C d (.dK [])) H4 ∧ Keep (withC C d (.dK [])) H2 H4 ∧ T3 δ fun z => R x y z) I3 ⟨_, δ, _, g1.go c1 k1, q1, fun v H2 x r c k q => ⟨x, r, c, k, q⟩⟩) fun w2 s4 ⟨v2, H4, I4, rw2, y, r2, c2, k2, q2⟩ => ?_
  refine pairTrees_cons_walk (thn (pe_str.run pins _ σ _ (fun v H5 => v = .str c ∧ H5 = H4) I4 ⟨rfl, rfl⟩) fun u3 s5 ⟨_, HH, I5, ru3, e, e'⟩ => ?_)
  subst e
  rw [e'] at I5
  refine thn (h3.run pins _ σ _ (fun v H6 => ∃ z, RepD X.prog X.w (withC C d (.dK [])) H6 v z ∧ CellsOk (withC C d (.dK [])) H6 ∧ Keep (withC C d (.dK [])) H4 H6 ∧ R x y z) I5 ⟨_, δ, _, (g1.go c1 k1).go c2 k2, q2, fun v H2 x r c k q => ⟨x, r, c, k, q⟩⟩) fun w3 s6 ⟨v3, H6, I6, rw3, z, r3, c3, k3, q3⟩ => ?_
  refine pairTrees_nil_walk ?_
  obtain ⟨t1, rfl⟩ := ru1
  obtain ⟨t2, rfl⟩ := ru2
  obtain ⟨t3, rfl⟩ := ru3
  obtain ⟨_, _, vs0, kv0, do0⟩ := dk_of I6.hok c3.at_
  cases kv0
  refine ⟨[(.inr a, w1), (.inr b, w2), (.inr c, w3)], ⟨by simp [mixKind, keyIs, Value.isStrOf], rfl, by simp [mixKind, keyIs, Value.isStrOf], rfl, by simp [mixKind, keyIs, Value.isStrOf], rfl, trivial⟩, do0, fun h' hm hs' => ?_⟩
  have hmm : merged ([] : List (Key × Value)) [(.inr a, w1), (.inr b, w2), (.inr c, w3)] = [(.inr a, w1), (.inr b, w2), (.inr c, w3)] := by
    simp [merged, stored, hab, hac, hbc, Ne.symm hab]
  rw [hmm] at hm
  have mu : Mut (H6 d) := by
    rw [c3.at_]
    trivial
  obtain ⟨o', _, _, ho', _⟩ := id hm
  have I7 : Inv X pins σ (upd H6 d (.dK [(.inr a, v1), (.inr b, v2), (.inr c, v3)])) { s6 with heap := h', toks := s6.toks + 3 } :=
    I6.write (o := .dK [(.inr a, v1), (.inr b, v2), (.inr c, v3)]) mu (.inl rfl) (fun x uo hx hg => (hs'.2 x hx).trans hg) ⟨o', ho'⟩ ⟨by show 3 ≤ sizeLine; decide, hsys, _, .cons ⟨rfl, rw1⟩ (.cons ⟨rfl, rw2⟩ (.cons ⟨rfl, rw3⟩ .nil)), hm⟩
  have xx : Ext C H C (upd H6 d (.dK [(.inr a, v1), (.inr b, v2), (.inr c, v3)])) := (((x0.trans (Ext.of k1)).trans (Ext.of k2)).trans (Ext.of k3)).trans (Ext.turn.trans (Ext.done nC))
  have cc : CellsOk C (upd H6 d (.dK [(.inr a, v1), (.inr b, v2), (.inr c, v3)])) := (c3.turn (o' := .dK [(.inr a, v1), (.inr b, v2), (.inr c, v3)])).done nC
  have tt : Ext (withC C d (.dK [])) H6 C (upd H6 d (.dK [(.inr a, v1), (.inr b, v2), (.inr c, v3)])) := (Ext.turn (o' := .dK [(.inr a, v1), (.inr b, v2), (.inr c, v3)])).trans (Ext.done nC)
  refine ⟨.ref d, _, I7, rfl, hk d _ v1 v2 v3 x y z (hh.ext cc xx) xx.keep nC upd_same ((r1.keep (k2.trans k3)).ext tt) ((r2.keep k3).ext tt) (r3.ext tt) q3⟩⟩
theorem de_word {a b c : Str} {e0 e1 e2 e3 : Expr} {T0 T1 T2 T3 : DT} {ja jb jc : Nat} {pa pb pc pos pos2 : Pos} (hu : X.A.units + 64 < cLine) (h1 : DE X e1 T1) (h2 : DE X e2 T2) (h3 : DE X e3 T3) (h0 : DE X e0 T0) (hs : NoSl e0)
    (hab : a ≠ b := by decide) (hac : a ≠ c := by decide) (hbc : b ≠ c := by decide) :
    DE X (.Subscript (.Dict [some (.Constant (.str a) ja pa), some (.Constant (.str b) jb pb), some (.Constant (.str c) jc pc)] [e1, e2, e3] pos) e0 pos2) (dWord a b c T1 T2 T3 T0) :=
  pe_wk (pe_dget (by omega) (pe_word hab hac hbc h1 h2 h3) h0 hs) fun σ H k ⟨C, δ, Q, hh, hT, hk⟩ => by
  refine ⟨C, δ, fun x y z => T0 δ fun k => match k with
    | .d (.str k) => if k = a then Q x else if k = b then Q y else if k = c then Q z else False
    | _ => False, hh, hT, fun d H1 v1 v2 v3 x y z h1 k1 nC hd r1 r2 r3 q => ?_⟩
  refine ⟨C, δ, _, h1, q, fun v H2 kk r cc k2 q2 => ?_⟩
  split at q2
  · rename_i kx
    obtain rfl := Rp.str_inv r
    have hd2 := k2 _ _ hd nC
    by_cases c1 : kx = a
    · rw [if_pos c1] at q2
      exact ⟨d, v1, rfl, .inl ⟨_, .inr kx, .inl hd2, rfl, by simp [valV, c1]⟩, hk _ H2 x (r1.keep k2) cc (k1.trans k2) q2⟩
    · rw [if_neg c1] at q2
      by_cases c2 : kx = b
      · rw [if_pos c2] at q2
        exact ⟨d, v2, rfl, .inl ⟨_, .inr kx, .inl hd2, rfl, by simp [valV, c2, hab]⟩, hk _ H2 y (r2.keep k2) cc (k1.trans k2) q2⟩
      · rw [if_neg c2] at q2
        by_cases c3 : kx = c
        · rw [if_pos c3] at q2
          exact ⟨d, v3, rfl, .inl ⟨_, .inr kx, .inl hd2, rfl, by simp [valV, c3, hac, hbc]⟩, hk _ H2 z (r3.keep k2) cc (k1.trans k2) q2⟩
        · rw [if_neg c3] at q2
          exact q2.elim
  · exact q2.elim
end
end FL
/-! FL: the cup read and written. -/
namespace FL
open PySem PySem.Spec PyProof.Rows L2
def drCup : DR2 := fun x y Q => match x, y with
  | .cup, .d (.int i) => (i = 0 ∧ ∀ v, Q (dI v)) ∨ (i = 1 ∧ ∀ v, 0 ≤ v → v < 2 ^ 32 → Q (dI v))
  | _, _ => False
def dCupSet (i : Nat) (k : Int) (T : DT) : DTS := fun E δ => T δ fun d => match d with
  | .d (.int z) => δ[i]? = some (some .cup) ∧ (k = 0 ∨ (k = 1 ∧ 0 ≤ z ∧ z < 2 ^ 32)) ∧ E.nx δ
  | _ => False
section
variable {X : Cx} {pos : Pos}
theorem xd_cup : IxR X (lift2 X.prog X.w drCup) := ix_wk ix_list fun x y H k ⟨C, d, e, Q, r1, r2, c, q, hk⟩ => by
  unfold drCup at q
  split at q
  · rename_i i
    obtain ⟨a, ca, rfl⟩ := r1
    obtain ⟨o, ho, u, v, rfl, h0, h1⟩ := c a _ ca
    obtain rfl := Rp.int_inv r2
    rcases q with ⟨rfl, q⟩ | ⟨rfl, q⟩
    · exact ⟨a, _, 0, .int u, rfl, rfl, SqL.of ho, by simp [atI, ixN], hk _ H (dI u) (.int u) c Keep.refl (q u)⟩
    · exact ⟨a, _, 1, .int v, rfl, rfl, SqL.of ho, by simp [atI, ixN], hk _ H (dI v) (.int v) c Keep.refl (q v h0 h1)⟩
  · exact q.elim
theorem ds_cup {i : Nat} {k : Int} {x : Str} {e : Expr} {T : DT} {j : Nat} {p1 p2 p3 : Pos} (he : DE X e T) (hx : PE X (.Name x p1) (tVar i)) (hs : swapsWithSole [.Subscript (.Name x p1) (.Constant (.int k) j p2) p3] e pos.line X.env = pure false := by rfl) (hw : swappedStores [.Subscript (.Name x p1) (.Constant (.int k) j p2) p3] e X.env = pure none := by rfl)
    (h1 : (assignEach [.Subscript (.Name x p1) (.Constant (.int k) j p2) p3] X.env).map (·.2) = [assign (.Subscript (.Name x p1) (.Constant (.int k) j p2) p3) X.env] := by rfl) :
    DSt X (.Assign [.Subscript (.Name x p1) (.Constant (.int k) j p2) p3] e pos) (dCupSet i k T) := ps_wk (ps_asg he (pg_sub hx pe_int set_list) hs hw h1) fun E σ H ⟨C, δ, DE, hh, hT, n, r, b, ct⟩ => by
  refine ⟨C, δ, _, hh, hT, fun v H1 d rd cd kd q => ?_⟩
  split at q
  · rename_i z
    obtain ⟨hi, hk, q⟩ := q
    obtain ⟨v0, s0, r0⟩ := hh.rep i _ hi
    obtain ⟨a, ca, rfl⟩ := r0
    obtain ⟨o, ho, u, w, rfl, g0, g1⟩ := cd a _ ca
    obtain rfl := Rp.int_inv rd
    have kp : ∀ o', Keep C H1 (upd H1 a o') := fun o' b x hb nb => by
      have ne : b ≠ a := fun e => by rw [e, ca] at nb; cases nb
      rw [upd_ne ne]
      exact hb
    have cc : ∀ u' w' : Int, 0 ≤ w' → w' < 2 ^ 32 → CellsOk C (upd H1 a (.lst [.int u', .int w'])) := fun u' w' l1 l2 b I hb => by
      by_cases e : b = a
      · subst e
        rw [ca] at hb
        cases hb
        exact ⟨_, upd_same, u', w', rfl, l1, l2⟩
      · rw [upd_ne e]
        exact cd b I hb
    rcases hk with rfl | ⟨rfl, l1, l2⟩
    · refine ⟨.ref a, s0, a, _, 0, 0, rfl, rfl, ho, by simp [ixN], ?_⟩
      exact n _ _ _ ((hh.go cd kd).go (cc z w g0 g1) (kp _)) (kd.trans (kp _)) q
    · refine ⟨.ref a, s0, a, _, 1, 1, rfl, rfl, ho, by simp [ixN], ?_⟩
      exact n _ _ _ ((hh.go cd kd).go (cc u z l1 l2) (kp _)) (kd.trans (kp _)) q
  · exact q.elim
end
end FL
namespace TW
open PySem PySem.Spec PyProof.Rows L2
/-! the text by places -/
def top (i : Nat) : Stmt := PySem.Challenge.pw_twobesides_k42_whole_views_that_last.main.body.getD i (.Pass ⟨0, 0, 0, 0⟩)
def dd (x : Str) (i : Nat) : He.DefD := ⟨(x, none), x, x, defArgs (top i), defBody (top i), defScope (top i), [], []⟩
def fn1 : List He.DefD := [dd "is_whole" 6, dd "is_tuple_of" 7, dd "are_whole" 8, dd "pairs_of" 9, dd "pair_of" 10, dd "company_by" 11, dd "ties_in" 12, dd "answer_of" 14, dd "behind" 15, dd "run_by" 16, dd "are_two_named" 21, dd "are_answers" 22, dd "fits_deed" 23, dd "fits_choice" 24, dd "items_in" 25, dd "fits_script" 26, dd "fits_stock" 29, dd "need_stock" 30, dd "all_views" 32, dd "table_by" 33, dd "tables_by" 37, dd "united" 38, dd "is_united" 39, dd "lasting_in" 40]
def fn2 : List He.DefD := [dd "need_one_or_two" 42, dd "lasting_pair" 43, dd "forgetting_way" 44, dd "_law_cup" 46, dd "_law_roll" 47, dd "_law_some" 48, dd "_law_two" 49, dd "_law_pairs" 50, dd "_law_knows" 51, dd "_law_behind" 52, dd "_law_done" 53, dd "_law_answers" 54, dd "_law_deed" 55, dd "_law_items" 56, dd "_law_count" 57, dd "_law_script" 58, dd "_law_views" 60, dd "_law_table" 61, dd "_law_all_views" 63, dd "_law_pairs_one" 65, dd "_law_leads" 66, dd "_law_some_stock" 67, dd "_law_forgets" 68, dd "_law_right" 69, dd "law" 70]
def fn : List He.DefD := fn1 ++ fn2
def fa1 : List He.Fa := [.glo "is_whole", .glo "is_tuple_of", .glo "are_whole", .glo "pairs_of", .glo "pair_of", .glo "company_by", .glo "ties_in", .glo "answer_of", .glo "behind", .glo "run_by", .glo "are_two_named", .glo "are_answers", .glo "fits_deed", .glo "fits_choice", .glo "items_in", .glo "fits_script", .glo "fits_stock", .glo "need_stock", .glo "all_views", .glo "table_by", .glo "tables_by", .glo "united", .glo "is_united", .glo "lasting_in"]
def fa2 : List He.Fa := [.glo "need_one_or_two", .glo "lasting_pair", .glo "forgetting_way", .glo "_law_cup", .glo "_law_roll", .glo "_law_some", .glo "_law_two", .glo "_law_pairs", .glo "_law_knows", .glo "_law_behind", .glo "_law_done", .glo "_law_answers", .glo "_law_deed", .glo "_law_items", .glo "_law_count", .glo "_law_script", .glo "_law_views", .glo "_law_table", .glo "_law_all_views", .glo "_law_pairs_one", .glo "_law_leads", .glo "_law_some_stock", .glo "_law_forgets", .glo "_law_right", .glo "law"]
def fa3 : List He.Fa := [.free "range", .free "isinstance", .free "min", .free "max", .free "len", .free "tuple", .free "list", .free "dict", .free "all", .free "sum", .free "int", .free "bool", .free "str", .free "sorted", .free "enumerate", .free "abs", .int "ITEMS" 30, .int "DEEPEST" 4, .int "SCRIPTS" 6, .int "NAMED" 2, .glo "WORDS"]
def fa : List He.Fa := fa1 ++ (fa2 ++ fa3)
/-! the Hook: the facts, the defs, and one table -/
def ex (K : PySem.W.Frag) : Bool := He.tupB K "WORDS" [.str "know", .str "part", .str "turn"]
abbrev AlX : Type := He.AlD × Bool
def obsX (K : PySem.W.Frag) : AlX := (He.obsD fa fn K, ex K)
def valX : AlX := (He.valD fn, true)
def SaysX (K : PySem.W.Frag) : Prop := obsX K = valX
def obsXG (n : Nat) (g : Addr → Option Obj) : AlX := obsX (He.frG g (He.asD g n))
def hookX (n : Nat) : PySem.W.Hook where
  α := AlX
  obs := fun s => obsXG n s.heap.get?
  val := fun _ => valX
  says := fun _ h => ∃ K : PySem.W.Frag, K.In h ∧ SaysX K
  of := fun _ _ e => ⟨_, He.frG_in, e⟩
  keeps := fun _ _ _ ⟨K, hK, c⟩ k => ⟨K, PySem.W.Frag.In.keeps hK k, c⟩
theorem obsXG_eq {n : Nat} {g : Addr → Option Obj} {s : Shared} (h : ∀ a, g a = s.heap.get? a) : obsXG n g = (hookX n).obs s := by
  have e : g = s.heap.get? := funext h
  rw [e] <;> rfl
abbrev R : PySem.W.OpenRow := PySem.W.OpenLaw.row PySem.Challenge.rw_twobesides_k42_whole_views_that_last
abbrev hk : PySem.W.Hook := hookX 4
def ob (s : PySem.W.SharedT) : AlX := obsXG 4 (HandSHeadRun.getT s)
theorem ob_eq (s : PySem.W.SharedT) : ob s = hk.obs s.abs := obsXG_eq (HandSHeadRun.getT_eq s)
def names1 : List PySem.Str := ["BesidesError", "InvalidNamed", "TooMany", "InvalidStock", "is_whole", "is_tuple_of", "are_whole", "pairs_of", "pair_of", "company_by", "ties_in", "answer_of", "behind", "run_by", "ITEMS", "DEEPEST", "WORDS", "are_two_named", "are_answers", "fits_deed", "fits_choice", "items_in", "fits_script", "SCRIPTS", "fits_stock", "need_stock", "all_views", "table_by", "NAMED", "LOTS", "tables_by"]
def names2 : List PySem.Str := ["united", "is_united", "lasting_in", "way_of_lots", "need_one_or_two", "lasting_pair", "forgetting_way", "_law_cup", "_law_roll", "_law_some", "_law_two", "_law_pairs", "_law_knows", "_law_behind", "_law_done", "_law_answers", "_law_deed", "_law_items", "_law_count", "_law_script", "_law_company", "_law_views", "_law_table", "_law_part", "_law_all_views", "_law_way", "_law_pairs_one", "_law_leads", "_law_some_stock", "_law_forgets", "_law_right"]
def names : List PySem.Str := names1 ++ names2
theorem run (w : World) : HandSHeadRun.RunEq R (PySem.W.view R.prog [70]) hk ob 3000 names w := by
  intro os
  kernel_rfl
end TW
/-! the facts by names, what "a def keeps its promise" is. -/
namespace TW
open PySem PySem.Spec PyProof.Rows L2 FL
def free0 : List Str := ["range", "isinstance", "min", "max", "len", "tuple", "list", "dict", "all", "sum", "int", "bool", "str", "sorted", "enumerate", "abs"]
structure Fc (K : PySem.W.Frag) (mg : Str → Option Value) : Prop where
  defs : ∀ (i : Nat) (d : He.DefD), fn[i]? = some d → ∃ f fd, FunD K d.name d.qual d.params d.body d.scope (d.dvs K) (d.kws K) f fd ∧ mg d.name = some (.ref f)
  free : ∀ x ∈ free0, mg x = none
  ints1 : ∃ t, mg "ITEMS" = some (.int 30 t)
  ints2 : ∃ t, mg "DEEPEST" = some (.int 4 t)
  ints3 : ∃ t, mg "SCRIPTS" = some (.int 6 t)
  ints4 : ∃ t, mg "NAMED" = some (.int 2 t)
  words : ∃ a, mg "WORDS" = some (.ref a) ∧ ∀ H, SqT K H a ((["know", "part", "turn"] : List Str).map V.str)
section
variable {K : PySem.W.Frag} {mg : Str → Option Value} (F : Fc K mg)
include F
theorem Fc.free_range : mg "range" = none := F.free _ (by decide)
theorem Fc.free_isinstance : mg "isinstance" = none := F.free _ (by decide)
theorem Fc.free_min : mg "min" = none := F.free _ (by decide)
theorem Fc.free_max : mg "max" = none := F.free _ (by decide)
theorem Fc.free_len : mg "len" = none := F.free _ (by decide)
theorem Fc.free_tuple : mg "tuple" = none := F.free _ (by decide)
theorem Fc.free_list : mg "list" = none := F.free _ (by decide)
theorem Fc.free_dict : mg "dict" = none := F.free _ (by decide)
theorem Fc.free_all : mg "all" = none := F.free _ (by decide)
theorem Fc.free_sum : mg "sum" = none := F.free _ (by decide)
theorem Fc.free_int : mg "int" = none := F.free _ (by decide)
theorem Fc.free_bool : mg "bool" = none := F.free _ (by decide)
theorem Fc.free_str : mg "str" = none := F.free _ (by decide)
theorem Fc.free_sorted : mg "sorted" = none := F.free _ (by decide)
theorem Fc.free_enumerate : mg "enumerate" = none := F.free _ (by decide)
theorem Fc.free_abs : mg "abs" = none := F.free _ (by decide)
end
section
variable {X : Cx} {pos p : Pos}
theorem Fc.int_ITEMS (F : Fc X.K X.mg) (hg : Gl X "ITEMS") : DE X (.Name "ITEMS" pos) (dC (dI 30)) := by
  obtain ⟨t, h⟩ := F.ints1
  exact de_globI hg h ⟨t, rfl⟩
theorem Fc.int_DEEPEST (F : Fc X.K X.mg) (hg : Gl X "DEEPEST") : DE X (.Name "DEEPEST" pos) (dC (dI 4)) := by
  obtain ⟨t, h⟩ := F.ints2
  exact de_globI hg h ⟨t, rfl⟩
theorem Fc.int_SCRIPTS (F : Fc X.K X.mg) (hg : Gl X "SCRIPTS") : DE X (.Name "SCRIPTS" pos) (dC (dI 6)) := by
  obtain ⟨t, h⟩ := F.ints3
  exact de_globI hg h ⟨t, rfl⟩
theorem Fc.int_NAMED (F : Fc X.K X.mg) (hg : Gl X "NAMED") : DE X (.Name "NAMED" pos) (dC (dI 2)) := by
  obtain ⟨t, h⟩ := F.ints4
  exact de_globI hg h ⟨t, rfl⟩
theorem Fc.inW (F : Fc X.K X.mg) {e : Expr} {T : DT} (he : DE X e T) (hg : Gl X "WORDS") (hmk : behindInMarks .In (.Name "WORDS" p) = false := by with_unfolding_all rfl) : DE X (.Compare e [.In] [.Name "WORDS" p] pos) (dInW ["know", "part", "turn"] T) := by
  obtain ⟨a, h1, h2⟩ := F.words
  exact de_inW he hg h1 h2 (by decide) hmk
end
/-- the def x keeps the promise T, with room k -/
def Ok (P : Program) (w : World) (K : PySem.W.Frag) (mg : Str → Option Value) (base : Heap) (x : Str) (ps : List Str) (k : Nat) (T : DRs) : Prop :=
  ∃ f fd, mg x = some (.ref f) ∧ PySem.W.keepIn K (.ref f) = true ∧ Binds K fd ps [] ∧ FnOk P w K mg base CX0 k f fd ps (liftSp P w T)
section
variable {X : Cx} {pos p : Pos} {e : Expr} {es : List Expr} {T : DTA} {n k j : Nat} {x : Str} {ps : List Str} {r : DRs}
theorem ok_call (o : Ok X.prog X.w X.K X.mg X.base x ps k r) (hr : Room j X.A) (hj : k ≤ j) (hg : Gl X x) (ha : DA X n (e :: es) T) (hdb : (x == ("__debug__" : Str)) = false := by decide)
    (he : starEach (e :: es) X.env = (false, eval e X.env) :: starEach es X.env := by rfl) (hpl : (backTo pos (starEach es X.env)).any (·.1) = false := by rfl) : DE X (.Call (.Name x p) (e :: es) [] pos) (dCall r T) := by
  obtain ⟨f, fd, h1, h2, h3, h4⟩ := o
  exact de_call h4 (hr.mono hj) hg h1 h2 h3 ha hdb he hpl
theorem ok_call0 (o : Ok X.prog X.w X.K X.mg X.base x ps k r) (hr : Room j X.A) (hj : k ≤ j) (hg : Gl X x) (hdb : (x == ("__debug__" : Str)) = false := by decide) : DE X (.Call (.Name x p) [] [] pos) (dCall r dNil) := by
  obtain ⟨f, fd, h1, h2, h3, h4⟩ := o
  exact de_call0 h4 (hr.mono hj) hg h1 h2 h3 hdb
end
section
variable {P : Program} {w : World} {K : PySem.W.Frag} {mg : Str → Option Value} {base : Heap} {x : Str} {N ps : List Str} {k : Nat} {T : DRs}
theorem ok_fn (F : Fc K mg) (i : Nat) {j : Nat} (hd : fn[i]? = some (dd x j)) (S : FnScope N ps (defScope (top j))) (T : DRs) (Tb : DTS) (hlen : ∀ ds Q, T ds Q → ds.length = ps.length) (hT : ∀ ds Q, T ds Q → Tb { nx := fun _ => Q dN, rt := Q } (dstart N ds))
    (hbd : ∀ (kV doc pm : Value) (an : Option Addr) (cdv ct : Value) (us : List Value), us.length = ps.length → bindArgs (PySem.W.fnOf x x (defArgs (top j)) (defBody (top j)) (defScope (top j)) .none kV doc pm an cdv ct) ⟨us, []⟩ = pure (ps.zip us))
    (hb : ∀ (f : Addr) (cdv : Value) (A : Around) (outer : List Env) (s : Shared) (H : Hp) (E : XK), Room k (A.deeper (envOfC x (defScope (top j)) s.heap.objs.size f cdv)) → DSs (cxOf CX0 P w K mg base N x (defScope (top j)) f cdv A outer s H E).nox (defBody (top j)) Tb) :
    Ok P w K mg base x ps (k + 1) T := by
  obtain ⟨f, fd, h1, h2⟩ := F.defs i _ hd
  have h1' : FunD K x x (defArgs (top j)) (defBody (top j)) (defScope (top j)) [] [] f fd := h1
  exact ⟨f, fd, h2, h1'.kp, FunD.bindsN h1' hbd, fl_fn h1' S T Tb hlen hT fun cdv A outer s H E hr => hb f cdv A outer s H E hr⟩
theorem ok_none (F : Fc K mg) (i : Nat) {j : Nat} (hd : fn[i]? = some (dd x j)) (hbd : ∀ (kV doc pm : Value) (an : Option Addr) (cdv ct : Value) (us : List Value), us.length = ps.length → bindArgs (PySem.W.fnOf x x (defArgs (top j)) (defBody (top j)) (defScope (top j)) .none kV doc pm an cdv ct) ⟨us, []⟩ = pure (ps.zip us)) :
    Ok P w K mg base x ps k (fun _ _ => False) := by
  obtain ⟨f, fd, h1, h2⟩ := F.defs i _ hd
  have h1' : FunD K x x (defArgs (top j)) (defBody (top j)) (defScope (top j)) [] [] f fd := h1
  exact ⟨f, fd, h2, h1'.kp, FunD.bindsN h1' hbd, ⟨fun vs H Q E ⟨_, _, _, _, _, z, _⟩ => z.elim, fun A outer s H args us vs Q E _ _ _ _ ⟨_, _, _, _, _, z, _⟩ => z.elim⟩⟩
end
end TW
namespace TW
open PySem PySem.Spec PyProof.Rows L2 FL
/-! ### shaped data -/
def Sh (k : Nat) (p : PyData) : Prop := p.canLay0 = true ∧ p.depth ≤ k
def ShAll (k : Nat) (ps : List PyData) : Prop := PyData.canLayAll0 ps = true ∧ PyData.depthAll ps ≤ k
theorem Sh.okd {k : Nat} {p : PyData} (h : Sh k p) (hk : k ≤ 64 := by decide) : okd p := by
  unfold FL.okd SeqAt.shaped
  rw [h.1, Bool.true_and]
  exact decide_eq_true (Nat.le_trans h.2 hk)
theorem sh_int (i : Int) {k : Nat} : Sh k (.int i) := ⟨rfl, by simp [PyData.depth]⟩
theorem sh_bl (i : Bool) {k : Nat} : Sh k (.bool i) := ⟨rfl, by simp [PyData.depth]⟩
theorem sh_none {k : Nat} : Sh k .none := ⟨rfl, by simp [PyData.depth]⟩
theorem sh_str (x : Str) {k : Nat} (h : PyData.canLay0 (.str x) = true := by decide +kernel) : Sh k (.str x) := ⟨h, by simp [PyData.depth]⟩
theorem shAll_nil {k : Nat} : ShAll k [] := ⟨rfl, by simp [PyData.depthAll]⟩
theorem shAll_cons {k : Nat} {p : PyData} {ps : List PyData} (h : Sh k p) (t : ShAll k ps) : ShAll k (p :: ps) := ⟨by simp [PyData.canLayAll0, h.1, t.1], by unfold PyData.depthAll; exact Nat.max_le.mpr ⟨h.2, t.2⟩⟩
theorem sh_tup {k : Nat} {ps : List PyData} (h : ShAll k ps) : Sh (k + 1) (.tuple ps) := ⟨by simp [PyData.canLay0, h.1], by simp [PyData.depth, h.2]⟩
theorem sh_lst {k : Nat} {ps : List PyData} (h : ShAll k ps) : Sh (k + 1) (.list ps) := ⟨by simp [PyData.canLay0, h.1], by simp [PyData.depth, h.2]⟩
theorem shAll_map {α : Type} {f : α → PyData} {k : Nat} : ∀ {xs : List α}, (∀ x ∈ xs, Sh k (f x)) → ShAll k (xs.map f)
  | [], _ => shAll_nil
  | x :: xs, h => shAll_cons (h x List.mem_cons_self) (shAll_map fun y hy => h y (List.mem_cons_of_mem _ hy))
theorem Sh.mono {j k : Nat} {p : PyData} (h : Sh j p) (l : j ≤ k) : Sh k p := ⟨h.1, Nat.le_trans h.2 l⟩
theorem eqv_int (i j : Int) : PyData.eqv (.int i) (.int j) = decide (i = j) := by
  show (i == j) = _
  rfl
theorem eqv_str (i j : Str) : PyData.eqv (.str i) (.str j) = decide (i = j) := by
  show (i == j) = _
  by_cases h : i = j <;> simp [h]
theorem eqv_tup (xs ys : List PyData) : PyData.eqv (.tuple xs) (.tuple ys) = PyData.eqvAll xs ys := rfl
theorem eqv_lst (xs ys : List PyData) : PyData.eqv (.list xs) (.list ys) = PyData.eqvAll xs ys := rfl
theorem eqvAll_nil : PyData.eqvAll [] [] = true := rfl
theorem eqvAll_cons (x y : PyData) (xs ys : List PyData) : PyData.eqvAll (x :: xs) (y :: ys) = (PyData.eqv x y && PyData.eqvAll xs ys) := rfl
theorem eqvAll_nc (x : PyData) (xs : List PyData) : PyData.eqvAll [] (x :: xs) = false := rfl
theorem eqvAll_cn (x : PyData) (xs : List PyData) : PyData.eqvAll (x :: xs) [] = false := rfl
theorem eqv_empty (xs : List PyData) : PyData.eqv (.list xs) (.list []) = xs.isEmpty := by cases xs <;> rfl
theorem eqvAll_map {α : Type} [DecidableEq α] {f : α → PyData} (h : ∀ a b, PyData.eqv (f a) (f b) = decide (a = b)) : ∀ xs ys : List α, PyData.eqvAll (xs.map f) (ys.map f) = decide (xs = ys)
  | [], [] => rfl
  | [], _ :: _ => rfl
  | _ :: _, [] => rfl
  | x :: xs, y :: ys => by
    rw [List.map_cons, List.map_cons, eqvAll_cons, h, eqvAll_map h xs ys]
    by_cases e : x = y <;> by_cases e2 : xs = ys <;> simp [e, e2]
/-! ### places -/
theorem atI_nat {α : Type} (xs : List α) (i : Nat) (h : i < xs.length) : atI xs (i : Int) = some xs[i] := by
  unfold atI ixN
  rw [if_pos (by omega), if_pos (by omega)]
  simp [h]
theorem atI_0 {α : Type} (x : α) (xs : List α) : atI (x :: xs) 0 = some x := by
  have := atI_nat (x :: xs) 0 (by simp)
  simpa using this
theorem atI_1 {α : Type} (x y : α) (xs : List α) : atI (x :: y :: xs) 1 = some y := by
  have := atI_nat (x :: y :: xs) 1 (by simp)
  simpa using this
theorem atI_2 {α : Type} (x y z : α) (xs : List α) : atI (x :: y :: z :: xs) 2 = some z := by
  have := atI_nat (x :: y :: z :: xs) 2 (by simp)
  simpa using this
theorem atI_3 {α : Type} (x y z u : α) (xs : List α) : atI (x :: y :: z :: u :: xs) 3 = some u := by
  have := atI_nat (x :: y :: z :: u :: xs) 3 (by simp)
  simpa using this
theorem atI_4 {α : Type} (x y z u v : α) (xs : List α) : atI (x :: y :: z :: u :: v :: xs) 4 = some v := by
  have := atI_nat (x :: y :: z :: u :: v :: xs) 4 (by simp)
  simpa using this
theorem big_line : 1000000 ≤ sizeLine := by decide
/-! ### loops -/
def dStep (t : Tgt) (tt : DTT) (te : DT) (δ : DEnv) (x : FL.D) (acc : List PyData) (R : List PyData → Prop) : Prop := t.put x δ fun δ2 => tt δ2 fun b => if b = true then te δ2 fun y => match y with
      | .d p => acc.length < sizeLine ∧ R (acc ++ [p])
      | _ => False
    else R acc
theorem dGo_cons (t : Tgt) (tt : DTT) (te : DT) (δ : DEnv) (x : FL.D) (xs : List FL.D) (acc : List PyData) (Q : List PyData → Prop) : dGo t tt te δ (x :: xs) acc Q = dStep t tt te δ x acc (fun acc' => dGo t tt te δ xs acc' Q) := rfl
theorem dGo_fm {α : Type} {t : Tgt} {tt : DTT} {te : DT} {δ : DEnv} (enc : α → FL.D) (p : α → Bool) (f : α → PyData) : ∀ (xs : List α) (acc : List PyData) (Q : List PyData → Prop), acc.length + xs.length ≤ sizeLine →
    (∀ x ∈ xs, ∀ acc R, acc.length < sizeLine → (if p x = true then R (acc ++ [f x]) else R acc) → dStep t tt te δ (enc x) acc R) → Q (acc ++ (xs.filter p).map f) → dGo t tt te δ (xs.map enc) acc Q
  | [], acc, Q, _, _, q => by simpa [dGo] using q
  | x :: xs, acc, Q, hl, h, q => by
    rw [List.map_cons, dGo_cons]
    have hl' : acc.length + (xs.length + 1) ≤ sizeLine := hl
    refine h x List.mem_cons_self _ _ (by omega) ?_
    by_cases e : p x = true
    · rw [if_pos e]
      refine dGo_fm enc p f xs _ Q (by simp; omega) (fun y hy => h y (List.mem_cons_of_mem _ hy)) ?_
      simpa [List.filter_cons, e] using q
    · rw [if_neg e]
      refine dGo_fm enc p f xs _ Q (by omega) (fun y hy => h y (List.mem_cons_of_mem _ hy)) ?_
      simpa [List.filter_cons, e] using q
theorem dGo_map {α : Type} {t : Tgt} {tt : DTT} {te : DT} {δ : DEnv} (enc : α → FL.D) (f : α → PyData) (xs : List α) (acc : List PyData) (Q : List PyData → Prop) (hl : acc.length + xs.length ≤ sizeLine)
    (h : ∀ x ∈ xs, ∀ acc R, acc.length < sizeLine → R (acc ++ [f x]) → dStep t tt te δ (enc x) acc R) (q : Q (acc ++ xs.map f)) : dGo t tt te δ (xs.map enc) acc Q :=
  dGo_fm enc (fun _ => true) f xs acc Q hl (fun x hx acc R a b => h x hx acc R a (by simpa using b)) (by rw [List.filter_eq_self.mpr fun _ _ => rfl]; exact q)
theorem dGo2_fm {α : Type} {t t1 : Tgt} {I1 : DTI} {tt1 : DTT} {te : DT} {vs1 : List Nat} {δ : DEnv} (enc : α → FL.D) (g : α → List PyData) : ∀ (xs : List α) (acc : List PyData) (Q : List PyData → Prop),
    acc.length + (xs.flatMap g).length ≤ sizeLine → (∀ x ∈ xs, ∀ acc R, acc.length + (g x).length ≤ sizeLine → R (acc ++ g x) → t.put (enc x) δ fun δ2 => I1 δ2 fun ds => dGo t1 tt1 te (dwipe δ2 vs1) ds acc R) →
    Q (acc ++ xs.flatMap g) → dGo2 t I1 t1 tt1 te vs1 δ (xs.map enc) acc Q
  | [], acc, Q, _, _, q => by simpa [dGo2] using q
  | x :: xs, acc, Q, hl, h, q => by
    rw [List.flatMap_cons, List.length_append] at hl
    refine h x List.mem_cons_self acc _ (by omega) ?_
    refine dGo2_fm enc g xs _ Q (by rw [List.length_append]; omega) (fun y hy => h y (List.mem_cons_of_mem _ hy)) ?_
    rw [List.append_assoc, ← List.flatMap_cons]
    exact q
theorem intD_eq (lo : Int) (n : Nat) : intD lo n = (List.range n).map fun i => dI (lo + (i : Nat)) := rfl
theorem list_map_d (ps : List PyData) : ps.map FL.D.d = ps.map fun p => FL.D.d p := rfl
/-- a loop: what holds before each turn -/
theorem dLoop_inv {α : Type} {t : Tgt} {tb : DTS} {E : DEnds} (enc : α → FL.D) (I : List α → DEnv → Prop) : ∀ (xs : List α) (δ : DEnv), I xs δ →
    (∀ x r δ, (∃ a, xs = a ++ x :: r) → I (x :: r) δ → ∀ N : DEnv → Prop, (∀ δ', I r δ' → N δ') → t.put (enc x) δ fun δ' => tb { E with nx := N, ct := N, bk := E.nx } δ') → (∀ δ, I [] δ → E.nx δ) → dLoop t tb E (xs.map enc) δ
  | [], δ, h, _, e => e δ h
  | x :: xs, δ, h, s, e => s x xs δ ⟨[], rfl⟩ h _ fun δ' h' => dLoop_inv enc I xs δ' h' (fun y r δ2 ⟨a, ha⟩ => s y r δ2 ⟨x :: a, by rw [ha]; rfl⟩) e
end TW
namespace TW
open PySem PySem.Spec PyProof.Rows L2 FL
/-! ### plain things -/
abbrev Pr := Nat × Nat
def eN (n : Nat) : PyData := .int (n : Int)
def ePr (p : Pr) : PyData := .tuple [eN p.1, eN p.2]
def eTs (ts : List Pr) : PyData := .tuple (ts.map ePr)
abbrev Co := Nat × List Pr
def eCo (c : Co) : PyData := .tuple [eN c.1, eTs c.2]
def eBit (b : Bool) : PyData := .int (b2I b)
def eBits (a : List Bool) : PyData := .tuple (a.map eBit)
def kPr (p : Pr) : NestedKey := .tup [.num p.1, .num p.2]
theorem kPr_inj {p q : Pr} (h : kPr p = kPr q) : p = q := by
  unfold kPr at h
  simp at h
  exact Prod.ext (by omega) (by omega)
theorem tkey_pr (p : Pr) : tkey (ePr p) = some (kPr p) := rfl
theorem sh_pr (p : Pr) : Sh 1 (ePr p) := sh_tup (shAll_cons (sh_int _) (shAll_cons (sh_int _) shAll_nil))
theorem eqv_pr (p q : Pr) : PyData.eqv (ePr p) (ePr q) = decide (p = q) := by
  unfold ePr eN
  rw [eqv_tup, eqvAll_cons, eqvAll_cons, eqvAll_nil, eqv_int, eqv_int]
  obtain ⟨a, b⟩ := p
  obtain ⟨c, d⟩ := q
  rw [Bool.eq_iff_iff]
  simp
  omega
theorem any_pr (ts : List Pr) (p : Pr) : ((ts.map ePr).any fun z => PyData.eqv z (ePr p)) = decide (p ∈ ts) := by
  rw [List.any_map]
  by_cases h : p ∈ ts
  · rw [decide_eq_true h]
    exact List.any_eq_true.mpr ⟨p, h, by simp [eqv_pr]⟩
  · rw [decide_eq_false h]
    refine List.any_eq_false.mpr fun x hx => ?_
    simp only [Function.comp, eqv_pr, decide_eq_true_eq]
    exact fun e => h (e ▸ hx)
theorem sh_ts (ts : List Pr) : Sh 2 (eTs ts) := sh_tup (shAll_map fun p _ => sh_pr p)
theorem sh_co (c : Co) : Sh 3 (eCo c) := sh_tup (shAll_cons (sh_int _) (shAll_cons (sh_ts _) shAll_nil))
theorem lay_prs (ts : List Pr) : PyData.canLayAll0 (ts.map ePr) = true := (shAll_map fun p _ => sh_pr p).1
/-- all pairs below n -/
def prs (n : Nat) : List Pr := (List.range n).flatMap fun a => (List.range (n - (a + 1))).map fun i => (a, a + 1 + i)
theorem mem_prs {n : Nat} {p : Pr} : p ∈ prs n ↔ p.1 < p.2 ∧ p.2 < n := by
  unfold prs
  rw [List.mem_flatMap]
  constructor
  · rintro ⟨a, ha, h⟩
    obtain ⟨i, hi, rfl⟩ := List.mem_map.mp h
    have := List.mem_range.mp ha
    have := List.mem_range.mp hi
    constructor
    · show a < a + 1 + i
      omega
    · show a + 1 + i < n
      omega
  · rintro ⟨h1, h2⟩
    refine ⟨p.1, List.mem_range.mpr (by omega), List.mem_map.mpr ⟨p.2 - (p.1 + 1), List.mem_range.mpr (by omega), ?_⟩⟩
    exact Prod.ext rfl (by show p.1 + 1 + (p.2 - (p.1 + 1)) = p.2; omega)
theorem flat_len {α β : Type} (f : α → List β) (m : Nat) : ∀ xs : List α, (∀ x ∈ xs, (f x).length ≤ m) → (xs.flatMap f).length ≤ xs.length * m
  | [], _ => by simp
  | x :: xs, h => by
    rw [List.flatMap_cons, List.length_append, List.length_cons, Nat.succ_mul]
    have h1 := h x List.mem_cons_self
    have h2 := flat_len f m xs fun y hy => h y (List.mem_cons_of_mem _ hy)
    omega
theorem prs_length (n : Nat) : (prs n).length ≤ n * n := by
  have h := flat_len (fun a => (List.range (n - (a + 1))).map fun i => ((a, a + 1 + i) : Pr)) n (List.range n) fun x _ => by simp
  rw [List.length_range] at h
  exact h
theorem prs_small {n : Nat} (h : n ≤ 100) : (prs n).length ≤ 10000 := Nat.le_trans (prs_length n) (Nat.mul_le_mul h h)
/-- a pair in order -/
def mm (a b : Nat) : Pr := if a ≤ b then (a, b) else (b, a)
theorem mm_mem {n a b : Nat} (h : a ≠ b) (ha : a < n) (hb : b < n) : mm a b ∈ prs n := by
  rw [mem_prs]
  unfold mm
  split <;> constructor <;> simp <;> omega
/-! ### is_whole, is_tuple_of, are_whole -/
def Tis_whole : DRs := fun ds Q => ∃ v lo hi : Int, ds = [dI v, dI lo, dI hi] ∧ Q (dB (decide (lo ≤ v) && decide (v ≤ hi)))
def Tis_tuple_of : DRs := fun ds Q => ∃ (ps : List PyData) (lo hi : Int), ds = [.d (.tuple ps), dI lo, dI hi] ∧ Q (dB (decide (lo ≤ (ps.length : Int)) && decide ((ps.length : Int) ≤ hi)))
def Tare_whole : DRs := fun ds Q => ∃ (ns : List Int) (lo hi : Int), ds = [.d (.tuple (ns.map PyData.int)), dI lo, dI hi] ∧ ns.length ≤ 1000 ∧ Q (dB (ns.all fun v => decide (lo ≤ v) && decide (v ≤ hi)))
def Tpairs_of : DRs := fun ds Q => ∃ n : Nat, ds = [.d (eN n)] ∧ n ≤ 100 ∧ Q (.d (.list ((prs n).map ePr)))
def Tpair_of : DRs := fun ds Q => ∃ a b : Nat, ds = [.d (eN a), .d (eN b)] ∧ Q (.d (ePr (mm a b)))
def Bis_whole : DTS := dRet (dAndV (dIsi .int (dVar 0)) (dAndV (dNotV (dIsi .bool (dVar 0))) (dChain drLe drLe (dVar 1) (dVar 0) (dVar 2))))
theorem Sis_whole : FnScope ["value", "low", "high"] ["value", "low", "high"] (defScope (top 6)) := ⟨rfl, rfl, rfl, by decide +kernel, rfl, by decide +kernel, by decide +kernel⟩
theorem Dis_whole {P : Program} {w : World} {K : PySem.W.Frag} {mg : Str → Option Value} {base : Heap} (F : Fc K mg)  {T : DRs} (hlen : ∀ ds Q, T ds Q → ds.length = 3) (hT : ∀ ds Q, T ds Q → Bis_whole { nx := fun _ => Q dN, rt := Q } (dstart ["value", "low", "high"] ds)) : Ok P w K mg base "is_whole" ["value", "low", "high"] (0 + 1) T :=
  ok_fn F 0 (j := 6) rfl Sis_whole T (Bis_whole) hlen hT (fun _ _ _ _ _ _ us hl => match us, hl with | [_, _, _], _ => rfl) fun f cdv A outer s H E hr => dss_one (ds_ret (de_and (de_isi .int rfl F.free_isinstance rfl F.free_int boot_int (dv 0)) (de_and (de_not (de_isi .bool rfl F.free_isinstance rfl F.free_bool boot_bool (dv 0))) (de_one (de_chain od_le od_le (dv 1) (dv 0) (dv 2))))))
def Bis_tuple_of : DTS := dRet (dAndV (dIsi .tup (dVar 0)) (dChain drLe drLe (dVar 1) (dCall drLen (dCons (dVar 0) (dNil))) (dVar 2)))
theorem Sis_tuple_of : FnScope ["value", "low", "high"] ["value", "low", "high"] (defScope (top 7)) := ⟨rfl, rfl, rfl, by decide +kernel, rfl, by decide +kernel, by decide +kernel⟩
theorem Dis_tuple_of {P : Program} {w : World} {K : PySem.W.Frag} {mg : Str → Option Value} {base : Heap} (F : Fc K mg)  {T : DRs} (hlen : ∀ ds Q, T ds Q → ds.length = 3) (hT : ∀ ds Q, T ds Q → Bis_tuple_of { nx := fun _ => Q dN, rt := Q } (dstart ["value", "low", "high"] ds)) : Ok P w K mg base "is_tuple_of" ["value", "low", "high"] (0 + 1) T :=
  ok_fn F 1 (j := 7) rfl Sis_tuple_of T (Bis_tuple_of) hlen hT (fun _ _ _ _ _ _ us hl => match us, hl with | [_, _, _], _ => rfl) fun f cdv A outer s H E hr => dss_one (ds_ret (de_and (de_isi .tup rfl F.free_isinstance rfl F.free_tuple boot_tuple (dv 0)) (de_one (de_chain od_le od_le (dv 1) (de_callB cd_len rfl F.free_len boot_len (da_cons (dv 0) (da_nil))) (dv 2)))))
def Bare_whole : DTS := dRet (dCall drAll (dCons (dLc (dIterT (dVar 0)) (.nm 3) (dYes) (dCall Tis_whole (dCons (dVar 3) (dCons (dVar 1) (dCons (dVar 2) (dNil))))) [3]) (dNil)))
theorem Sare_whole : FnScope ["value", "low", "high", "item"] ["value", "low", "high"] (defScope (top 8)) := ⟨rfl, rfl, rfl, by decide +kernel, rfl, by decide +kernel, by decide +kernel⟩
theorem Dare_whole {P : Program} {w : World} {K : PySem.W.Frag} {mg : Str → Option Value} {base : Heap} (F : Fc K mg) (ois_whole : Ok P w K mg base "is_whole" ["value", "low", "high"] 1 Tis_whole) {T : DRs} (hlen : ∀ ds Q, T ds Q → ds.length = 3) (hT : ∀ ds Q, T ds Q → Bare_whole { nx := fun _ => Q dN, rt := Q } (dstart ["value", "low", "high", "item"] ds)) : Ok P w K mg base "are_whole" ["value", "low", "high"] (1 + 1) T :=
  ok_fn F 2 (j := 8) rfl Sare_whole T (Bare_whole) hlen hT (fun _ _ _ _ _ _ us hl => match us, hl with | [_, _, _], _ => rfl) fun f cdv A outer s H E hr => dss_one (ds_ret (de_callB (cd_all rfl) rfl F.free_all boot_all (da_cons (de_lc rfl Sare_whole.nd (di_tup (dv 0)) (own := [("item", 3)]) (blkOk_by (by kernel_rfl)) (fun _ _ _ _ _ => pg_nm (i := 3) Sare_whole.nd rfl (by first | exact .inl rfl | exact .inr rfl)) (fun _ _ _ _ _ => dts_nil) (fun _ _ _ _ _ => ok_call ois_whole hr (by decide) rfl (da_cons (dv 3) (da_cons (dv 1) (da_cons (dv 2) (da_nil)))))) (da_nil))))
def Bpairs_of : DTS := dRet (dLc2 (dRng1 (dVar 0)) (.nm 1) (dRng2 (dOp drPlus (dVar 1) (dC (dI 1))) (dVar 0)) (.nm 2) (dYes) (dTup (dCons (dVar 1) (dCons (dVar 2) (dNil)))) [1, 2] [2])
theorem Spairs_of : FnScope ["people", "one", "other"] ["people"] (defScope (top 9)) := ⟨rfl, rfl, rfl, by decide +kernel, rfl, by decide +kernel, by decide +kernel⟩
theorem Dpairs_of {P : Program} {w : World} {K : PySem.W.Frag} {mg : Str → Option Value} {base : Heap} (F : Fc K mg)  {T : DRs} (hlen : ∀ ds Q, T ds Q → ds.length = 1) (hT : ∀ ds Q, T ds Q → Bpairs_of { nx := fun _ => Q dN, rt := Q } (dstart ["people", "one", "other"] ds)) : Ok P w K mg base "pairs_of" ["people"] (0 + 1) T :=
  ok_fn F 3 (j := 9) rfl Spairs_of T (Bpairs_of) hlen hT (fun _ _ _ _ _ _ us hl => match us, hl with | [_], _ => rfl) fun f cdv A outer s H E hr => dss_one (ds_ret (de_lc2 (vs1 := [2]) rfl Spairs_of.nd (di_range1 rfl F.free_range (dv 0)) (own := [("one", 1), ("other", 2)]) (blkOk_by (by kernel_rfl)) (by decide) (fun _ _ _ _ _ => pg_nm (i := 1) Spairs_of.nd rfl (by first | exact .inl rfl | exact .inr rfl)) (fun _ _ _ _ _ => di_range2 rfl F.free_range (de_bin od_plus (dv 1) (de_int)) (dv 0)) (fun _ _ _ _ _ => pg_nm (i := 2) Spairs_of.nd rfl (by first | exact .inl rfl | exact .inr rfl)) (fun _ _ _ _ _ => dts_nil) (fun _ _ _ _ _ => de_tup (da_cons (dv 1) (da_cons (dv 2) (da_nil))))))
def Bpair_of : DTS := dRet (dTup (dCons (dCall drMin (dCons (dVar 0) (dCons (dVar 1) (dNil)))) (dCons (dCall drMax (dCons (dVar 0) (dCons (dVar 1) (dNil)))) (dNil))))
theorem Spair_of : FnScope ["one", "other"] ["one", "other"] (defScope (top 10)) := ⟨rfl, rfl, rfl, by decide +kernel, rfl, by decide +kernel, by decide +kernel⟩
theorem Dpair_of {P : Program} {w : World} {K : PySem.W.Frag} {mg : Str → Option Value} {base : Heap} (F : Fc K mg)  {T : DRs} (hlen : ∀ ds Q, T ds Q → ds.length = 2) (hT : ∀ ds Q, T ds Q → Bpair_of { nx := fun _ => Q dN, rt := Q } (dstart ["one", "other"] ds)) : Ok P w K mg base "pair_of" ["one", "other"] (0 + 1) T :=
  ok_fn F 4 (j := 10) rfl Spair_of T (Bpair_of) hlen hT (fun _ _ _ _ _ _ us hl => match us, hl with | [_, _], _ => rfl) fun f cdv A outer s H E hr => dss_one (ds_ret (de_tup (da_cons (de_callB (cd_min rfl) rfl F.free_min boot_min (da_cons (dv 0) (da_cons (dv 1) (da_nil)))) (da_cons (de_callB (cd_max rfl) rfl F.free_max boot_max (da_cons (dv 0) (da_cons (dv 1) (da_nil)))) (da_nil)))))
section
variable {P : Program} {w : World} {K : PySem.W.Frag} {mg : Str → Option Value} {base : Heap} (F : Fc K mg)
include F
theorem ok_is_whole : Ok P w K mg base "is_whole" ["value", "low", "high"] 1 Tis_whole := by
  refine Dis_whole F (fun ds Q h => ?_) (fun ds Q h => ?_)
  · obtain ⟨v, lo, hi, rfl, h⟩ := h
    rfl
  · obtain ⟨v, lo, hi, rfl, h⟩ := h
    simp [Bis_whole, dstart, dSeq, dRet, dAsg, dPar, dIfS, dDrop, dNext, dVar, dC, dOp, dTst, dAnd, dOr, dNot, dIf, dAndV, dOrV, dNotV, dChain, dNil, dCons, dTup, dLst, dCall, plains, dIsi, isaP, drI, drI0, drPlus, drIx, drEq, drNe, drIn, drNIn, drIsN, drNotN, drLen, drAll, drSum, drMin, drMax, drTuple, drList, drDict, drInt, drAbs, dIterL, dIterT, dRng1, dRng2, dEnum, Tgt.put, dLc, dLc2, dYes, dInW, dTail, dHead, dRev, dMerge, dNew, dCount, dFor, List.getElem?_cons_zero, List.getElem?_cons_succ, List.map, List.length, List.replicate, List.append, List.cons_append, List.nil_append, List.append_nil, List.set, Option.map, Nat.sub_self]
    by_cases e : lo ≤ v
    · simpa [e] using h
    · simpa [e] using h
theorem ok_is_tuple_of : Ok P w K mg base "is_tuple_of" ["value", "low", "high"] 1 Tis_tuple_of := by
  refine Dis_tuple_of F (fun ds Q h => ?_) (fun ds Q h => ?_)
  · obtain ⟨v, lo, hi, rfl, h⟩ := h
    rfl
  · obtain ⟨v, lo, hi, rfl, h⟩ := h
    simp [Bis_tuple_of, dstart, dSeq, dRet, dAsg, dPar, dIfS, dDrop, dNext, dVar, dC, dOp, dTst, dAnd, dOr, dNot, dIf, dAndV, dOrV, dNotV, dChain, dNil, dCons, dTup, dLst, dCall, plains, dIsi, isaP, drI, drI0, drPlus, drIx, drEq, drNe, drIn, drNIn, drIsN, drNotN, drLen, drAll, drSum, drMin, drMax, drTuple, drList, drDict, drInt, drAbs, dIterL, dIterT, dRng1, dRng2, dEnum, Tgt.put, dLc, dLc2, dYes, dInW, dTail, dHead, dRev, dMerge, dNew, dCount, dFor, List.getElem?_cons_zero, List.getElem?_cons_succ, List.map, List.length, List.replicate, List.append, List.cons_append, List.nil_append, List.append_nil, List.set, Option.map, Nat.sub_self]
    by_cases e : lo ≤ (v.length : Int)
    · simpa [e] using h
    · simpa [e] using h
theorem ok_are_whole : Ok P w K mg base "are_whole" ["value", "low", "high"] 2 Tare_whole := by
  refine Dare_whole F (ok_is_whole F) (fun ds Q h => ?_) (fun ds Q h => ?_)
  · obtain ⟨v, lo, hi, rfl, h⟩ := h
    rfl
  · obtain ⟨ns, lo, hi, rfl, hl, h⟩ := h
    simp [Bare_whole, dstart, dSeq, dRet, dAsg, dPar, dIfS, dDrop, dNext, dVar, dC, dOp, dTst, dAnd, dOr, dNot, dIf, dAndV, dOrV, dNotV, dChain, dNil, dCons, dTup, dLst, dCall, plains, dIsi, isaP, drI, drI0, drPlus, drIx, drEq, drNe, drIn, drNIn, drIsN, drNotN, drLen, drAll, drSum, drMin, drMax, drTuple, drList, drDict, drInt, drAbs, dIterL, dIterT, dRng1, dRng2, dEnum, Tgt.put, dLc, dLc2, dYes, dInW, dTail, dHead, dRev, dMerge, dNew, dCount, dFor, List.getElem?_cons_zero, List.getElem?_cons_succ, List.map, List.length, List.replicate, List.append, List.cons_append, List.nil_append, List.append_nil, List.set, Option.map, Nat.sub_self]
    refine dGo_map (fun i : Int => dI i) (fun v => .bool (decide (lo ≤ v) && decide (v ≤ hi))) ns [] _ (Nat.le_trans (by simpa using hl) (Nat.le_trans (by decide) big_line)) (fun x _ acc R ha hR => ?_) ?_
    · simp [dStep, dwipe, dstart, dSeq, dRet, dAsg, dPar, dIfS, dDrop, dNext, dVar, dC, dOp, dTst, dAnd, dOr, dNot, dIf, dAndV, dOrV, dNotV, dChain, dNil, dCons, dTup, dLst, dCall, plains, dIsi, isaP, drI, drI0, drPlus, drIx, drEq, drNe, drIn, drNIn, drIsN, drNotN, drLen, drAll, drSum, drMin, drMax, drTuple, drList, drDict, drInt, drAbs, dIterL, dIterT, dRng1, dRng2, dEnum, Tgt.put, dLc, dLc2, dYes, dInW, dTail, dHead, dRev, dMerge, dNew, dCount, dFor, List.getElem?_cons_zero, List.getElem?_cons_succ, List.map, List.length, List.replicate, List.append, List.cons_append, List.nil_append, List.append_nil, List.set, Option.map, Nat.sub_self]
      refine ⟨x, lo, hi, rfl, ha, hR⟩
    · have e : (List.map (fun v : Int => PyData.bool (decide (lo ≤ v) && decide (v ≤ hi))) ns) = (ns.map fun v => (decide (lo ≤ v) && decide (v ≤ hi))).map PyData.bool := by simp
      rw [List.nil_append, e, boolsOf_map]
      simpa using h
theorem ok_pairs_of : Ok P w K mg base "pairs_of" ["people"] 1 Tpairs_of := by
  refine Dpairs_of F (fun ds Q h => ?_) (fun ds Q h => ?_)
  · obtain ⟨n, rfl, h⟩ := h
    rfl
  · obtain ⟨n, rfl, hn, h⟩ := h
    have hp := prs_small hn
    simp [Bpairs_of, eN, dstart, dSeq, dRet, dAsg, dPar, dIfS, dDrop, dNext, dVar, dC, dOp, dTst, dAnd, dOr, dNot, dIf, dAndV, dOrV, dNotV, dChain, dNil, dCons, dTup, dLst, dCall, plains, dIsi, isaP, drI, drI0, drPlus, drIx, drEq, drNe, drIn, drNIn, drIsN, drNotN, drLen, drAll, drSum, drMin, drMax, drTuple, drList, drDict, drInt, drAbs, dIterL, dIterT, dRng1, dRng2, dEnum, Tgt.put, dLc, dLc2, dYes, dInW, dTail, dHead, dRev, dMerge, dNew, dCount, dFor, List.getElem?_cons_zero, List.getElem?_cons_succ, List.map, List.length, List.replicate, List.append, List.cons_append, List.nil_append, List.append_nil, List.set, Option.map, Nat.sub_self]
    refine ⟨by unfold inI; omega, ?_⟩
    rw [intD_eq]
    refine dGo2_fm (fun i : Nat => dI (0 + (i : Nat))) (fun a => (List.range (n - (a + 1))).map fun i => ePr (a, a + 1 + i)) (List.range n) [] _ ?_ (fun x hx acc R ha hR => ?_) ?_
    · have e : (List.range n).flatMap (fun a => (List.range (n - (a + 1))).map fun i => ePr (a, a + 1 + i)) = (prs n).map ePr := by
        unfold prs
        rw [List.map_flatMap]
        simp
        rfl
      rw [e]
      have := big_line
      simp
      omega
    · have hx' := List.mem_range.mp hx
      simp [dwipe, dstart, dSeq, dRet, dAsg, dPar, dIfS, dDrop, dNext, dVar, dC, dOp, dTst, dAnd, dOr, dNot, dIf, dAndV, dOrV, dNotV, dChain, dNil, dCons, dTup, dLst, dCall, plains, dIsi, isaP, drI, drI0, drPlus, drIx, drEq, drNe, drIn, drNIn, drIsN, drNotN, drLen, drAll, drSum, drMin, drMax, drTuple, drList, drDict, drInt, drAbs, dIterL, dIterT, dRng1, dRng2, dEnum, Tgt.put, dLc, dLc2, dYes, dInW, dTail, dHead, dRev, dMerge, dNew, dCount, dFor, List.getElem?_cons_zero, List.getElem?_cons_succ, List.map, List.length, List.replicate, List.append, List.cons_append, List.nil_append, List.append_nil, List.set, Option.map, Nat.sub_self]
      refine ⟨by unfold inI; omega, by unfold inI; omega, ?_⟩
      have e : ((n : Int) - ((x : Int) + 1)).toNat = n - (x + 1) := by omega
      rw [e, intD_eq]
      refine dGo_map (fun i : Nat => dI ((x : Int) + 1 + (i : Nat))) (fun i => ePr (x, x + 1 + i)) (List.range (n - (x + 1))) acc R (by simpa using ha) (fun i _ acc R ha hR => ?_) hR
      simp [dStep, dstart, dSeq, dRet, dAsg, dPar, dIfS, dDrop, dNext, dVar, dC, dOp, dTst, dAnd, dOr, dNot, dIf, dAndV, dOrV, dNotV, dChain, dNil, dCons, dTup, dLst, dCall, plains, dIsi, isaP, drI, drI0, drPlus, drIx, drEq, drNe, drIn, drNIn, drIsN, drNotN, drLen, drAll, drSum, drMin, drMax, drTuple, drList, drDict, drInt, drAbs, dIterL, dIterT, dRng1, dRng2, dEnum, Tgt.put, dLc, dLc2, dYes, dInW, dTail, dHead, dRev, dMerge, dNew, dCount, dFor, List.getElem?_cons_zero, List.getElem?_cons_succ, List.map, List.length, List.replicate, List.append, List.cons_append, List.nil_append, List.append_nil, List.set, Option.map, Nat.sub_self]
      refine ⟨ha, ?_⟩
      have e2 : ePr (x, x + 1 + i) = PyData.tuple [PyData.int ↑x, PyData.int (↑x + 1 + ↑i)] := by
        unfold ePr eN
        simp
      rw [← e2]
      exact hR
    · have e : (List.range n).flatMap (fun a => (List.range (n - (a + 1))).map fun i => ePr (a, a + 1 + i)) = (prs n).map ePr := by
        unfold prs
        rw [List.map_flatMap]
        simp
        rfl
      rw [List.nil_append, e]
      exact h
theorem ok_pair_of : Ok P w K mg base "pair_of" ["one", "other"] 1 Tpair_of := by
  refine Dpair_of F (fun ds Q h => ?_) (fun ds Q h => ?_)
  · obtain ⟨v, lo, rfl, h⟩ := h
    rfl
  · obtain ⟨a, b, rfl, h⟩ := h
    simp [Bpair_of, eN, dstart, dSeq, dRet, dAsg, dPar, dIfS, dDrop, dNext, dVar, dC, dOp, dTst, dAnd, dOr, dNot, dIf, dAndV, dOrV, dNotV, dChain, dNil, dCons, dTup, dLst, dCall, plains, dIsi, isaP, drI, drI0, drPlus, drIx, drEq, drNe, drIn, drNIn, drIsN, drNotN, drLen, drAll, drSum, drMin, drMax, drTuple, drList, drDict, drInt, drAbs, dIterL, dIterT, dRng1, dRng2, dEnum, Tgt.put, dLc, dLc2, dYes, dInW, dTail, dHead, dRev, dMerge, dNew, dCount, dFor, List.getElem?_cons_zero, List.getElem?_cons_succ, List.map, List.length, List.replicate, List.append, List.cons_append, List.nil_append, List.append_nil, List.set, Option.map, Nat.sub_self]
    unfold mm ePr eN at h
    by_cases e : a ≤ b
    · rw [if_pos e] at h
      have e1 : ¬ (b < a) := by omega
      by_cases e2 : a < b
      · simpa [e1, e2] using h
      · have : a = b := by omega
        subst this
        simpa using h
    · rw [if_neg e] at h
      have e1 : (b < a) := by omega
      have e2 : ¬ (a < b) := by omega
      simpa [e1, e2] using h
end
end TW
namespace TW
open PySem PySem.Spec PyProof.Rows L2 FL
/-! ### words -/
theorem ne_pt : ((("pairs" : Str) = "takes")) = False := eq_false (by decide)
theorem ne_pi : ((("pairs" : Str) = "tie")) = False := eq_false (by decide)
theorem ne_pa : ((("pairs" : Str) = "ask")) = False := eq_false (by decide)
theorem ne_tp : ((("takes" : Str) = "pairs")) = False := eq_false (by decide)
theorem ne_ti : ((("takes" : Str) = "tie")) = False := eq_false (by decide)
theorem ne_ta : ((("takes" : Str) = "ask")) = False := eq_false (by decide)
theorem ne_ip : ((("tie" : Str) = "pairs")) = False := eq_false (by decide)
theorem ne_it : ((("tie" : Str) = "takes")) = False := eq_false (by decide)
theorem ne_ia : ((("tie" : Str) = "ask")) = False := eq_false (by decide)
theorem ne_ap : ((("ask" : Str) = "pairs")) = False := eq_false (by decide)
theorem ne_at : ((("ask" : Str) = "takes")) = False := eq_false (by decide)
theorem ne_ai : ((("ask" : Str) = "tie")) = False := eq_false (by decide)
theorem ne_kt : ((("know" : Str) = "turn")) = False := eq_false (by decide)
theorem ne_kp : ((("know" : Str) = "part")) = False := eq_false (by decide)
theorem ne_pk : ((("part" : Str) = "know")) = False := eq_false (by decide)
theorem ne_pu : ((("part" : Str) = "turn")) = False := eq_false (by decide)
theorem ne_uk : ((("turn" : Str) = "know")) = False := eq_false (by decide)
theorem ne_up : ((("turn" : Str) = "part")) = False := eq_false (by decide)
theorem okd_int (i : Int) : okd (.int i) = True := eq_true ((sh_int i (k := 0)).okd)
theorem okd_bl (i : Bool) : okd (.bool i) = True := eq_true ((sh_bl i (k := 0)).okd)
theorem okd_pairs : okd (.str "pairs") = True := eq_true ((sh_str _ (k := 0)).okd)
theorem okd_takes : okd (.str "takes") = True := eq_true ((sh_str _ (k := 0)).okd)
theorem okd_tie : okd (.str "tie") = True := eq_true ((sh_str _ (k := 0)).okd)
theorem okd_ask : okd (.str "ask") = True := eq_true ((sh_str _ (k := 0)).okd)
theorem okd_know : okd (.str "know") = True := eq_true ((sh_str _ (k := 0)).okd)
theorem okd_part : okd (.str "part") = True := eq_true ((sh_str _ (k := 0)).okd)
theorem okd_turn : okd (.str "turn") = True := eq_true ((sh_str _ (k := 0)).okd)
theorem tkey_ii (a b : Int) : tkey (.tuple [.int a, .int b]) = some (.tup [.num a, .num b]) := rfl
/-! ### dicts by pairs -/
theorem lookK_pr (g : Pr → PyData) (q : Pr) : ∀ l : List Pr, lookK (l.map fun p => (kPr p, g p)) (kPr q) = if q ∈ l then some (g q) else none
  | [] => by simp [lookK]
  | p :: l => by
    unfold lookK
    by_cases h : p = q
    · subst h
      rw [List.map_cons, List.find?_cons_of_pos (by simp)]
      simp
    · rw [List.map_cons, List.find?_cons_of_neg (by simp; exact fun e => h (kPr_inj e))]
      have := lookK_pr g q l
      unfold lookK at this
      rw [this]
      have h' : ¬ q = p := fun e => h e.symm
      simp [h']
theorem lookK_in (g : Pr → PyData) {l : List Pr} {a b : Nat} (h : (a, b) ∈ l) : lookK (l.map fun p => (kPr p, g p)) (.tup [.num (a : Int), .num (b : Int)]) = some (g (a, b)) := by
  have := lookK_pr g (a, b) l
  rw [if_pos h] at this
  exact this
theorem pairsOf_pr (g : Pr → PyData) : ∀ l : List Pr, FL.pairsOf (l.map fun p => .tuple [ePr p, g p]) = some (l.map fun p => (kPr p, g p))
  | [] => rfl
  | p :: l => by
    rw [List.map_cons]
    unfold FL.pairsOf
    rw [tkey_pr, pairsOf_pr g l]
    rfl
theorem keys_nd (g : Pr → PyData) {l : List Pr} (h : l.Nodup) : ((l.map fun p => (kPr p, g p)).map (·.1)).Nodup := by
  rw [List.map_map]
  exact List.Pairwise.map _ (fun a b (ne : a ≠ b) e => ne (kPr_inj e)) h
theorem prs_nd (n : Nat) : (prs n).Nodup := by
  unfold prs
  rw [List.Nodup, List.pairwise_flatMap]
  refine ⟨fun a _ => ?_, ?_⟩
  · exact List.Pairwise.map _ (fun x y (ne : x ≠ y) e => ne (by have := congrArg Prod.snd e; simp at this; omega)) List.nodup_range
  · refine List.Pairwise.imp ?_ (List.nodup_range (n := n))
    intro a b ne x hx y hy e
    obtain ⟨i, _, rfl⟩ := List.mem_map.mp hx
    obtain ⟨j, _, rfl⟩ := List.mem_map.mp hy
    exact ne (congrArg Prod.fst e)
/-! ### deeds -/
inductive Wd where
  | know | part | turn
def Wd.nm : Wd → Str
  | .know => "know"
  | .part => "part"
  | .turn => "turn"
inductive Deed where
  | pairs (d : Nat) (a : List Bool)
  | takes (d o : Nat) (a : List Bool)
  | tie (d o : Nat) (w : Wd)
def eDeed : Deed → PyData
  | .pairs d a => .tuple [.str "pairs", eN d, eBits a]
  | .takes d o a => .tuple [.str "takes", eN d, eN o, eBits a]
  | .tie d o w => .tuple [.str "tie", eN d, eN o, .str w.nm]
def DeedOk (n : Nat) : Deed → Prop
  | .pairs d a => d < n ∧ a.length = 6
  | .takes d o a => d < n ∧ o < n ∧ d ≠ o ∧ a.length = 4
  | .tie d o _ => d < n ∧ o < n ∧ d ≠ o
def kn (ts : List Pr) (a b : Nat) : Bool := decide (mm a b ∈ ts)
def ans (ts : List Pr) (d : Deed) (p : Pr) : Bool :=
  match d with
  | .pairs d l => if d = p.1 ∨ d = p.2 then decide (p ∈ ts) else l.getD (3 * (decide (p ∈ ts)).toNat + ((kn ts d p.1).toNat + (kn ts d p.2).toNat)) false
  | .takes d o l => if (d = p.1 ∨ d = p.2) ∧ ¬ (o = p.1 ∨ o = p.2) then l.getD (2 * (decide (p ∈ ts)).toNat + (kn ts o (p.1 + p.2 - d)).toNat) false else decide (p ∈ ts)
  | .tie d o w => if mm d o = p then (match w with
    | .know => true
    | .part => false
    | .turn => !decide (p ∈ ts)) else decide (p ∈ ts)
def beh (c : Co) (d : Deed) : Co := (c.1, (prs c.1).filter (ans c.2 d))
def ties (n : Nat) (ts : List Pr) : List (NestedKey × PyData) := (prs n).map fun p => (kPr p, .bool (decide (p ∈ ts)))
def Tcompany_by : DRs := fun ds Q => ∃ (n : Nat) (g : Pr → Bool), ds = [.d (eN n), .dct ((prs n).map fun p => (kPr p, .bool (g p)))] ∧ n ≤ 100 ∧ Q (.d (eCo (n, (prs n).filter g)))
def Tties_in : DRs := fun ds Q => ∃ (n : Nat) (ts : List Pr), ds = [.d (eCo (n, ts))] ∧ n ≤ 100 ∧ Q (.dct (ties n ts))
def Tanswer_of : DRs := fun ds Q => ∃ (n : Nat) (ts : List Pr) (d : Deed) (p : Pr), ds = [.dct (ties n ts), .d (eDeed d), .d (eN p.1), .d (eN p.2)] ∧ n ≤ 100 ∧ DeedOk n d ∧ p ∈ prs n ∧ Q (dB (ans ts d p))
def Tbehind : DRs := fun ds Q => ∃ (c : Co) (d : Deed), ds = [.d (eCo c), .d (eDeed d)] ∧ c.1 ≤ 100 ∧ DeedOk c.1 d ∧ Q (.d (eCo (beh c d)))
def Bcompany_by : DTS := dRet (dTup (dCons (dVar 0) (dCons (dCall drTuple (dCons (dLc (dIterL (dCall Tpairs_of (dCons (dVar 0) (dNil)))) (.nm 2) (dTst (dOp drIx (dVar 1) (dVar 2))) (dVar 2) [2]) (dNil))) (dNil))))
theorem Scompany_by : FnScope ["people", "ties", "pair"] ["people", "ties"] (defScope (top 11)) := ⟨rfl, rfl, rfl, by decide +kernel, rfl, by decide +kernel, by decide +kernel⟩
theorem Dcompany_by {P : Program} {w : World} {K : PySem.W.Frag} {mg : Str → Option Value} {base : Heap} (F : Fc K mg) (opairs_of : Ok P w K mg base "pairs_of" ["people"] 1 Tpairs_of) {T : DRs} (hlen : ∀ ds Q, T ds Q → ds.length = 2) (hT : ∀ ds Q, T ds Q → Bcompany_by { nx := fun _ => Q dN, rt := Q } (dstart ["people", "ties", "pair"] ds)) : Ok P w K mg base "company_by" ["people", "ties"] (1 + 1) T :=
  ok_fn F 5 (j := 11) rfl Scompany_by T (Bcompany_by) hlen hT (fun _ _ _ _ _ _ us hl => match us, hl with | [_, _], _ => rfl) fun f cdv A outer s H E hr => dss_one (ds_ret (de_tup (da_cons (dv 0) (da_cons (de_callTy cd_tuple rfl F.free_tuple boot_tuple (da_cons (de_lc rfl Scompany_by.nd (di_list (ok_call opairs_of hr (by decide) rfl (da_cons (dv 0) (da_nil)))) (own := [("pair", 2)]) (blkOk_by (by kernel_rfl)) (fun _ _ _ _ _ => pg_nm (i := 2) Scompany_by.nd rfl (by first | exact .inl rfl | exact .inr rfl)) (fun _ _ _ _ _ => dts_one (dt_val (de_ix (xd_ix hr.units) (dv 1) (dv 2) (fun _ _ => rfl)))) (fun _ _ _ _ _ => dv 2)) (da_nil))) (da_nil)))))
def Bties_in : DTS := dRet (dCall drDict (dCons (dLc (dIterL (dCall Tpairs_of (dCons (dOp drIx (dVar 0) (dC (dI 0))) (dNil)))) (.nm 1) (dYes) (dTup (dCons (dVar 1) (dCons (dOp drIn (dVar 1) (dOp drIx (dVar 0) (dC (dI 1)))) (dNil)))) [1]) (dNil)))
theorem Sties_in : FnScope ["company", "pair"] ["company"] (defScope (top 12)) := ⟨rfl, rfl, rfl, by decide +kernel, rfl, by decide +kernel, by decide +kernel⟩
theorem Dties_in {P : Program} {w : World} {K : PySem.W.Frag} {mg : Str → Option Value} {base : Heap} (F : Fc K mg) (opairs_of : Ok P w K mg base "pairs_of" ["people"] 1 Tpairs_of) {T : DRs} (hlen : ∀ ds Q, T ds Q → ds.length = 1) (hT : ∀ ds Q, T ds Q → Bties_in { nx := fun _ => Q dN, rt := Q } (dstart ["company", "pair"] ds)) : Ok P w K mg base "ties_in" ["company"] (1 + 1) T :=
  ok_fn F 6 (j := 12) rfl Sties_in T (Bties_in) hlen hT (fun _ _ _ _ _ _ us hl => match us, hl with | [_], _ => rfl) fun f cdv A outer s H E hr => dss_one (ds_ret (de_callTy (cd_dict rfl hr.units) rfl F.free_dict boot_dict (da_cons (de_lc rfl Sties_in.nd (di_list (ok_call opairs_of hr (by decide) rfl (da_cons (de_ix (xd_ix hr.units) (dv 0) (de_int) (fun _ _ => rfl)) (da_nil)))) (own := [("pair", 1)]) (blkOk_by (by kernel_rfl)) (fun _ _ _ _ _ => pg_nm (i := 1) Sties_in.nd rfl (by first | exact .inl rfl | exact .inr rfl)) (fun _ _ _ _ _ => dts_nil) (fun _ _ _ _ _ => de_tup (da_cons (dv 1) (da_cons (de_cmp (od_in (r65 hr)) (dv 1) (de_ix (xd_ix hr.units) (dv 0) (de_int) (fun _ _ => rfl)) (by with_unfolding_all rfl)) (da_nil))))) (da_nil))))
def Banswer_of : DTS := dSeq (dAsg (dOp drIx (dVar 0) (dTup (dCons (dVar 2) (dCons (dVar 3) (dNil))))) (.nm 4)) (dSeq (dIfS (dTst (dOp drEq (dOp drIx (dVar 1) (dC (dI 0))) (dC (dS "pairs")))) (dSeq (dIfS (dTst (dOp drIn (dOp drIx (dVar 1) (dC (dI 1))) (dTup (dCons (dVar 2) (dCons (dVar 3) (dNil)))))) (dRet (dVar 4)) (dNext)) (dSeq (dAsg (dCall drSum (dCons (dLc (dIterT (dTup (dCons (dVar 2) (dCons (dVar 3) (dNil))))) (.nm 7) (dTst (dOp drIx (dVar 0) (dCall Tpair_of (dCons (dOp drIx (dVar 1) (dC (dI 1))) (dCons (dVar 7) (dNil)))))) (dC (dI 1)) [7]) (dNil))) (.nm 5)) (dRet (dOp drEq (dOp drIx (dOp drIx (dVar 1) (dC (dI 2))) (dOp drPlus (dOp drMul (dC (dI 3)) (dCall drInt (dCons (dVar 4) (dNil)))) (dVar 5))) (dC (dI 1)))))) (dNext)) (dSeq (dIfS (dTst (dOp drEq (dOp drIx (dVar 1) (dC (dI 0))) (dC (dS "takes")))) (dSeq (dIfS (dOr (dTst (dOp drEq (dOp drIn (dOp drIx (dVar 1) (dC (dI 1))) (dTup (dCons (dVar 2) (dCons (dVar 3) (dNil))))) (dOp drIn (dOp drIx (dVar 1) (dC (dI 2))) (dTup (dCons (dVar 2) (dCons (dVar 3) (dNil))))))) (dTst (dOp drNIn (dOp drIx (dVar 1) (dC (dI 1))) (dTup (dCons (dVar 2) (dCons (dVar 3) (dNil))))))) (dRet (dVar 4)) (dNext)) (dSeq (dAsg (dOp drSub (dOp drPlus (dVar 2) (dVar 3)) (dOp drIx (dVar 1) (dC (dI 1)))) (.nm 6)) (dRet (dOp drEq (dOp drIx (dOp drIx (dVar 1) (dC (dI 3))) (dOp drPlus (dOp drMul (dC (dI 2)) (dCall drInt (dCons (dVar 4) (dNil)))) (dCall drInt (dCons (dOp drIx (dVar 0) (dCall Tpair_of (dCons (dOp drIx (dVar 1) (dC (dI 2))) (dCons (dVar 6) (dNil))))) (dNil))))) (dC (dI 1)))))) (dNext)) (dSeq (dIfS (dTst (dOp drNe (dCall Tpair_of (dCons (dOp drIx (dVar 1) (dC (dI 1))) (dCons (dOp drIx (dVar 1) (dC (dI 2))) (dNil)))) (dTup (dCons (dVar 2) (dCons (dVar 3) (dNil)))))) (dRet (dVar 4)) (dNext)) (dRet (dIf (dTst (dOp drEq (dOp drIx (dVar 1) (dC (dI 3))) (dC (dS "turn")))) (dNotV (dVar 4)) (dOp drEq (dOp drIx (dVar 1) (dC (dI 3))) (dC (dS "know"))))))))
theorem Sanswer_of : FnScope ["ties", "deed", "one", "other", "know", "many", "third", "person"] ["ties", "deed", "one", "other"] (defScope (top 14)) := ⟨rfl, rfl, rfl, by decide +kernel, rfl, by decide +kernel, by decide +kernel⟩
theorem Danswer_of {P : Program} {w : World} {K : PySem.W.Frag} {mg : Str → Option Value} {base : Heap} (F : Fc K mg) (opair_of : Ok P w K mg base "pair_of" ["one", "other"] 1 Tpair_of) {T : DRs} (hlen : ∀ ds Q, T ds Q → ds.length = 4) (hT : ∀ ds Q, T ds Q → Banswer_of { nx := fun _ => Q dN, rt := Q } (dstart ["ties", "deed", "one", "other", "know", "many", "third", "person"] ds)) : Ok P w K mg base "answer_of" ["ties", "deed", "one", "other"] (1 + 1) T :=
  ok_fn F 7 (j := 14) rfl Sanswer_of T (Banswer_of) hlen hT (fun _ _ _ _ _ _ us hl => match us, hl with | [_, _, _, _], _ => rfl) fun f cdv A outer s H E hr => dss_cons (ds_set (i := 4) Sanswer_of.nd rfl (by first | exact .inl rfl | exact .inr rfl) (de_ix (xd_ix hr.units) (dv 0) (de_tup (da_cons (dv 2) (da_cons (dv 3) (da_nil)))) (fun _ _ => rfl))) (dss_cons (ds_if (dt_cmp (od_eq hr.units) (de_ix (xd_ix hr.units) (dv 1) (de_int) (fun _ _ => rfl)) (de_str) (nomark _)) (dss_cons (ds_if (dt_cmp (od_in (r65 hr)) (de_ix (xd_ix hr.units) (dv 1) (de_int) (fun _ _ => rfl)) (de_tup (da_cons (dv 2) (da_cons (dv 3) (da_nil)))) (by with_unfolding_all rfl)) (dss_one (ds_ret (dv 4))) (dss_nil)) (dss_cons (ds_set (i := 5) Sanswer_of.nd rfl (by first | exact .inl rfl | exact .inr rfl) (de_callB (cd_sum rfl) rfl F.free_sum boot_sum (da_cons (de_lc rfl Sanswer_of.nd (di_tup (de_tup (da_cons (dv 2) (da_cons (dv 3) (da_nil))))) (own := [("person", 7)]) (blkOk_by (by kernel_rfl)) (fun _ _ _ _ _ => pg_nm (i := 7) Sanswer_of.nd rfl (by first | exact .inl rfl | exact .inr rfl)) (fun _ _ _ _ _ => dts_one (dt_val (de_ix (xd_ix hr.units) (dv 0) (ok_call opair_of hr (by decide) rfl (da_cons (de_ix (xd_ix hr.units) (dv 1) (de_int) (fun _ _ => rfl)) (da_cons (dv 7) (da_nil)))) (fun _ _ => rfl)))) (fun _ _ _ _ _ => de_int)) (da_nil)))) (dss_one (ds_ret (de_cmp (od_eq hr.units) (de_ix (xd_ix hr.units) (de_ix (xd_ix hr.units) (dv 1) (de_int) (fun _ _ => rfl)) (de_bin od_plus (de_bin od_mul (de_int) (de_callTy cd_int rfl F.free_int boot_int (da_cons (dv 4) (da_nil)))) (dv 5)) (fun _ _ => rfl)) (de_int) (nomark _)))))) (dss_nil)) (dss_cons (ds_if (dt_cmp (od_eq hr.units) (de_ix (xd_ix hr.units) (dv 1) (de_int) (fun _ _ => rfl)) (de_str) (nomark _)) (dss_cons (ds_if (dt_w (dw_or (dt_cmp (od_eq hr.units) (de_cmp (od_in (r65 hr)) (de_ix (xd_ix hr.units) (dv 1) (de_int) (fun _ _ => rfl)) (de_tup (da_cons (dv 2) (da_cons (dv 3) (da_nil)))) (by with_unfolding_all rfl)) (de_cmp (od_in (r65 hr)) (de_ix (xd_ix hr.units) (dv 1) (de_int) (fun _ _ => rfl)) (de_tup (da_cons (dv 2) (da_cons (dv 3) (da_nil)))) (by with_unfolding_all rfl)) (nomark _)) (dw_or1 (dt_cmp (od_nin (r65 hr)) (de_ix (xd_ix hr.units) (dv 1) (de_int) (fun _ _ => rfl)) (de_tup (da_cons (dv 2) (da_cons (dv 3) (da_nil)))) (by with_unfolding_all rfl))))) (dss_one (ds_ret (dv 4))) (dss_nil)) (dss_cons (ds_set (i := 6) Sanswer_of.nd rfl (by first | exact .inl rfl | exact .inr rfl) (de_bin od_sub (de_bin od_plus (dv 2) (dv 3)) (de_ix (xd_ix hr.units) (dv 1) (de_int) (fun _ _ => rfl)))) (dss_one (ds_ret (de_cmp (od_eq hr.units) (de_ix (xd_ix hr.units) (de_ix (xd_ix hr.units) (dv 1) (de_int) (fun _ _ => rfl)) (de_bin od_plus (de_bin od_mul (de_int) (de_callTy cd_int rfl F.free_int boot_int (da_cons (dv 4) (da_nil)))) (de_callTy cd_int rfl F.free_int boot_int (da_cons (de_ix (xd_ix hr.units) (dv 0) (ok_call opair_of hr (by decide) rfl (da_cons (de_ix (xd_ix hr.units) (dv 1) (de_int) (fun _ _ => rfl)) (da_cons (dv 6) (da_nil)))) (fun _ _ => rfl)) (da_nil)))) (fun _ _ => rfl)) (de_int) (nomark _)))))) (dss_nil)) (dss_cons (ds_if (dt_cmp (od_ne hr.units) (ok_call opair_of hr (by decide) rfl (da_cons (de_ix (xd_ix hr.units) (dv 1) (de_int) (fun _ _ => rfl)) (da_cons (de_ix (xd_ix hr.units) (dv 1) (de_int) (fun _ _ => rfl)) (da_nil)))) (de_tup (da_cons (dv 2) (da_cons (dv 3) (da_nil)))) (nomark _)) (dss_one (ds_ret (dv 4))) (dss_nil)) (dss_one (ds_ret (de_if (dt_cmp (od_eq hr.units) (de_ix (xd_ix hr.units) (dv 1) (de_int) (fun _ _ => rfl)) (de_str) (nomark _)) (de_not (dv 4)) (de_cmp (od_eq hr.units) (de_ix (xd_ix hr.units) (dv 1) (de_int) (fun _ _ => rfl)) (de_str) (nomark _))))))))
def Bbehind : DTS := dSeq (dAsg (dCall Tties_in (dCons (dVar 0) (dNil))) (.nm 2)) (dSeq (dAsg (dCall Tpairs_of (dCons (dOp drIx (dVar 0) (dC (dI 0))) (dNil))) (.nm 3)) (dRet (dCall Tcompany_by (dCons (dOp drIx (dVar 0) (dC (dI 0))) (dCons (dCall drDict (dCons (dLc (dIterL (dVar 3)) (.nm 4) (dYes) (dTup (dCons (dVar 4) (dCons (dCall Tanswer_of (dCons (dVar 2) (dCons (dVar 1) (dCons (dOp drIx (dVar 4) (dC (dI 0))) (dCons (dOp drIx (dVar 4) (dC (dI 1))) (dNil)))))) (dNil)))) [4]) (dNil))) (dNil))))))
theorem Sbehind : FnScope ["company", "deed", "ties", "pairs", "pair"] ["company", "deed"] (defScope (top 15)) := ⟨rfl, rfl, rfl, by decide +kernel, rfl, by decide +kernel, by decide +kernel⟩
theorem Dbehind {P : Program} {w : World} {K : PySem.W.Frag} {mg : Str → Option Value} {base : Heap} (F : Fc K mg) (oties_in : Ok P w K mg base "ties_in" ["company"] 2 Tties_in) (opairs_of : Ok P w K mg base "pairs_of" ["people"] 1 Tpairs_of) (ocompany_by : Ok P w K mg base "company_by" ["people", "ties"] 2 Tcompany_by) (oanswer_of : Ok P w K mg base "answer_of" ["ties", "deed", "one", "other"] 2 Tanswer_of) {T : DRs} (hlen : ∀ ds Q, T ds Q → ds.length = 2) (hT : ∀ ds Q, T ds Q → Bbehind { nx := fun _ => Q dN, rt := Q } (dstart ["company", "deed", "ties", "pairs", "pair"] ds)) : Ok P w K mg base "behind" ["company", "deed"] (2 + 1) T :=
  ok_fn F 8 (j := 15) rfl Sbehind T (Bbehind) hlen hT (fun _ _ _ _ _ _ us hl => match us, hl with | [_, _], _ => rfl) fun f cdv A outer s H E hr => dss_cons (ds_set (i := 2) Sbehind.nd rfl (by first | exact .inl rfl | exact .inr rfl) (ok_call oties_in hr (by decide) rfl (da_cons (dv 0) (da_nil)))) (dss_cons (ds_set (i := 3) Sbehind.nd rfl (by first | exact .inl rfl | exact .inr rfl) (ok_call opairs_of hr (by decide) rfl (da_cons (de_ix (xd_ix hr.units) (dv 0) (de_int) (fun _ _ => rfl)) (da_nil)))) (dss_one (ds_ret (ok_call ocompany_by hr (by decide) rfl (da_cons (de_ix (xd_ix hr.units) (dv 0) (de_int) (fun _ _ => rfl)) (da_cons (de_callTy (cd_dict rfl hr.units) rfl F.free_dict boot_dict (da_cons (de_lc rfl Sbehind.nd (di_list (dv 3)) (own := [("pair", 4)]) (blkOk_by (by kernel_rfl)) (fun _ _ _ _ _ => pg_nm (i := 4) Sbehind.nd rfl (by first | exact .inl rfl | exact .inr rfl)) (fun _ _ _ _ _ => dts_nil) (fun _ _ _ _ _ => de_tup (da_cons (dv 4) (da_cons (ok_call oanswer_of hr (by decide) rfl (da_cons (dv 2) (da_cons (dv 1) (da_cons (de_ix (xd_ix hr.units) (dv 4) (de_int) (fun _ _ => rfl)) (da_cons (de_ix (xd_ix hr.units) (dv 4) (de_int) (fun _ _ => rfl)) (da_nil)))))) (da_nil))))) (da_nil))) (da_nil)))))))
theorem getD_bit (l : List Bool) (i : Nat) (h : i < l.length) : atI (l.map eBit) (i : Int) = some (eBit (l.getD i false)) := by
  rw [atI_nat _ _ (by simpa using h)]
  simp [h]
theorem eqv_bit (b : Bool) : PyData.eqv (eBit b) (.int 1) = b := by cases b <;> rfl
section
variable {P : Program} {w : World} {K : PySem.W.Frag} {mg : Str → Option Value} {base : Heap} (F : Fc K mg)
include F
theorem ok_company_by : Ok P w K mg base "company_by" ["people", "ties"] 2 Tcompany_by := by
  refine Dcompany_by F (ok_pairs_of F) (fun ds Q h => ?_) (fun ds Q h => ?_)
  · obtain ⟨v, lo, rfl, h⟩ := h
    rfl
  · obtain ⟨n, g, rfl, hn, h⟩ := h
    simp [Bcompany_by, dstart, dSeq, dRet, dAsg, dPar, dIfS, dDrop, dNext, dVar, dC, dOp, dTst, dAnd, dOr, dNot, dIf, dAndV, dOrV, dNotV, dChain, dNil, dCons, dTup, dLst, dCall, plains, dIsi, isaP, drI, drI0, drPlus, drIx, drEq, drNe, drIn, drNIn, drIsN, drNotN, drLen, drAll, drSum, drMin, drMax, drTuple, drList, drDict, drInt, drAbs, dIterL, dIterT, dRng1, dRng2, dEnum, Tgt.put, dLc, dLc2, dYes, dInW, dTail, dHead, dRev, dMerge, dNew, dCount, dFor, List.getElem?_cons_zero, List.getElem?_cons_succ, List.map, List.length, List.replicate, List.append, List.cons_append, List.nil_append, List.append_nil, List.set, Option.map, Nat.sub_self]
    refine ⟨n, rfl, hn, ?_⟩
    dsimp only
    rw [list_map_d, List.map_map]
    refine dGo_fm (fun p : Pr => .d (ePr p)) g ePr (prs n) [] _ ?_ (fun x hx acc R ha hR => ?_) ?_
    · have := big_line
      have := prs_small hn
      simp
      omega
    · simp [dStep, dwipe, tkey_pr, lookK_pr, hx, dstart, dSeq, dRet, dAsg, dPar, dIfS, dDrop, dNext, dVar, dC, dOp, dTst, dAnd, dOr, dNot, dIf, dAndV, dOrV, dNotV, dChain, dNil, dCons, dTup, dLst, dCall, plains, dIsi, isaP, drI, drI0, drPlus, drIx, drEq, drNe, drIn, drNIn, drIsN, drNotN, drLen, drAll, drSum, drMin, drMax, drTuple, drList, drDict, drInt, drAbs, dIterL, dIterT, dRng1, dRng2, dEnum, Tgt.put, dLc, dLc2, dYes, dInW, dTail, dHead, dRev, dMerge, dNew, dCount, dFor, List.getElem?_cons_zero, List.getElem?_cons_succ, List.map, List.length, List.replicate, List.append, List.cons_append, List.nil_append, List.append_nil, List.set, Option.map, Nat.sub_self]
      by_cases e : g x = true
      · simp [e] at hR ⊢
        exact ⟨ha, hR⟩
      · simp [e] at hR ⊢
        exact hR
    · exact h
theorem ok_ties_in : Ok P w K mg base "ties_in" ["company"] 2 Tties_in := by
  refine Dties_in F (ok_pairs_of F) (fun ds Q h => ?_) (fun ds Q h => ?_)
  · obtain ⟨v, lo, rfl, h⟩ := h
    rfl
  · obtain ⟨n, ts, rfl, hn, h⟩ := h
    simp [Bties_in, eCo, atI_0, dstart, dSeq, dRet, dAsg, dPar, dIfS, dDrop, dNext, dVar, dC, dOp, dTst, dAnd, dOr, dNot, dIf, dAndV, dOrV, dNotV, dChain, dNil, dCons, dTup, dLst, dCall, plains, dIsi, isaP, drI, drI0, drPlus, drIx, drEq, drNe, drIn, drNIn, drIsN, drNotN, drLen, drAll, drSum, drMin, drMax, drTuple, drList, drDict, drInt, drAbs, dIterL, dIterT, dRng1, dRng2, dEnum, Tgt.put, dLc, dLc2, dYes, dInW, dTail, dHead, dRev, dMerge, dNew, dCount, dFor, List.getElem?_cons_zero, List.getElem?_cons_succ, List.map, List.length, List.replicate, List.append, List.cons_append, List.nil_append, List.append_nil, List.set, Option.map, Nat.sub_self]
    refine ⟨n, rfl, hn, ?_⟩
    dsimp only
    rw [list_map_d, List.map_map]
    refine dGo_map (fun p : Pr => .d (ePr p)) (fun p => .tuple [ePr p, .bool (decide (p ∈ ts))]) (prs n) [] _ ?_ (fun x hx acc R ha hR => ?_) ?_
    · have := big_line
      have := prs_small hn
      simp
      omega
    · simp [dStep, dwipe, atI_1, eTs, dstart, dSeq, dRet, dAsg, dPar, dIfS, dDrop, dNext, dVar, dC, dOp, dTst, dAnd, dOr, dNot, dIf, dAndV, dOrV, dNotV, dChain, dNil, dCons, dTup, dLst, dCall, plains, dIsi, isaP, drI, drI0, drPlus, drIx, drEq, drNe, drIn, drNIn, drIsN, drNotN, drLen, drAll, drSum, drMin, drMax, drTuple, drList, drDict, drInt, drAbs, dIterL, dIterT, dRng1, dRng2, dEnum, Tgt.put, dLc, dLc2, dYes, dInW, dTail, dHead, dRev, dMerge, dNew, dCount, dFor, List.getElem?_cons_zero, List.getElem?_cons_succ, List.map, List.length, List.replicate, List.append, List.cons_append, List.nil_append, List.append_nil, List.set, Option.map, Nat.sub_self]
      refine ⟨(sh_pr x).okd, lay_prs ts, ha, ?_⟩
      have e := any_pr ts x
      rw [List.any_map] at e
      rw [e]
      exact hR
    · rw [List.nil_append, pairsOf_pr (fun p => .bool (decide (p ∈ ts)))]
      exact ⟨keys_nd _ (prs_nd n), h⟩
end
end TW
namespace TW
open PySem PySem.Spec PyProof.Rows L2 FL
theorem ci (a b : Nat) : ((a : Int) = (b : Int)) = (a = b) := propext Int.ofNat_inj
theorem eqv_bl (a b : Bool) : PyData.eqv (.bool a) (.bool b) = (a == b) := rfl
theorem lay_ii (a b : Int) : PyData.canLayAll0 [.int a, .int b] = true := rfl
theorem atI_5 {α : Type} (x y z u v w : α) (xs : List α) : atI (x :: y :: z :: u :: v :: w :: xs) 5 = some w := by
  have := atI_nat (x :: y :: z :: u :: v :: w :: xs) 5 (by simp)
  simpa using this
theorem cm3 (k : Int) : CMul 3 k := .inl ⟨by decide, by decide⟩
theorem cm2 (k : Int) : CMul 2 k := .inl ⟨by decide, by decide⟩
theorem okd_bit (b : Bool) : okd (eBit b) = True := eq_true ((sh_int _ (k := 0)).okd)
section
variable {P : Program} {w : World} {K : PySem.W.Frag} {mg : Str → Option Value} {base : Heap} (F : Fc K mg)
include F
theorem ok_answer_of : Ok P w K mg base "answer_of" ["ties", "deed", "one", "other"] 2 Tanswer_of := by
  refine Danswer_of F (ok_pair_of F) (fun ds Q h => ?_) (fun ds Q h => ?_)
  · obtain ⟨n, ts, d, p, rfl, h⟩ := h
    rfl
  · obtain ⟨n, ts, d, ⟨a, b⟩, rfl, hn, hd, hp, h⟩ := h
    have hm := mem_prs.mp hp
    have hab : a < b := hm.1
    have hbn : b < n := hm.2
    cases d with
    | pairs d l =>
      have hdn : d < n := hd.1
      have hl : l.length = 6 := hd.2
      simp [Banswer_of, eDeed, eN, ties, lookK_in _ hp, dstart, dSeq, dRet, dAsg, dPar, dIfS, dDrop, dNext, dVar, dC, dOp, dTst, dAnd, dOr, dNot, dIf, dAndV, dOrV, dNotV, dChain, dNil, dCons, dTup, dLst, dCall, plains, dIsi, isaP, drI, drI0, drPlus, drIx, drEq, drNe, drIn, drNIn, drIsN, drNotN, drLen, drAll, drSum, drMin, drMax, drTuple, drList, drDict, drInt, drAbs, dIterL, dIterT, dRng1, dRng2, dEnum, Tgt.put, dLc, dLc2, dYes, dInW, dTail, dHead, dRev, dMerge, dNew, dCount, dFor, List.getElem?_cons_zero, List.getElem?_cons_succ, List.map, List.length, List.replicate, List.append, List.cons_append, List.nil_append, List.append_nil, List.set, Option.map, Nat.sub_self, ne_pt, ne_pi, ne_pa, ne_tp, ne_ti, ne_ta, ne_ip, ne_it, ne_ia, ne_ap, ne_at, ne_ai, ne_kt, ne_kp, ne_pk, ne_pu, ne_uk, ne_up, okd_int, okd_bl, okd_pairs, okd_takes, okd_tie, okd_ask, okd_know, okd_part, okd_turn, tkey_ii, eqv_int, eqv_str, atI_0, atI_1, atI_2, atI_3, atI_4, ci, eqv_bl, lay_ii, atI_5]
      by_cases e : a = d ∨ b = d
      · simp [e]
        have e' : d = a ∨ d = b := by omega
        simpa [ans, e'] using h
      · simp [e]
        have e' : ¬ (d = a ∨ d = b) := by omega
        refine dGo_fm (fun x : Nat => .d (eN x)) (fun x => kn ts d x) (fun _ => .int 1) [a, b] [] _ (Nat.le_trans (by simp) big_line) (fun x hx acc R ha hR => ?_) ?_
        · have hx' : x = a ∨ x = b := by simpa using hx
          have hmm : mm d x ∈ prs n := mm_mem (by omega) hdn (by omega)
          simp [dStep, dwipe, eN, dstart, dSeq, dRet, dAsg, dPar, dIfS, dDrop, dNext, dVar, dC, dOp, dTst, dAnd, dOr, dNot, dIf, dAndV, dOrV, dNotV, dChain, dNil, dCons, dTup, dLst, dCall, plains, dIsi, isaP, drI, drI0, drPlus, drIx, drEq, drNe, drIn, drNIn, drIsN, drNotN, drLen, drAll, drSum, drMin, drMax, drTuple, drList, drDict, drInt, drAbs, dIterL, dIterT, dRng1, dRng2, dEnum, Tgt.put, dLc, dLc2, dYes, dInW, dTail, dHead, dRev, dMerge, dNew, dCount, dFor, List.getElem?_cons_zero, List.getElem?_cons_succ, List.map, List.length, List.replicate, List.append, List.cons_append, List.nil_append, List.append_nil, List.set, Option.map, Nat.sub_self, ne_pt, ne_pi, ne_pa, ne_tp, ne_ti, ne_ta, ne_ip, ne_it, ne_ia, ne_ap, ne_at, ne_ai, ne_kt, ne_kp, ne_pk, ne_pu, ne_uk, ne_up, okd_int, okd_bl, okd_pairs, okd_takes, okd_tie, okd_ask, okd_know, okd_part, okd_turn, tkey_ii, eqv_int, eqv_str, atI_0, atI_1, atI_2, atI_3, atI_4, ci, eqv_bl, lay_ii, atI_5]
          refine ⟨d, x, rfl, ?_⟩
          simp [tkey_pr, lookK_pr, hmm]
          by_cases z : mm d x ∈ ts
          · simp [kn, z] at hR ⊢
            exact ⟨ha, hR⟩
          · simp [kn, z] at hR ⊢
            exact hR
        · match l, hl with
          | [x0, x1, x2, x3, x4, x5], _ =>
            simp [ans, e'] at h
            cases z : decide ((a, b) ∈ ts) <;> cases z1 : kn ts d a <;> cases z2 : kn ts d b <;> simp [z, z1, z2] at h <;>
              simp [z1, z2, intsOf, cm2, cm3, eBits, b2I, atI_0, atI_1, atI_2, atI_3, atI_4, atI_5, eqv_bit, okd_bit, h]
    | takes d o l =>
      have hdn : d < n := hd.1
      have hon : o < n := hd.2.1
      have hdo : d ≠ o := hd.2.2.1
      have hl : l.length = 4 := hd.2.2.2
      simp [Banswer_of, eDeed, eN, ties, lookK_in _ hp, dstart, dSeq, dRet, dAsg, dPar, dIfS, dDrop, dNext, dVar, dC, dOp, dTst, dAnd, dOr, dNot, dIf, dAndV, dOrV, dNotV, dChain, dNil, dCons, dTup, dLst, dCall, plains, dIsi, isaP, drI, drI0, drPlus, drIx, drEq, drNe, drIn, drNIn, drIsN, drNotN, drLen, drAll, drSum, drMin, drMax, drTuple, drList, drDict, drInt, drAbs, dIterL, dIterT, dRng1, dRng2, dEnum, Tgt.put, dLc, dLc2, dYes, dInW, dTail, dHead, dRev, dMerge, dNew, dCount, dFor, List.getElem?_cons_zero, List.getElem?_cons_succ, List.map, List.length, List.replicate, List.append, List.cons_append, List.nil_append, List.append_nil, List.set, Option.map, Nat.sub_self, ne_pt, ne_pi, ne_pa, ne_tp, ne_ti, ne_ta, ne_ip, ne_it, ne_ia, ne_ap, ne_at, ne_ai, ne_kt, ne_kp, ne_pk, ne_pu, ne_uk, ne_up, okd_int, okd_bl, okd_pairs, okd_takes, okd_tie, okd_ask, okd_know, okd_part, okd_turn, tkey_ii, eqv_int, eqv_str, atI_0, atI_1, atI_2, atI_3, atI_4, ci, eqv_bl, lay_ii, atI_5]
      by_cases e : (d = a ∨ d = b) ∧ ¬ (o = a ∨ o = b)
      · have z1 : (decide (a = d) || decide (b = d)) = true := by
          rcases e.1 with z | z <;> simp [z]
        have z2 : (decide (a = o) || decide (b = o)) = false := by
          have := e.2
          simp
          omega
        have z3 : ¬ (¬ a = d ∧ ¬ b = d) := by omega
        simp [z1, z2, z3, cm2, cm3]
        have hc : ((a : Int) + b - d) = ((a + b - d : Nat) : Int) := by omega
        have hmm : mm o (a + b - d) ∈ prs n := mm_mem (by omega) hon (by omega)
        refine ⟨o, a + b - d, by rw [hc]; rfl, ?_⟩
        simp [tkey_pr, lookK_pr, hmm]
        match l, hl with
        | [x0, x1, x2, x3], _ =>
          simp [ans, e] at h
          have kk : decide (mm o (a + b - d) ∈ ts) = kn ts o (a + b - d) := rfl
          rw [kk]
          cases z : decide ((a, b) ∈ ts) <;> cases z1 : kn ts o (a + b - d) <;> simp [z, z1] at h <;>
            simp [cm2, cm3, eBits, b2I, atI_0, atI_1, atI_2, atI_3, eqv_bit, okd_bit, h]
      · have z : ((decide (a = d) || decide (b = d)) = (decide (a = o) || decide (b = o))) ∨ (¬ a = d ∧ ¬ b = d) := by
          by_cases q : a = d ∨ b = d
          · left
            have : o = a ∨ o = b := by
              by_cases r : o = a ∨ o = b
              · exact r
              · exact absurd ⟨by omega, r⟩ e
            have e1 : (decide (a = d) || decide (b = d)) = true := by simpa using q
            have e2 : (decide (a = o) || decide (b = o)) = true := by
              simp
              omega
            rw [e1, e2]
          · right
            omega
        simp only [ans, if_neg e] at h
        rcases z with z | z
        · simp [z]
          exact h
        · simp [z]
          exact h
    | tie d o w =>
      have hdn : d < n := hd.1
      have hon : o < n := hd.2.1
      have hdo : d ≠ o := hd.2.2
      simp [Banswer_of, eDeed, eN, ties, lookK_in _ hp, dstart, dSeq, dRet, dAsg, dPar, dIfS, dDrop, dNext, dVar, dC, dOp, dTst, dAnd, dOr, dNot, dIf, dAndV, dOrV, dNotV, dChain, dNil, dCons, dTup, dLst, dCall, plains, dIsi, isaP, drI, drI0, drPlus, drIx, drEq, drNe, drIn, drNIn, drIsN, drNotN, drLen, drAll, drSum, drMin, drMax, drTuple, drList, drDict, drInt, drAbs, dIterL, dIterT, dRng1, dRng2, dEnum, Tgt.put, dLc, dLc2, dYes, dInW, dTail, dHead, dRev, dMerge, dNew, dCount, dFor, List.getElem?_cons_zero, List.getElem?_cons_succ, List.map, List.length, List.replicate, List.append, List.cons_append, List.nil_append, List.append_nil, List.set, Option.map, Nat.sub_self, ne_pt, ne_pi, ne_pa, ne_tp, ne_ti, ne_ta, ne_ip, ne_it, ne_ia, ne_ap, ne_at, ne_ai, ne_kt, ne_kp, ne_pk, ne_pu, ne_uk, ne_up, okd_int, okd_bl, okd_pairs, okd_takes, okd_tie, okd_ask, okd_know, okd_part, okd_turn, tkey_ii, eqv_int, eqv_str, atI_0, atI_1, atI_2, atI_3, atI_4, ci, eqv_bl, lay_ii, atI_5]
      refine ⟨d, o, rfl, ?_⟩
      have ok2 : okd (PyData.tuple [PyData.int a, PyData.int b]) := (sh_pr (a, b)).okd
      have q : PyData.eqv (ePr (mm d o)) (PyData.tuple [PyData.int a, PyData.int b]) = decide (mm d o = (a, b)) := eqv_pr _ (a, b)
      simp [q, ok2, (sh_pr (mm d o)).okd]
      by_cases e : mm d o = (a, b)
      · simp [ans, e] at h
        cases w <;> simp [e, Wd.nm, ne_pt, ne_pi, ne_pa, ne_tp, ne_ti, ne_ta, ne_ip, ne_it, ne_ia, ne_ap, ne_at, ne_ai, ne_kt, ne_kp, ne_pk, ne_pu, ne_uk, ne_up, okd_int, okd_bl, okd_pairs, okd_takes, okd_tie, okd_ask, okd_know, okd_part, okd_turn, tkey_ii, eqv_int, eqv_str, atI_0, atI_1, atI_2, atI_3, atI_4, ci, eqv_bl, lay_ii, atI_5] at h ⊢ <;> exact h
      · simp [ans, e] at h
        simp [e]
        exact h
theorem ok_behind : Ok P w K mg base "behind" ["company", "deed"] 3 Tbehind := by
  refine Dbehind F (ok_ties_in F) (ok_pairs_of F) (ok_company_by F) (ok_answer_of F) (fun ds Q h => ?_) (fun ds Q h => ?_)
  · obtain ⟨c, d, rfl, h⟩ := h
    rfl
  · obtain ⟨⟨n, ts⟩, d, rfl, hn, hd, h⟩ := h
    simp [Bbehind, eCo, dstart, dSeq, dRet, dAsg, dPar, dIfS, dDrop, dNext, dVar, dC, dOp, dTst, dAnd, dOr, dNot, dIf, dAndV, dOrV, dNotV, dChain, dNil, dCons, dTup, dLst, dCall, plains, dIsi, isaP, drI, drI0, drPlus, drIx, drEq, drNe, drIn, drNIn, drIsN, drNotN, drLen, drAll, drSum, drMin, drMax, drTuple, drList, drDict, drInt, drAbs, dIterL, dIterT, dRng1, dRng2, dEnum, Tgt.put, dLc, dLc2, dYes, dInW, dTail, dHead, dRev, dMerge, dNew, dCount, dFor, List.getElem?_cons_zero, List.getElem?_cons_succ, List.map, List.length, List.replicate, List.append, List.cons_append, List.nil_append, List.append_nil, List.set, Option.map, Nat.sub_self, ne_pt, ne_pi, ne_pa, ne_tp, ne_ti, ne_ta, ne_ip, ne_it, ne_ia, ne_ap, ne_at, ne_ai, ne_kt, ne_kp, ne_pk, ne_pu, ne_uk, ne_up, okd_int, okd_bl, okd_pairs, okd_takes, okd_tie, okd_ask, okd_know, okd_part, okd_turn, tkey_ii, eqv_int, eqv_str, atI_0, atI_1, atI_2, atI_3, atI_4, ci, eqv_bl, lay_ii, atI_5]
    refine ⟨n, ts, rfl, hn, ?_⟩
    refine ⟨n, rfl, hn, ?_⟩
    simp [dstart, dSeq, dRet, dAsg, dPar, dIfS, dDrop, dNext, dVar, dC, dOp, dTst, dAnd, dOr, dNot, dIf, dAndV, dOrV, dNotV, dChain, dNil, dCons, dTup, dLst, dCall, plains, dIsi, isaP, drI, drI0, drPlus, drIx, drEq, drNe, drIn, drNIn, drIsN, drNotN, drLen, drAll, drSum, drMin, drMax, drTuple, drList, drDict, drInt, drAbs, dIterL, dIterT, dRng1, dRng2, dEnum, Tgt.put, dLc, dLc2, dYes, dInW, dTail, dHead, dRev, dMerge, dNew, dCount, dFor, List.getElem?_cons_zero, List.getElem?_cons_succ, List.map, List.length, List.replicate, List.append, List.cons_append, List.nil_append, List.append_nil, List.set, Option.map, Nat.sub_self, ne_pt, ne_pi, ne_pa, ne_tp, ne_ti, ne_ta, ne_ip, ne_it, ne_ia, ne_ap, ne_at, ne_ai, ne_kt, ne_kp, ne_pk, ne_pu, ne_uk, ne_up, okd_int, okd_bl, okd_pairs, okd_takes, okd_tie, okd_ask, okd_know, okd_part, okd_turn, tkey_ii, eqv_int, eqv_str, atI_0, atI_1, atI_2, atI_3, atI_4, ci, eqv_bl, lay_ii, atI_5]
    refine dGo_map (fun p : Pr => .d (ePr p)) (fun p => .tuple [ePr p, .bool (ans ts d p)]) (prs n) [] _ ?_ (fun x hx acc R ha hR => ?_) ?_
    · have := big_line
      have : (prs n).length ≤ 10000 := prs_small hn
      simp
      omega
    · simp [dStep, dwipe, ePr, dstart, dSeq, dRet, dAsg, dPar, dIfS, dDrop, dNext, dVar, dC, dOp, dTst, dAnd, dOr, dNot, dIf, dAndV, dOrV, dNotV, dChain, dNil, dCons, dTup, dLst, dCall, plains, dIsi, isaP, drI, drI0, drPlus, drIx, drEq, drNe, drIn, drNIn, drIsN, drNotN, drLen, drAll, drSum, drMin, drMax, drTuple, drList, drDict, drInt, drAbs, dIterL, dIterT, dRng1, dRng2, dEnum, Tgt.put, dLc, dLc2, dYes, dInW, dTail, dHead, dRev, dMerge, dNew, dCount, dFor, List.getElem?_cons_zero, List.getElem?_cons_succ, List.map, List.length, List.replicate, List.append, List.cons_append, List.nil_append, List.append_nil, List.set, Option.map, Nat.sub_self, ne_pt, ne_pi, ne_pa, ne_tp, ne_ti, ne_ta, ne_ip, ne_it, ne_ia, ne_ap, ne_at, ne_ai, ne_kt, ne_kp, ne_pk, ne_pu, ne_uk, ne_up, okd_int, okd_bl, okd_pairs, okd_takes, okd_tie, okd_ask, okd_know, okd_part, okd_turn, tkey_ii, eqv_int, eqv_str, atI_0, atI_1, atI_2, atI_3, atI_4, ci, eqv_bl, lay_ii, atI_5]
      exact ⟨n, ts, d, x, rfl, hn, hd, hx, ha, hR⟩
    · rw [List.nil_append, pairsOf_pr (fun p => .bool (ans ts d p))]
      refine ⟨keys_nd _ (prs_nd n), n, ans ts d, rfl, hn, h⟩
end
end TW
namespace TW
open PySem PySem.Spec PyProof.Rows L2 FL
/-! ### scripts of depth one -/
inductive It1 where
  | deed (d : Deed)
  | ask (a b : Nat) (y n : List Deed)
def eDs (ds : List Deed) : PyData := .tuple (ds.map eDeed)
def eIt : It1 → PyData
  | .deed d => eDeed d
  | .ask a b y n => .tuple [.str "ask", eN a, eN b, eDs y, eDs n]
def eScr (s : List It1) : PyData := .tuple (s.map eIt)
def It1.siz : It1 → Nat
  | .deed _ => 1
  | .ask _ _ y n => 1 + y.length + n.length
def sizes (s : List It1) : Nat := (s.map It1.siz).sum
def ItOk (k : Nat) : It1 → Prop
  | .deed d => DeedOk k d
  | .ask a b y n => a < k ∧ b < k ∧ a ≠ b ∧ (∀ d ∈ y, DeedOk k d) ∧ ∀ d ∈ n, DeedOk k d
theorem DeedOk.mono {j k : Nat} (h : j ≤ k) : ∀ {d : Deed}, DeedOk j d → DeedOk k d
  | .pairs _ _, a => ⟨Nat.lt_of_lt_of_le a.1 h, a.2⟩
  | .takes _ _ _, a => ⟨Nat.lt_of_lt_of_le a.1 h, Nat.lt_of_lt_of_le a.2.1 h, a.2.2⟩
  | .tie _ _ _, a => ⟨Nat.lt_of_lt_of_le a.1 h, Nat.lt_of_lt_of_le a.2.1 h, a.2.2⟩
theorem ItOk.mono {j k : Nat} (h : j ≤ k) : ∀ {d : It1}, ItOk j d → ItOk k d
  | .deed _, a => DeedOk.mono h a
  | .ask _ _ _ _, a => ⟨Nat.lt_of_lt_of_le a.1 h, Nat.lt_of_lt_of_le a.2.1 h, a.2.2.1, fun d m => (a.2.2.2.1 d m).mono h, fun d m => (a.2.2.2.2 d m).mono h⟩
def step1 (c : Co) : It1 → Co
  | .deed d => beh c d
  | .ask a b y n => (if kn c.2 a b then y else n).foldl beh c
def run1 (c : Co) (s : List It1) : Co := s.foldl step1 c
theorem run1_deeds : ∀ (ds : List Deed) (c : Co) (r : List It1), run1 c (ds.map It1.deed ++ r) = run1 (ds.foldl beh c) r
  | [], _, _ => rfl
  | d :: ds, c, r => run1_deeds ds (beh c d) r
theorem sizes_deeds (ds : List Deed) : sizes (ds.map It1.deed) = ds.length := by
  unfold sizes
  induction ds with
  | nil => rfl
  | cons d ds ih =>
    rw [List.map_cons, List.map_cons, List.sum_cons, ih, List.length_cons]
    show 1 + ds.length = _
    omega
theorem sizes_append (a b : List It1) : sizes (a ++ b) = sizes a + sizes b := by simp [sizes]
theorem sizes_cons (a : It1) (b : List It1) : sizes (a :: b) = a.siz + sizes b := by simp [sizes]
theorem siz_pos (a : It1) : 1 ≤ a.siz := by cases a <;> simp [It1.siz]; omega
theorem length_sizes : ∀ s : List It1, s.length ≤ sizes s
  | [] => Nat.le_refl _
  | a :: s => by
    rw [sizes_cons, List.length_cons]
    have := siz_pos a
    have := length_sizes s
    omega
theorem sh_bits (a : List Bool) : Sh 1 (eBits a) := sh_tup (shAll_map fun _ _ => sh_int _)
theorem sh_deed (d : Deed) : Sh 2 (eDeed d) := by
  cases d with
  | pairs d a => exact sh_tup (shAll_cons (sh_str _) (shAll_cons (sh_int _) (shAll_cons (sh_bits a) shAll_nil)))
  | takes d o a => exact sh_tup (shAll_cons (sh_str _) (shAll_cons (sh_int _) (shAll_cons (sh_int _) (shAll_cons (sh_bits a) shAll_nil))))
  | tie d o w => exact sh_tup (shAll_cons (sh_str _) (shAll_cons (sh_int _) (shAll_cons (sh_int _) (shAll_cons (by cases w <;> exact sh_str _) shAll_nil))))
theorem sh_ds (ds : List Deed) : Sh 3 (eDs ds) := sh_tup (shAll_map fun d _ => sh_deed d)
theorem sh_it (i : It1) : Sh 4 (eIt i) := by
  cases i with
  | deed d => exact (sh_deed d).mono (by decide)
  | ask a b y n => exact sh_tup (shAll_cons (sh_str _) (shAll_cons (sh_int _) (shAll_cons (sh_int _) (shAll_cons (sh_ds y) (shAll_cons (sh_ds n) shAll_nil)))))
theorem eIt_deeds (ds : List Deed) : (ds.map It1.deed).map eIt = ds.map eDeed := by
  rw [List.map_map]
  rfl
def Trun_by : DRs := fun ds Q => ∃ (c : Co) (s : List It1), ds = [.d (eCo c), .d (eScr s)] ∧ c.1 ≤ 100 ∧ (∀ i ∈ s, ItOk c.1 i) ∧ sizes s ≤ 1000 ∧ ∀ l, Q (.d (.tuple [eCo (run1 c s), .list l]))
def Brun_by : DTS := dSeq (dPar 2 3 (dLst (dNil)) (dCall drList (dCons (dVar 1) (dNil)))) (dSeq (dWhile (dTst (dOp drNe (dVar 3) (dLst (dNil)))) (dSeq (dPar 4 3 (dOp drIx (dVar 3) (dC (dI 0))) (dTail 1 (dVar 3))) (dIfS (dTst (dOp drEq (dOp drIx (dVar 4) (dC (dI 0))) (dC (dS "ask")))) (dAsg (dOp drPlus (dCall drList (dCons (dIf (dTst (dOp drIn (dCall Tpair_of (dCons (dOp drIx (dVar 4) (dC (dI 1))) (dCons (dOp drIx (dVar 4) (dC (dI 2))) (dNil)))) (dOp drIx (dVar 0) (dC (dI 1))))) (dOp drIx (dVar 4) (dC (dI 3))) (dOp drIx (dVar 4) (dC (dI 4)))) (dNil))) (dVar 3)) (.nm 3)) (dPar 0 2 (dCall Tbehind (dCons (dVar 0) (dCons (dVar 4) (dNil)))) (dOp drPlus (dVar 2) (dLst (dCons (dVar 4) (dNil)))))))) (dRet (dTup (dCons (dVar 0) (dCons (dVar 2) (dNil))))))
theorem Srun_by : FnScope ["company", "script", "found", "left", "item"] ["company", "script"] (defScope (top 16)) := ⟨rfl, rfl, rfl, by decide +kernel, rfl, by decide +kernel, by decide +kernel⟩
theorem Drun_by {P : Program} {w : World} {K : PySem.W.Frag} {mg : Str → Option Value} {base : Heap} (F : Fc K mg) (opair_of : Ok P w K mg base "pair_of" ["one", "other"] 1 Tpair_of) (obehind : Ok P w K mg base "behind" ["company", "deed"] 3 Tbehind) {T : DRs} (hlen : ∀ ds Q, T ds Q → ds.length = 2) (hT : ∀ ds Q, T ds Q → Brun_by { nx := fun _ => Q dN, rt := Q } (dstart ["company", "script", "found", "left", "item"] ds)) : Ok P w K mg base "run_by" ["company", "script"] (3 + 1) T :=
  ok_fn F 9 (j := 16) rfl Srun_by T (Brun_by) hlen hT (fun _ _ _ _ _ _ us hl => match us, hl with | [_, _], _ => rfl) fun f cdv A outer s H E hr => dss_cons (ds_par (i := 2) (j := 3) rfl Srun_by.nd rfl rfl (by decide) rfl rfl (de_lst (da_nil)) (de_callTy cd_list rfl F.free_list boot_list (da_cons (dv 1) (da_nil))) rfl) (dss_cons (ds_while PassesOwn.never (dt_cmp (od_ne hr.units) (dv 3) (de_lst (da_nil)) (nomark _)) (dss_cons (ds_par (i := 4) (j := 3) rfl Srun_by.nd rfl rfl (by decide) rfl rfl (de_ix (xd_ix hr.units) (dv 3) (de_int) (fun _ _ => rfl)) (de_tail (k := 1) (dv 3)) rfl) (dss_one (ds_if (dt_cmp (od_eq hr.units) (de_ix (xd_ix hr.units) (dv 4) (de_int) (fun _ _ => rfl)) (de_str) (nomark _)) (dss_one (ds_set (i := 3) Srun_by.nd rfl (by first | exact .inl rfl | exact .inr rfl) (de_bin od_plus (de_callTy cd_list rfl F.free_list boot_list (da_cons (de_if (dt_cmp (od_in (r65 hr)) (ok_call opair_of hr (by decide) rfl (da_cons (de_ix (xd_ix hr.units) (dv 4) (de_int) (fun _ _ => rfl)) (da_cons (de_ix (xd_ix hr.units) (dv 4) (de_int) (fun _ _ => rfl)) (da_nil)))) (de_ix (xd_ix hr.units) (dv 0) (de_int) (fun _ _ => rfl)) (by with_unfolding_all rfl)) (de_ix (xd_ix hr.units) (dv 4) (de_int) (fun _ _ => rfl)) (de_ix (xd_ix hr.units) (dv 4) (de_int) (fun _ _ => rfl))) (da_nil))) (dv 3)))) (dss_one (ds_par (i := 0) (j := 2) rfl Srun_by.nd rfl rfl (by decide) rfl rfl (ok_call obehind hr (by decide) rfl (da_cons (dv 0) (da_cons (dv 4) (da_nil)))) (de_bin od_plus (dv 2) (de_lst (da_cons (dv 4) (da_nil)))) rfl)))))) (dss_one (ds_ret (de_tup (da_cons (dv 0) (da_cons (dv 2) (da_nil)))))))
theorem ex_pr (ts : List Pr) (p : Pr) : (∃ x, x ∈ ts.map ePr ∧ PyData.eqv x (ePr p) = true) = (p ∈ ts) := by
  have h := any_pr ts p
  refine propext ⟨fun z => ?_, fun z => ?_⟩
  · have := List.any_eq_true.mpr z
    rw [h] at this
    exact of_decide_eq_true this
  · have : (List.any (ts.map ePr) fun z => PyData.eqv z (ePr p)) = true := by rw [h]; exact decide_eq_true z
    exact List.any_eq_true.mp this
def Wrun (c : Co) (s : List It1) (m : Nat) (δ : DEnv) : Prop := ∃ (c' : Co) (l : List It1) (f : List PyData) (x : Option FL.D), δ = [some (.d (eCo c')), some (.d (eScr s)), some (.d (.list f)), some (.d (.list (l.map eIt))), x] ∧ c'.1 = c.1 ∧ run1 c' l = run1 c s ∧ (∀ i ∈ l, ItOk c.1 i) ∧ m = sizes l ∧ f.length + m ≤ 1000
def isAsk : It1 → Bool
  | .ask _ _ _ _ => true
  | .deed _ => false
theorem deed_head (d : Deed) : ∃ x r, eDeed d = .tuple (.str x :: r) ∧ okd (.str x) ∧ ((x : Str) = "ask") = False := by
  cases d with
  | pairs d a => exact ⟨_, _, rfl, (sh_str _ (k := 0)).okd, ne_pa⟩
  | takes d o a => exact ⟨_, _, rfl, (sh_str _ (k := 0)).okd, ne_ta⟩
  | tie d o w => exact ⟨_, _, rfl, (sh_str _ (k := 0)).okd, ne_ia⟩
section
variable {P : Program} {w : World} {K : PySem.W.Frag} {mg : Str → Option Value} {base : Heap} (F : Fc K mg)
include F
theorem ok_run_by : Ok P w K mg base "run_by" ["company", "script"] 4 Trun_by := by
  refine Drun_by F (ok_pair_of F) (ok_behind F) (fun ds Q h => ?_) (fun ds Q h => ?_)
  · obtain ⟨c, s, rfl, h⟩ := h
    rfl
  · obtain ⟨c, s, rfl, hn, hs, hz, h⟩ := h
    simp [Brun_by, eScr, dstart, dSeq, dRet, dAsg, dPar, dIfS, dDrop, dNext, dVar, dC, dOp, dTst, dAnd, dOr, dNot, dIf, dAndV, dOrV, dNotV, dChain, dNil, dCons, dTup, dLst, dCall, plains, dIsi, isaP, drI, drI0, drPlus, drIx, drEq, drNe, drIn, drNIn, drIsN, drNotN, drLen, drAll, drSum, drMin, drMax, drTuple, drList, drDict, drInt, drAbs, dIterL, dIterT, dRng1, dRng2, dEnum, Tgt.put, dLc, dLc2, dYes, dInW, dTail, dHead, dRev, dMerge, dNew, dCount, dFor, List.getElem?_cons_zero, List.getElem?_cons_succ, List.map, List.length, List.replicate, List.append, List.cons_append, List.nil_append, List.append_nil, List.set, Option.map, Nat.sub_self, ne_pt, ne_pi, ne_pa, ne_tp, ne_ti, ne_ta, ne_ip, ne_it, ne_ia, ne_ap, ne_at, ne_ai, ne_kt, ne_kp, ne_pk, ne_pu, ne_uk, ne_up, okd_int, okd_bl, okd_pairs, okd_takes, okd_tie, okd_ask, okd_know, okd_part, okd_turn, tkey_ii, eqv_int, eqv_str, atI_0, atI_1, atI_2, atI_3, atI_4, ci, eqv_bl, lay_ii, atI_5]
    refine ⟨Wrun c s, ⟨_, c, s, [], none, rfl, rfl, rfl, hs, rfl, by simpa using hz⟩, ?_⟩
    rintro m _ ⟨c', l, f, x, rfl, hc, hr, hl, rfl, hf⟩
    have hbig := big_line
    have okl : okd (.list (l.map eIt)) := (sh_lst (shAll_map fun i _ => sh_it i)).okd
    have oke : okd (.list []) := (sh_lst (shAll_nil (k := 0))).okd
    simp [dstart, dSeq, dRet, dAsg, dPar, dIfS, dDrop, dNext, dVar, dC, dOp, dTst, dAnd, dOr, dNot, dIf, dAndV, dOrV, dNotV, dChain, dNil, dCons, dTup, dLst, dCall, plains, dIsi, isaP, drI, drI0, drPlus, drIx, drEq, drNe, drIn, drNIn, drIsN, drNotN, drLen, drAll, drSum, drMin, drMax, drTuple, drList, drDict, drInt, drAbs, dIterL, dIterT, dRng1, dRng2, dEnum, Tgt.put, dLc, dLc2, dYes, dInW, dTail, dHead, dRev, dMerge, dNew, dCount, dFor, List.getElem?_cons_zero, List.getElem?_cons_succ, List.map, List.length, List.replicate, List.append, List.cons_append, List.nil_append, List.append_nil, List.set, Option.map, Nat.sub_self, ne_pt, ne_pi, ne_pa, ne_tp, ne_ti, ne_ta, ne_ip, ne_it, ne_ia, ne_ap, ne_at, ne_ai, ne_kt, ne_kp, ne_pk, ne_pu, ne_uk, ne_up, okd_int, okd_bl, okd_pairs, okd_takes, okd_tie, okd_ask, okd_know, okd_part, okd_turn, tkey_ii, eqv_int, eqv_str, atI_0, atI_1, atI_2, atI_3, atI_4, ci, eqv_bl, lay_ii, atI_5]
    refine ⟨okl, oke, ?_⟩
    rw [eqv_empty]
    cases l with
    | nil =>
      simp
      have : c' = run1 c s := hr
      rw [this]
      exact h f
    | cons i l =>
      rw [sizes_cons] at hf
      have hll := length_sizes l
      have hi := hl i List.mem_cons_self
      have hl' := fun j hj => hl j (List.mem_cons_of_mem _ hj)
      cases i with
      | deed d =>
        obtain ⟨x0, r0, e0, ok0, ne0⟩ := deed_head d
        simp [eIt, atI_0, e0, ok0, ne0, eqv_str, okd_ask]
        rw [← e0]
        refine ⟨c', d, rfl, by omega, by rw [hc]; exact hi, ?_⟩
        have e1 : It1.siz (.deed d) = 1 := rfl
        refine ⟨by omega, sizes l, ?_, beh c' d, l, _, _, rfl, hc, hr, hl', rfl, ?_⟩
        · rw [sizes_cons]
          omega
        · simp
          omega
      | ask a b y n =>
        have e1 : It1.siz (.ask a b y n) = 1 + y.length + n.length := rfl
        have hya : a ≠ b := hi.2.2.1
        simp [eIt, eN, eCo, eTs, eDs, eScr, ne_pt, ne_pi, ne_pa, ne_tp, ne_ti, ne_ta, ne_ip, ne_it, ne_ia, ne_ap, ne_at, ne_ai, ne_kt, ne_kp, ne_pk, ne_pu, ne_uk, ne_up, okd_int, okd_bl, okd_pairs, okd_takes, okd_tie, okd_ask, okd_know, okd_part, okd_turn, tkey_ii, eqv_int, eqv_str, atI_0, atI_1, atI_2, atI_3, atI_4, ci, eqv_bl, lay_ii, atI_5]
        refine ⟨a, b, rfl, (sh_pr _).okd, lay_prs _, ?_⟩
        simp only [ex_pr]
        have key : ∀ ds : List Deed, (∀ d ∈ ds, DeedOk c.1 d) → ds.length ≤ y.length + n.length → run1 c' (ds.map It1.deed ++ l) = run1 c s →
            ∃ m', m' < sizes (It1.ask a b y n :: l) ∧ Wrun c s m' [some (.d (.tuple [.int c'.1, .tuple (c'.2.map ePr)])), some (.d (.tuple (s.map eIt))), some (.d (.list f)), some (.d (.list (ds.map eDeed ++ l.map eIt))), some (.d (.tuple [.str "ask", .int a, .int b, .tuple (y.map eDeed), .tuple (n.map eDeed)]))] := by
          intro ds hd hlen hrun
          have e5 : sizes (ds.map It1.deed ++ l) = ds.length + sizes l := by rw [sizes_append, sizes_deeds]
          refine ⟨_, ?_, c', ds.map It1.deed ++ l, f, _, by rw [List.map_append, eIt_deeds]; rfl, hc, hrun, fun i hi => ?_, rfl, ?_⟩
          · rw [e5, sizes_cons]
            omega
          · rcases List.mem_append.mp hi with z | z
            · obtain ⟨d, hd', rfl⟩ := List.mem_map.mp z
              exact hd d hd'
            · exact hl' i z
          · rw [e5]
            omega
        by_cases z : mm a b ∈ c'.2
        · have z' : kn c'.2 a b = true := decide_eq_true z
          simp [z, eDs]
          refine ⟨by omega, key y hi.2.2.2.1 (by omega) ?_⟩
          rw [run1_deeds, ← hr]
          have e9 : step1 c' (.ask a b y n) = y.foldl beh c' := by
            show (if kn c'.2 a b = true then y else n).foldl beh c' = _
            rw [z']
            rfl
          show run1 _ l = run1 (step1 c' (.ask a b y n)) l
          rw [e9]
        · have z' : kn c'.2 a b = false := decide_eq_false z
          simp [z, eDs]
          refine ⟨by omega, key n hi.2.2.2.2 (by omega) ?_⟩
          rw [run1_deeds, ← hr]
          have e9 : step1 c' (.ask a b y n) = n.foldl beh c' := by
            show (if kn c'.2 a b = true then y else n).foldl beh c' = _
            rw [z']
            rfl
          show run1 _ l = run1 (step1 c' (.ask a b y n)) l
          rw [e9]
end
end TW
namespace TW
open PySem PySem.Spec PyProof.Rows L2 FL
def Tare_two_named : DRs := fun ds Q => ∃ k a b : Nat, ds = [.d (eN k), .d (eN a), .d (eN b)] ∧ a < k ∧ b < k ∧ a ≠ b ∧ Q (dB true)
def Tare_answers : DRs := fun ds Q => ∃ (a : List Bool) (m : Nat), ds = [.d (eBits a), .d (eN m)] ∧ a.length = m ∧ m ≤ 1000 ∧ Q (dB true)
def Tfits_deed : DRs := fun ds Q => ∃ (k : Nat) (d : Deed), ds = [.d (eN k), .d (eDeed d)] ∧ DeedOk k d ∧ Q (dB true)
def Tfits_choice : DRs := fun ds Q => ∃ (k : Nat) (i : It1), ds = [.d (eN k), .d (eIt i)] ∧ ItOk k i ∧ Q (dB (isAsk i))
def Bare_two_named : DTS := dRet (dAndV (dCall Tis_whole (dCons (dVar 1) (dCons (dC (dI 0)) (dCons (dOp drSub (dVar 0) (dC (dI 1))) (dNil))))) (dAndV (dCall Tis_whole (dCons (dVar 2) (dCons (dC (dI 0)) (dCons (dOp drSub (dVar 0) (dC (dI 1))) (dNil))))) (dOp drNe (dVar 1) (dVar 2))))
theorem Sare_two_named : FnScope ["named", "one", "other"] ["named", "one", "other"] (defScope (top 21)) := ⟨rfl, rfl, rfl, by decide +kernel, rfl, by decide +kernel, by decide +kernel⟩
theorem Dare_two_named {P : Program} {w : World} {K : PySem.W.Frag} {mg : Str → Option Value} {base : Heap} (F : Fc K mg) (ois_whole : Ok P w K mg base "is_whole" ["value", "low", "high"] 1 Tis_whole) {T : DRs} (hlen : ∀ ds Q, T ds Q → ds.length = 3) (hT : ∀ ds Q, T ds Q → Bare_two_named { nx := fun _ => Q dN, rt := Q } (dstart ["named", "one", "other"] ds)) : Ok P w K mg base "are_two_named" ["named", "one", "other"] (1 + 1) T :=
  ok_fn F 10 (j := 21) rfl Sare_two_named T (Bare_two_named) hlen hT (fun _ _ _ _ _ _ us hl => match us, hl with | [_, _, _], _ => rfl) fun f cdv A outer s H E hr => dss_one (ds_ret (de_and (ok_call ois_whole hr (by decide) rfl (da_cons (dv 1) (da_cons (de_int) (da_cons (de_bin od_sub (dv 0) (de_int)) (da_nil))))) (de_and (ok_call ois_whole hr (by decide) rfl (da_cons (dv 2) (da_cons (de_int) (da_cons (de_bin od_sub (dv 0) (de_int)) (da_nil))))) (de_one (de_cmp (od_ne hr.units) (dv 1) (dv 2) (nomark _))))))
def Bare_answers : DTS := dRet (dAndV (dCall Tis_tuple_of (dCons (dVar 0) (dCons (dVar 1) (dCons (dVar 1) (dNil))))) (dCall Tare_whole (dCons (dVar 0) (dCons (dC (dI 0)) (dCons (dC (dI 1)) (dNil))))))
theorem Sare_answers : FnScope ["value", "many"] ["value", "many"] (defScope (top 22)) := ⟨rfl, rfl, rfl, by decide +kernel, rfl, by decide +kernel, by decide +kernel⟩
theorem Dare_answers {P : Program} {w : World} {K : PySem.W.Frag} {mg : Str → Option Value} {base : Heap} (F : Fc K mg) (ois_tuple_of : Ok P w K mg base "is_tuple_of" ["value", "low", "high"] 1 Tis_tuple_of) (oare_whole : Ok P w K mg base "are_whole" ["value", "low", "high"] 2 Tare_whole) {T : DRs} (hlen : ∀ ds Q, T ds Q → ds.length = 2) (hT : ∀ ds Q, T ds Q → Bare_answers { nx := fun _ => Q dN, rt := Q } (dstart ["value", "many"] ds)) : Ok P w K mg base "are_answers" ["value", "many"] (2 + 1) T :=
  ok_fn F 11 (j := 22) rfl Sare_answers T (Bare_answers) hlen hT (fun _ _ _ _ _ _ us hl => match us, hl with | [_, _], _ => rfl) fun f cdv A outer s H E hr => dss_one (ds_ret (de_and (ok_call ois_tuple_of hr (by decide) rfl (da_cons (dv 0) (da_cons (dv 1) (da_cons (dv 1) (da_nil))))) (de_one (ok_call oare_whole hr (by decide) rfl (da_cons (dv 0) (da_cons (de_int) (da_cons (de_int) (da_nil))))))))
def Bfits_deed : DTS := dSeq (dIfS (dOr (dNot (dTst (dCall Tis_tuple_of (dCons (dVar 1) (dCons (dC (dI 3)) (dCons (dC (dI 4)) (dNil))))))) (dNot (dTst (dIsi .str (dOp drIx (dVar 1) (dC (dI 0))))))) (dRet (dC (dB false))) (dNext)) (dSeq (dIfS (dTst (dOp drEq (dOp drIx (dVar 1) (dC (dI 0))) (dC (dS "pairs")))) (dRet (dAndV (dOp drEq (dCall drLen (dCons (dVar 1) (dNil))) (dC (dI 3))) (dAndV (dCall Tis_whole (dCons (dOp drIx (dVar 1) (dC (dI 1))) (dCons (dC (dI 0)) (dCons (dOp drSub (dVar 0) (dC (dI 1))) (dNil))))) (dCall Tare_answers (dCons (dOp drIx (dVar 1) (dC (dI 2))) (dCons (dC (dI 6)) (dNil))))))) (dNext)) (dSeq (dIfS (dOr (dTst (dOp drNe (dCall drLen (dCons (dVar 1) (dNil))) (dC (dI 4)))) (dNot (dTst (dCall Tare_two_named (dCons (dVar 0) (dCons (dOp drIx (dVar 1) (dC (dI 1))) (dCons (dOp drIx (dVar 1) (dC (dI 2))) (dNil)))))))) (dRet (dC (dB false))) (dNext)) (dSeq (dIfS (dTst (dOp drEq (dOp drIx (dVar 1) (dC (dI 0))) (dC (dS "takes")))) (dRet (dCall Tare_answers (dCons (dOp drIx (dVar 1) (dC (dI 3))) (dCons (dC (dI 4)) (dNil))))) (dNext)) (dRet (dAndV (dOp drEq (dOp drIx (dVar 1) (dC (dI 0))) (dC (dS "tie"))) (dAndV (dIsi .str (dOp drIx (dVar 1) (dC (dI 3)))) (dInW ["know", "part", "turn"] (dOp drIx (dVar 1) (dC (dI 3))))))))))
theorem Sfits_deed : FnScope ["named", "value"] ["named", "value"] (defScope (top 23)) := ⟨rfl, rfl, rfl, by decide +kernel, rfl, by decide +kernel, by decide +kernel⟩
theorem Dfits_deed {P : Program} {w : World} {K : PySem.W.Frag} {mg : Str → Option Value} {base : Heap} (F : Fc K mg) (ois_tuple_of : Ok P w K mg base "is_tuple_of" ["value", "low", "high"] 1 Tis_tuple_of) (ois_whole : Ok P w K mg base "is_whole" ["value", "low", "high"] 1 Tis_whole) (oare_answers : Ok P w K mg base "are_answers" ["value", "many"] 3 Tare_answers) (oare_two_named : Ok P w K mg base "are_two_named" ["named", "one", "other"] 2 Tare_two_named) {T : DRs} (hlen : ∀ ds Q, T ds Q → ds.length = 2) (hT : ∀ ds Q, T ds Q → Bfits_deed { nx := fun _ => Q dN, rt := Q } (dstart ["named", "value"] ds)) : Ok P w K mg base "fits_deed" ["named", "value"] (3 + 1) T :=
  ok_fn F 12 (j := 23) rfl Sfits_deed T (Bfits_deed) hlen hT (fun _ _ _ _ _ _ us hl => match us, hl with | [_, _], _ => rfl) fun f cdv A outer s H E hr => dss_cons (ds_if (dt_w (dw_or (dt_not (dt_val (ok_call ois_tuple_of hr (by decide) rfl (da_cons (dv 1) (da_cons (de_int) (da_cons (de_int) (da_nil))))))) (dw_or1 (dt_not (dt_val (de_isi .str rfl F.free_isinstance rfl F.free_str boot_str (de_ix (xd_ix hr.units) (dv 1) (de_int) (fun _ _ => rfl)))))))) (dss_one (ds_ret (de_bl))) (dss_nil)) (dss_cons (ds_if (dt_cmp (od_eq hr.units) (de_ix (xd_ix hr.units) (dv 1) (de_int) (fun _ _ => rfl)) (de_str) (nomark _)) (dss_one (ds_ret (de_and (de_cmp (od_eq hr.units) (de_callB cd_len rfl F.free_len boot_len (da_cons (dv 1) (da_nil))) (de_int) (nomark _)) (de_and (ok_call ois_whole hr (by decide) rfl (da_cons (de_ix (xd_ix hr.units) (dv 1) (de_int) (fun _ _ => rfl)) (da_cons (de_int) (da_cons (de_bin od_sub (dv 0) (de_int)) (da_nil))))) (de_one (ok_call oare_answers hr (by decide) rfl (da_cons (de_ix (xd_ix hr.units) (dv 1) (de_int) (fun _ _ => rfl)) (da_cons (de_int) (da_nil))))))))) (dss_nil)) (dss_cons (ds_if (dt_w (dw_or (dt_cmp (od_ne hr.units) (de_callB cd_len rfl F.free_len boot_len (da_cons (dv 1) (da_nil))) (de_int) (nomark _)) (dw_or1 (dt_not (dt_val (ok_call oare_two_named hr (by decide) rfl (da_cons (dv 0) (da_cons (de_ix (xd_ix hr.units) (dv 1) (de_int) (fun _ _ => rfl)) (da_cons (de_ix (xd_ix hr.units) (dv 1) (de_int) (fun _ _ => rfl)) (da_nil)))))))))) (dss_one (ds_ret (de_bl))) (dss_nil)) (dss_cons (ds_if (dt_cmp (od_eq hr.units) (de_ix (xd_ix hr.units) (dv 1) (de_int) (fun _ _ => rfl)) (de_str) (nomark _)) (dss_one (ds_ret (ok_call oare_answers hr (by decide) rfl (da_cons (de_ix (xd_ix hr.units) (dv 1) (de_int) (fun _ _ => rfl)) (da_cons (de_int) (da_nil)))))) (dss_nil)) (dss_one (ds_ret (de_and (de_cmp (od_eq hr.units) (de_ix (xd_ix hr.units) (dv 1) (de_int) (fun _ _ => rfl)) (de_str) (nomark _)) (de_and (de_isi .str rfl F.free_isinstance rfl F.free_str boot_str (de_ix (xd_ix hr.units) (dv 1) (de_int) (fun _ _ => rfl))) (de_one (F.inW (de_ix (xd_ix hr.units) (dv 1) (de_int) (fun _ _ => rfl)) rfl)))))))))
def Bfits_choice : DTS := dSeq (dIfS (dOr (dNot (dTst (dCall Tis_tuple_of (dCons (dVar 1) (dCons (dC (dI 5)) (dCons (dC (dI 5)) (dNil))))))) (dOr (dNot (dTst (dIsi .str (dOp drIx (dVar 1) (dC (dI 0)))))) (dTst (dOp drNe (dOp drIx (dVar 1) (dC (dI 0))) (dC (dS "ask")))))) (dRet (dC (dB false))) (dNext)) (dRet (dAndV (dCall Tare_two_named (dCons (dVar 0) (dCons (dOp drIx (dVar 1) (dC (dI 1))) (dCons (dOp drIx (dVar 1) (dC (dI 2))) (dNil))))) (dAndV (dIsi .tup (dOp drIx (dVar 1) (dC (dI 3)))) (dIsi .tup (dOp drIx (dVar 1) (dC (dI 4)))))))
theorem Sfits_choice : FnScope ["named", "value"] ["named", "value"] (defScope (top 24)) := ⟨rfl, rfl, rfl, by decide +kernel, rfl, by decide +kernel, by decide +kernel⟩
theorem Dfits_choice {P : Program} {w : World} {K : PySem.W.Frag} {mg : Str → Option Value} {base : Heap} (F : Fc K mg) (ois_tuple_of : Ok P w K mg base "is_tuple_of" ["value", "low", "high"] 1 Tis_tuple_of) (oare_two_named : Ok P w K mg base "are_two_named" ["named", "one", "other"] 2 Tare_two_named) {T : DRs} (hlen : ∀ ds Q, T ds Q → ds.length = 2) (hT : ∀ ds Q, T ds Q → Bfits_choice { nx := fun _ => Q dN, rt := Q } (dstart ["named", "value"] ds)) : Ok P w K mg base "fits_choice" ["named", "value"] (2 + 1) T :=
  ok_fn F 13 (j := 24) rfl Sfits_choice T (Bfits_choice) hlen hT (fun _ _ _ _ _ _ us hl => match us, hl with | [_, _], _ => rfl) fun f cdv A outer s H E hr => dss_cons (ds_if (dt_w (dw_or (dt_not (dt_val (ok_call ois_tuple_of hr (by decide) rfl (da_cons (dv 1) (da_cons (de_int) (da_cons (de_int) (da_nil))))))) (dw_or (dt_not (dt_val (de_isi .str rfl F.free_isinstance rfl F.free_str boot_str (de_ix (xd_ix hr.units) (dv 1) (de_int) (fun _ _ => rfl))))) (dw_or1 (dt_cmp (od_ne hr.units) (de_ix (xd_ix hr.units) (dv 1) (de_int) (fun _ _ => rfl)) (de_str) (nomark _)))))) (dss_one (ds_ret (de_bl))) (dss_nil)) (dss_one (ds_ret (de_and (ok_call oare_two_named hr (by decide) rfl (da_cons (dv 0) (da_cons (de_ix (xd_ix hr.units) (dv 1) (de_int) (fun _ _ => rfl)) (da_cons (de_ix (xd_ix hr.units) (dv 1) (de_int) (fun _ _ => rfl)) (da_nil))))) (de_and (de_isi .tup rfl F.free_isinstance rfl F.free_tuple boot_tuple (de_ix (xd_ix hr.units) (dv 1) (de_int) (fun _ _ => rfl))) (de_one (de_isi .tup rfl F.free_isinstance rfl F.free_tuple boot_tuple (de_ix (xd_ix hr.units) (dv 1) (de_int) (fun _ _ => rfl))))))))
section
variable {P : Program} {w : World} {K : PySem.W.Frag} {mg : Str → Option Value} {base : Heap} (F : Fc K mg)
include F
theorem ok_are_two_named : Ok P w K mg base "are_two_named" ["named", "one", "other"] 2 Tare_two_named := by
  refine Dare_two_named F (ok_is_whole F) (fun ds Q h => ?_) (fun ds Q h => ?_)
  · obtain ⟨c, a, b, rfl, h⟩ := h
    rfl
  · obtain ⟨k, a, b, rfl, ha, hb, hab, h⟩ := h
    simp [Bare_two_named, eN, dstart, dSeq, dRet, dAsg, dPar, dIfS, dDrop, dNext, dVar, dC, dOp, dTst, dAnd, dOr, dNot, dIf, dAndV, dOrV, dNotV, dChain, dNil, dCons, dTup, dLst, dCall, plains, dIsi, isaP, drI, drI0, drPlus, drIx, drEq, drNe, drIn, drNIn, drIsN, drNotN, drLen, drAll, drSum, drMin, drMax, drTuple, drList, drDict, drInt, drAbs, dIterL, dIterT, dRng1, dRng2, dEnum, Tgt.put, dLc, dLc2, dYes, dInW, dTail, dHead, dRev, dMerge, dNew, dCount, dFor, List.getElem?_cons_zero, List.getElem?_cons_succ, List.map, List.length, List.replicate, List.append, List.cons_append, List.nil_append, List.append_nil, List.set, Option.map, Nat.sub_self, ne_pt, ne_pi, ne_pa, ne_tp, ne_ti, ne_ta, ne_ip, ne_it, ne_ia, ne_ap, ne_at, ne_ai, ne_kt, ne_kp, ne_pk, ne_pu, ne_uk, ne_up, okd_int, okd_bl, okd_pairs, okd_takes, okd_tie, okd_ask, okd_know, okd_part, okd_turn, tkey_ii, eqv_int, eqv_str, atI_0, atI_1, atI_2, atI_3, atI_4, ci, eqv_bl, lay_ii, atI_5]
    refine ⟨a, 0, (k : Int) - 1, rfl, ?_⟩
    have e1 : (decide ((0 : Int) ≤ a) && decide ((a : Int) ≤ (k : Int) - 1)) = true := by simp; omega
    simp only [e1]
    refine ⟨b, 0, (k : Int) - 1, rfl, ?_⟩
    have e2 : (decide ((0 : Int) ≤ b) && decide ((b : Int) ≤ (k : Int) - 1)) = true := by simp; omega
    simp only [e2]
    simp [hab]
    exact h
theorem ok_are_answers : Ok P w K mg base "are_answers" ["value", "many"] 3 Tare_answers := by
  refine Dare_answers F (ok_is_tuple_of F) (ok_are_whole F) (fun ds Q h => ?_) (fun ds Q h => ?_)
  · obtain ⟨c, a, rfl, h⟩ := h
    rfl
  · obtain ⟨l, m, rfl, hl, hm, h⟩ := h
    simp [Bare_answers, eN, eBits, dstart, dSeq, dRet, dAsg, dPar, dIfS, dDrop, dNext, dVar, dC, dOp, dTst, dAnd, dOr, dNot, dIf, dAndV, dOrV, dNotV, dChain, dNil, dCons, dTup, dLst, dCall, plains, dIsi, isaP, drI, drI0, drPlus, drIx, drEq, drNe, drIn, drNIn, drIsN, drNotN, drLen, drAll, drSum, drMin, drMax, drTuple, drList, drDict, drInt, drAbs, dIterL, dIterT, dRng1, dRng2, dEnum, Tgt.put, dLc, dLc2, dYes, dInW, dTail, dHead, dRev, dMerge, dNew, dCount, dFor, List.getElem?_cons_zero, List.getElem?_cons_succ, List.map, List.length, List.replicate, List.append, List.cons_append, List.nil_append, List.append_nil, List.set, Option.map, Nat.sub_self, ne_pt, ne_pi, ne_pa, ne_tp, ne_ti, ne_ta, ne_ip, ne_it, ne_ia, ne_ap, ne_at, ne_ai, ne_kt, ne_kp, ne_pk, ne_pu, ne_uk, ne_up, okd_int, okd_bl, okd_pairs, okd_takes, okd_tie, okd_ask, okd_know, okd_part, okd_turn, tkey_ii, eqv_int, eqv_str, atI_0, atI_1, atI_2, atI_3, atI_4, ci, eqv_bl, lay_ii, atI_5]
    refine ⟨l.map eBit, m, m, rfl, ?_⟩
    simp [hl]
    have e1 : l.map eBit = (l.map b2I).map PyData.int := by
      rw [List.map_map]
      rfl
    rw [e1]
    refine ⟨l.map b2I, 0, 1, rfl, by simp [hl, hm], ?_⟩
    have e2 : ((l.map b2I).all fun v => decide ((0 : Int) ≤ v) && decide (v ≤ 1)) = true := by
      rw [List.all_map]
      exact List.all_eq_true.mpr fun x _ => by cases x <;> rfl
    rw [e2]
    exact h
theorem ok_fits_deed : Ok P w K mg base "fits_deed" ["named", "value"] 4 Tfits_deed := by
  refine Dfits_deed F (ok_is_tuple_of F) (ok_is_whole F) (ok_are_answers F) (ok_are_two_named F) (fun ds Q h => ?_) (fun ds Q h => ?_)
  · obtain ⟨c, a, rfl, h⟩ := h
    rfl
  · obtain ⟨k, d, rfl, hd, h⟩ := h
    cases d with
    | pairs d l =>
      have hdn : d < k := hd.1
      have hl : l.length = 6 := hd.2
      simp [Bfits_deed, eDeed, eN, dstart, dSeq, dRet, dAsg, dPar, dIfS, dDrop, dNext, dVar, dC, dOp, dTst, dAnd, dOr, dNot, dIf, dAndV, dOrV, dNotV, dChain, dNil, dCons, dTup, dLst, dCall, plains, dIsi, isaP, drI, drI0, drPlus, drIx, drEq, drNe, drIn, drNIn, drIsN, drNotN, drLen, drAll, drSum, drMin, drMax, drTuple, drList, drDict, drInt, drAbs, dIterL, dIterT, dRng1, dRng2, dEnum, Tgt.put, dLc, dLc2, dYes, dInW, dTail, dHead, dRev, dMerge, dNew, dCount, dFor, List.getElem?_cons_zero, List.getElem?_cons_succ, List.map, List.length, List.replicate, List.append, List.cons_append, List.nil_append, List.append_nil, List.set, Option.map, Nat.sub_self, ne_pt, ne_pi, ne_pa, ne_tp, ne_ti, ne_ta, ne_ip, ne_it, ne_ia, ne_ap, ne_at, ne_ai, ne_kt, ne_kp, ne_pk, ne_pu, ne_uk, ne_up, okd_int, okd_bl, okd_pairs, okd_takes, okd_tie, okd_ask, okd_know, okd_part, okd_turn, tkey_ii, eqv_int, eqv_str, atI_0, atI_1, atI_2, atI_3, atI_4, ci, eqv_bl, lay_ii, atI_5]
      refine ⟨_, 3, 4, rfl, ?_⟩
      simp
      refine ⟨d, 0, (k : Int) - 1, rfl, ?_⟩
      have e1 : (decide ((0 : Int) ≤ d) && decide ((d : Int) ≤ (k : Int) - 1)) = true := by simp; omega
      simp only [e1]
      exact ⟨l, 6, rfl, hl, by decide, h⟩
    | takes d o l =>
      have hdn : d < k := hd.1
      have hl : l.length = 4 := hd.2.2.2
      simp [Bfits_deed, eDeed, eN, dstart, dSeq, dRet, dAsg, dPar, dIfS, dDrop, dNext, dVar, dC, dOp, dTst, dAnd, dOr, dNot, dIf, dAndV, dOrV, dNotV, dChain, dNil, dCons, dTup, dLst, dCall, plains, dIsi, isaP, drI, drI0, drPlus, drIx, drEq, drNe, drIn, drNIn, drIsN, drNotN, drLen, drAll, drSum, drMin, drMax, drTuple, drList, drDict, drInt, drAbs, dIterL, dIterT, dRng1, dRng2, dEnum, Tgt.put, dLc, dLc2, dYes, dInW, dTail, dHead, dRev, dMerge, dNew, dCount, dFor, List.getElem?_cons_zero, List.getElem?_cons_succ, List.map, List.length, List.replicate, List.append, List.cons_append, List.nil_append, List.append_nil, List.set, Option.map, Nat.sub_self, ne_pt, ne_pi, ne_pa, ne_tp, ne_ti, ne_ta, ne_ip, ne_it, ne_ia, ne_ap, ne_at, ne_ai, ne_kt, ne_kp, ne_pk, ne_pu, ne_uk, ne_up, okd_int, okd_bl, okd_pairs, okd_takes, okd_tie, okd_ask, okd_know, okd_part, okd_turn, tkey_ii, eqv_int, eqv_str, atI_0, atI_1, atI_2, atI_3, atI_4, ci, eqv_bl, lay_ii, atI_5]
      refine ⟨_, 3, 4, rfl, ?_⟩
      simp
      refine ⟨k, d, o, rfl, hdn, hd.2.1, hd.2.2.1, ?_⟩
      simp
      exact ⟨l, 4, rfl, hl, by decide, h⟩
    | tie d o w =>
      have hdn : d < k := hd.1
      simp [Bfits_deed, eDeed, eN, dstart, dSeq, dRet, dAsg, dPar, dIfS, dDrop, dNext, dVar, dC, dOp, dTst, dAnd, dOr, dNot, dIf, dAndV, dOrV, dNotV, dChain, dNil, dCons, dTup, dLst, dCall, plains, dIsi, isaP, drI, drI0, drPlus, drIx, drEq, drNe, drIn, drNIn, drIsN, drNotN, drLen, drAll, drSum, drMin, drMax, drTuple, drList, drDict, drInt, drAbs, dIterL, dIterT, dRng1, dRng2, dEnum, Tgt.put, dLc, dLc2, dYes, dInW, dTail, dHead, dRev, dMerge, dNew, dCount, dFor, List.getElem?_cons_zero, List.getElem?_cons_succ, List.map, List.length, List.replicate, List.append, List.cons_append, List.nil_append, List.append_nil, List.set, Option.map, Nat.sub_self, ne_pt, ne_pi, ne_pa, ne_tp, ne_ti, ne_ta, ne_ip, ne_it, ne_ia, ne_ap, ne_at, ne_ai, ne_kt, ne_kp, ne_pk, ne_pu, ne_uk, ne_up, okd_int, okd_bl, okd_pairs, okd_takes, okd_tie, okd_ask, okd_know, okd_part, okd_turn, tkey_ii, eqv_int, eqv_str, atI_0, atI_1, atI_2, atI_3, atI_4, ci, eqv_bl, lay_ii, atI_5]
      refine ⟨_, 3, 4, rfl, ?_⟩
      simp
      refine ⟨k, d, o, rfl, hdn, hd.2.1, hd.2.2, ?_⟩
      cases w <;> simp [Wd.nm, h]
theorem ok_fits_choice : Ok P w K mg base "fits_choice" ["named", "value"] 3 Tfits_choice := by
  refine Dfits_choice F (ok_is_tuple_of F) (ok_are_two_named F) (fun ds Q h => ?_) (fun ds Q h => ?_)
  · obtain ⟨c, a, rfl, h⟩ := h
    rfl
  · obtain ⟨k, i, rfl, hi, h⟩ := h
    cases i with
    | deed d =>
      have h' : Q (dB false) := h
      cases d <;> (simp [Bfits_choice, eIt, eDeed, eN, dstart, dSeq, dRet, dAsg, dPar, dIfS, dDrop, dNext, dVar, dC, dOp, dTst, dAnd, dOr, dNot, dIf, dAndV, dOrV, dNotV, dChain, dNil, dCons, dTup, dLst, dCall, plains, dIsi, isaP, drI, drI0, drPlus, drIx, drEq, drNe, drIn, drNIn, drIsN, drNotN, drLen, drAll, drSum, drMin, drMax, drTuple, drList, drDict, drInt, drAbs, dIterL, dIterT, dRng1, dRng2, dEnum, Tgt.put, dLc, dLc2, dYes, dInW, dTail, dHead, dRev, dMerge, dNew, dCount, dFor, List.getElem?_cons_zero, List.getElem?_cons_succ, List.map, List.length, List.replicate, List.append, List.cons_append, List.nil_append, List.append_nil, List.set, Option.map, Nat.sub_self, ne_pt, ne_pi, ne_pa, ne_tp, ne_ti, ne_ta, ne_ip, ne_it, ne_ia, ne_ap, ne_at, ne_ai, ne_kt, ne_kp, ne_pk, ne_pu, ne_uk, ne_up, okd_int, okd_bl, okd_pairs, okd_takes, okd_tie, okd_ask, okd_know, okd_part, okd_turn, tkey_ii, eqv_int, eqv_str, atI_0, atI_1, atI_2, atI_3, atI_4, ci, eqv_bl, lay_ii, atI_5]; refine ⟨_, 5, 5, rfl, ?_⟩; simp; exact h')
    | ask a b y n =>
      have h' : Q (dB true) := h
      simp [Bfits_choice, eIt, eN, eDs, dstart, dSeq, dRet, dAsg, dPar, dIfS, dDrop, dNext, dVar, dC, dOp, dTst, dAnd, dOr, dNot, dIf, dAndV, dOrV, dNotV, dChain, dNil, dCons, dTup, dLst, dCall, plains, dIsi, isaP, drI, drI0, drPlus, drIx, drEq, drNe, drIn, drNIn, drIsN, drNotN, drLen, drAll, drSum, drMin, drMax, drTuple, drList, drDict, drInt, drAbs, dIterL, dIterT, dRng1, dRng2, dEnum, Tgt.put, dLc, dLc2, dYes, dInW, dTail, dHead, dRev, dMerge, dNew, dCount, dFor, List.getElem?_cons_zero, List.getElem?_cons_succ, List.map, List.length, List.replicate, List.append, List.cons_append, List.nil_append, List.append_nil, List.set, Option.map, Nat.sub_self, ne_pt, ne_pi, ne_pa, ne_tp, ne_ti, ne_ta, ne_ip, ne_it, ne_ia, ne_ap, ne_at, ne_ai, ne_kt, ne_kp, ne_pk, ne_pu, ne_uk, ne_up, okd_int, okd_bl, okd_pairs, okd_takes, okd_tie, okd_ask, okd_know, okd_part, okd_turn, tkey_ii, eqv_int, eqv_str, atI_0, atI_1, atI_2, atI_3, atI_4, ci, eqv_bl, lay_ii, atI_5]
      refine ⟨_, 5, 5, rfl, ?_⟩
      simp
      refine ⟨k, a, b, rfl, hi.1, hi.2.1, hi.2.2.1, ?_⟩
      simp
      exact h'
end
end TW
namespace TW
open PySem PySem.Spec PyProof.Rows L2 FL
/-! ### items_in, fits_script .. -/
abbrev Ln := List It1 × Nat
def eLn (x : Ln) : PyData := .tuple [eScr x.1, eN x.2]
def eFd (x : It1 × Nat) : PyData := .tuple [eIt x.1, eN x.2]
def wt (L : List Ln) : Nat := (L.map fun x => sizes x.1).sum
def ms (L : List Ln) : Nat := (L.map fun x => 1 + 2 * sizes x.1).sum
def deeds (s : List It1) : Prop := ∀ i ∈ s, isAsk i = false
def LnOk (k : Nat) (x : Ln) : Prop := (∀ i ∈ x.1, ItOk k i) ∧ (x.2 = 0 ∨ (x.2 = 1 ∧ deeds x.1))
theorem wt_append (a b : List Ln) : wt (a ++ b) = wt a + wt b := by simp [wt]
theorem ms_append (a b : List Ln) : ms (a ++ b) = ms a + ms b := by simp [ms]
theorem wt_cons (a : Ln) (b : List Ln) : wt (a :: b) = sizes a.1 + wt b := by simp [wt]
theorem ms_cons (a : Ln) (b : List Ln) : ms (a :: b) = 1 + 2 * sizes a.1 + ms b := by simp [ms]
def Titems_in : DRs := fun ds Q => ∃ (k : Nat) (s : List It1), ds = [.d (eN k), .d (eScr s)] ∧ (∀ i ∈ s, ItOk k i) ∧ sizes s ≤ 30 ∧ ∀ l : List (It1 × Nat), (∀ x ∈ l, x.2 ≤ 1) → l.length ≤ 30 → Q (.d (.list (l.map eFd)))
def Tfits_script : DRs := fun ds Q => ∃ (k : Nat) (s : List It1), ds = [.d (eN k), .d (eScr s)] ∧ (∀ i ∈ s, ItOk k i) ∧ sizes s ≤ 30 ∧ Q (dB true)
def StOk (k : Nat) (st : List (List It1)) : Prop := 1 ≤ st.length ∧ st.length ≤ 6 ∧ ∀ s ∈ st, (∀ i ∈ s, ItOk k i) ∧ sizes s ≤ 30
def eSt (st : List (List It1)) : PyData := .tuple (st.map eScr)
def Tfits_stock : DRs := fun ds Q => ∃ (k : Nat) (st : List (List It1)), ds = [.d (eN k), .d (eSt st)] ∧ StOk k st ∧ Q (dB true)
def Tneed_stock : DRs := fun ds Q => ∃ (k : Nat) (st : List (List It1)), ds = [.d (eN k), .d (eSt st)] ∧ StOk k st ∧ Q dN
def Tneed_one_or_two : DRs := fun ds Q => ∃ k : Nat, ds = [.d (eN k)] ∧ 1 ≤ k ∧ k ≤ 2 ∧ Q dN
def Bitems_in : DTS := dSeq (dPar 2 3 (dLst (dNil)) (dLst (dCons (dTup (dCons (dVar 1) (dCons (dC (dI 0)) (dNil)))) (dNil)))) (dSeq (dWhile (dTst (dOp drNe (dVar 3) (dLst (dNil)))) (dSeq (dAsg (dTup (dCons (dOp drIx (dVar 3) (dC (dI 0))) (dCons (dTail 1 (dVar 3)) (dNil)))) (.two (.two (.nm 4) (.nm 5)) (.nm 3))) (dSeq (dAsg (dOp drPlus (dVar 2) (dLc (dIterT (dVar 4)) (.nm 6) (dYes) (dTup (dCons (dVar 6) (dCons (dVar 5) (dNil)))) [6])) (.nm 2)) (dSeq (dIfS (dTst (dOp drGt (dCall drLen (dCons (dVar 2) (dNil))) (dC (dI 30)))) (dRet (dC dN)) (dNext)) (dFor (dIterT (dVar 4)) (.nm 6) (dIfS (dTst (dCall Tfits_choice (dCons (dVar 0) (dCons (dVar 6) (dNil))))) (dAsg (dOp drPlus (dVar 3) (dLst (dCons (dTup (dCons (dOp drIx (dVar 6) (dC (dI 3))) (dCons (dOp drPlus (dVar 5) (dC (dI 1))) (dNil)))) (dCons (dTup (dCons (dOp drIx (dVar 6) (dC (dI 4))) (dCons (dOp drPlus (dVar 5) (dC (dI 1))) (dNil)))) (dNil))))) (.nm 3)) (dIfS (dNot (dTst (dCall Tfits_deed (dCons (dVar 0) (dCons (dVar 6) (dNil)))))) (dRet (dC dN)) (dNext)))))))) (dRet (dVar 2)))
theorem Sitems_in : FnScope ["named", "value", "found", "line", "script", "depth", "item"] ["named", "value"] (defScope (top 25)) := ⟨rfl, rfl, rfl, by decide +kernel, rfl, by decide +kernel, by decide +kernel⟩
theorem Ditems_in {P : Program} {w : World} {K : PySem.W.Frag} {mg : Str → Option Value} {base : Heap} (F : Fc K mg) (ofits_choice : Ok P w K mg base "fits_choice" ["named", "value"] 3 Tfits_choice) (ofits_deed : Ok P w K mg base "fits_deed" ["named", "value"] 4 Tfits_deed) {T : DRs} (hlen : ∀ ds Q, T ds Q → ds.length = 2) (hT : ∀ ds Q, T ds Q → Bitems_in { nx := fun _ => Q dN, rt := Q } (dstart ["named", "value", "found", "line", "script", "depth", "item"] ds)) : Ok P w K mg base "items_in" ["named", "value"] (4 + 1) T :=
  ok_fn F 14 (j := 25) rfl Sitems_in T (Bitems_in) hlen hT (fun _ _ _ _ _ _ us hl => match us, hl with | [_, _], _ => rfl) fun f cdv A outer s H E hr => dss_cons (ds_par (i := 2) (j := 3) rfl Sitems_in.nd rfl rfl (by decide) rfl rfl (de_lst (da_nil)) (de_lst (da_cons (de_tup (da_cons (dv 1) (da_cons (de_int) (da_nil)))) (da_nil))) rfl) (dss_cons (ds_while PassesOwn.never (dt_cmp (od_ne hr.units) (dv 3) (de_lst (da_nil)) (nomark _)) (dss_cons (ds_asg (de_tup (da_cons (de_ix (xd_ix hr.units) (dv 3) (de_int) (fun _ _ => rfl)) (da_cons (de_tail (k := 1) (dv 3)) (da_nil)))) (pg_two rfl (pg_two rfl (pg_nm (i := 4) Sitems_in.nd rfl (by first | exact .inl rfl | exact .inr rfl)) (pg_nm (i := 5) Sitems_in.nd rfl (by first | exact .inl rfl | exact .inr rfl))) (pg_nm (i := 3) Sitems_in.nd rfl (by first | exact .inl rfl | exact .inr rfl)))) (dss_cons (ds_set (i := 2) Sitems_in.nd rfl (by first | exact .inl rfl | exact .inr rfl) (de_bin od_plus (dv 2) (de_lc rfl Sitems_in.nd (di_tup (dv 4)) (own := [("item", 6)]) (blkOk_by (by kernel_rfl)) (fun _ _ _ _ _ => pg_nm (i := 6) Sitems_in.nd rfl (by first | exact .inl rfl | exact .inr rfl)) (fun _ _ _ _ _ => dts_nil) (fun _ _ _ _ _ => de_tup (da_cons (dv 6) (da_cons (dv 5) (da_nil))))))) (dss_cons (ds_if (dt_cmp od_gt (de_callB cd_len rfl F.free_len boot_len (da_cons (dv 2) (da_nil))) (F.int_ITEMS rfl) (nomark _)) (dss_one (ds_ret (de_non))) (dss_nil)) (dss_one (ds_for PassesOwn.never rfl (di_tup (dv 4)) (pg_nm (i := 6) Sitems_in.nd rfl (by first | exact .inl rfl | exact .inr rfl)) (dss_one (ds_if (dt_val (ok_call ofits_choice hr (by decide) rfl (da_cons (dv 0) (da_cons (dv 6) (da_nil))))) (dss_one (ds_set (i := 3) Sitems_in.nd rfl (by first | exact .inl rfl | exact .inr rfl) (de_bin od_plus (dv 3) (de_lst (da_cons (de_tup (da_cons (de_ix (xd_ix hr.units) (dv 6) (de_int) (fun _ _ => rfl)) (da_cons (de_bin od_plus (dv 5) (de_int)) (da_nil)))) (da_cons (de_tup (da_cons (de_ix (xd_ix hr.units) (dv 6) (de_int) (fun _ _ => rfl)) (da_cons (de_bin od_plus (dv 5) (de_int)) (da_nil)))) (da_nil))))))) (dss_one (ds_if (dt_not (dt_val (ok_call ofits_deed hr (by decide) rfl (da_cons (dv 0) (da_cons (dv 6) (da_nil)))))) (dss_one (ds_ret (de_non))) (dss_nil))))))))))) (dss_one (ds_ret (dv 2))))
def Bfits_script : DTS := dSeq (dAsg (dIf (dTst (dIsi .tup (dVar 1))) (dCall Titems_in (dCons (dVar 0) (dCons (dVar 1) (dNil)))) (dC dN)) (.nm 2)) (dSeq (dIfS (dTst (dOp drIsN (dVar 2) (dC dN))) (dRet (dC (dB false))) (dNext)) (dRet (dCall drAll (dCons (dLc (dIterL (dVar 2)) (.two (.nm 3) (.nm 4)) (dTst (dOp drEq (dOp drIx (dVar 3) (dC (dI 0))) (dC (dS "ask")))) (dOp drLt (dVar 4) (dC (dI 4))) [3, 4]) (dNil)))))
theorem Sfits_script : FnScope ["named", "value", "items", "item", "depth"] ["named", "value"] (defScope (top 26)) := ⟨rfl, rfl, rfl, by decide +kernel, rfl, by decide +kernel, by decide +kernel⟩
theorem Dfits_script {P : Program} {w : World} {K : PySem.W.Frag} {mg : Str → Option Value} {base : Heap} (F : Fc K mg) (oitems_in : Ok P w K mg base "items_in" ["named", "value"] 5 Titems_in) {T : DRs} (hlen : ∀ ds Q, T ds Q → ds.length = 2) (hT : ∀ ds Q, T ds Q → Bfits_script { nx := fun _ => Q dN, rt := Q } (dstart ["named", "value", "items", "item", "depth"] ds)) : Ok P w K mg base "fits_script" ["named", "value"] (5 + 1) T :=
  ok_fn F 15 (j := 26) rfl Sfits_script T (Bfits_script) hlen hT (fun _ _ _ _ _ _ us hl => match us, hl with | [_, _], _ => rfl) fun f cdv A outer s H E hr => dss_cons (ds_set (i := 2) Sfits_script.nd rfl (by first | exact .inl rfl | exact .inr rfl) (de_if (dt_val (de_isi .tup rfl F.free_isinstance rfl F.free_tuple boot_tuple (dv 1))) (ok_call oitems_in hr (by decide) rfl (da_cons (dv 0) (da_cons (dv 1) (da_nil)))) (de_non))) (dss_cons (ds_if (dt_cmp od_isN (dv 2) (de_non) (nomark _)) (dss_one (ds_ret (de_bl))) (dss_nil)) (dss_one (ds_ret (de_callB (cd_all rfl) rfl F.free_all boot_all (da_cons (de_lc rfl Sfits_script.nd (di_list (dv 2)) (own := [("item", 3), ("depth", 4)]) (blkOk_by (by kernel_rfl)) (fun _ _ _ _ _ => pg_two rfl (pg_nm (i := 3) Sfits_script.nd rfl (by first | exact .inl rfl | exact .inr rfl)) (pg_nm (i := 4) Sfits_script.nd rfl (by first | exact .inl rfl | exact .inr rfl))) (fun _ _ _ _ _ => dts_one (dt_cmp (od_eq hr.units) (de_ix (xd_ix hr.units) (dv 3) (de_int) (fun _ _ => rfl)) (de_str) (nomark _))) (fun _ _ _ _ _ => de_cmp od_lt (dv 4) (F.int_DEEPEST rfl) (nomark _))) (da_nil))))))
def Bfits_stock : DTS := dRet (dAndV (dCall Tis_tuple_of (dCons (dVar 1) (dCons (dC (dI 1)) (dCons (dC (dI 6)) (dNil))))) (dCall drAll (dCons (dLc (dIterT (dVar 1)) (.nm 2) (dYes) (dCall Tfits_script (dCons (dVar 0) (dCons (dVar 2) (dNil)))) [2]) (dNil))))
theorem Sfits_stock : FnScope ["named", "value", "script"] ["named", "value"] (defScope (top 29)) := ⟨rfl, rfl, rfl, by decide +kernel, rfl, by decide +kernel, by decide +kernel⟩
theorem Dfits_stock {P : Program} {w : World} {K : PySem.W.Frag} {mg : Str → Option Value} {base : Heap} (F : Fc K mg) (ois_tuple_of : Ok P w K mg base "is_tuple_of" ["value", "low", "high"] 1 Tis_tuple_of) (ofits_script : Ok P w K mg base "fits_script" ["named", "value"] 6 Tfits_script) {T : DRs} (hlen : ∀ ds Q, T ds Q → ds.length = 2) (hT : ∀ ds Q, T ds Q → Bfits_stock { nx := fun _ => Q dN, rt := Q } (dstart ["named", "value", "script"] ds)) : Ok P w K mg base "fits_stock" ["named", "value"] (6 + 1) T :=
  ok_fn F 16 (j := 29) rfl Sfits_stock T (Bfits_stock) hlen hT (fun _ _ _ _ _ _ us hl => match us, hl with | [_, _], _ => rfl) fun f cdv A outer s H E hr => dss_one (ds_ret (de_and (ok_call ois_tuple_of hr (by decide) rfl (da_cons (dv 1) (da_cons (de_int) (da_cons (F.int_SCRIPTS rfl) (da_nil))))) (de_one (de_callB (cd_all rfl) rfl F.free_all boot_all (da_cons (de_lc rfl Sfits_stock.nd (di_tup (dv 1)) (own := [("script", 2)]) (blkOk_by (by kernel_rfl)) (fun _ _ _ _ _ => pg_nm (i := 2) Sfits_stock.nd rfl (by first | exact .inl rfl | exact .inr rfl)) (fun _ _ _ _ _ => dts_nil) (fun _ _ _ _ _ => ok_call ofits_script hr (by decide) rfl (da_cons (dv 0) (da_cons (dv 2) (da_nil))))) (da_nil))))))
def Bneed_stock : DTS := dIfS (dNot (dTst (dCall Tfits_stock (dCons (dVar 0) (dCons (dVar 1) (dNil)))))) (dNever) (dNext)
theorem Sneed_stock : FnScope ["named", "value"] ["named", "value"] (defScope (top 30)) := ⟨rfl, rfl, rfl, by decide +kernel, rfl, by decide +kernel, by decide +kernel⟩
theorem Dneed_stock {P : Program} {w : World} {K : PySem.W.Frag} {mg : Str → Option Value} {base : Heap} (F : Fc K mg) (ofits_stock : Ok P w K mg base "fits_stock" ["named", "value"] 7 Tfits_stock) {T : DRs} (hlen : ∀ ds Q, T ds Q → ds.length = 2) (hT : ∀ ds Q, T ds Q → Bneed_stock { nx := fun _ => Q dN, rt := Q } (dstart ["named", "value"] ds)) : Ok P w K mg base "need_stock" ["named", "value"] (7 + 1) T :=
  ok_fn F 17 (j := 30) rfl Sneed_stock T (Bneed_stock) hlen hT (fun _ _ _ _ _ _ us hl => match us, hl with | [_, _], _ => rfl) fun f cdv A outer s H E hr => dss_one (ds_if (dt_not (dt_val (ok_call ofits_stock hr (by decide) rfl (da_cons (dv 0) (da_cons (dv 1) (da_nil)))))) (dss_never) (dss_nil))
def Bneed_one_or_two : DTS := dIfS (dNot (dTst (dCall Tis_whole (dCons (dVar 0) (dCons (dC (dI 1)) (dCons (dC (dI 2)) (dNil))))))) (dNever) (dNext)
theorem Sneed_one_or_two : FnScope ["value"] ["value"] (defScope (top 42)) := ⟨rfl, rfl, rfl, by decide +kernel, rfl, by decide +kernel, by decide +kernel⟩
theorem Dneed_one_or_two {P : Program} {w : World} {K : PySem.W.Frag} {mg : Str → Option Value} {base : Heap} (F : Fc K mg) (ois_whole : Ok P w K mg base "is_whole" ["value", "low", "high"] 1 Tis_whole) {T : DRs} (hlen : ∀ ds Q, T ds Q → ds.length = 1) (hT : ∀ ds Q, T ds Q → Bneed_one_or_two { nx := fun _ => Q dN, rt := Q } (dstart ["value"] ds)) : Ok P w K mg base "need_one_or_two" ["value"] (1 + 1) T :=
  ok_fn F 24 (j := 42) rfl Sneed_one_or_two T (Bneed_one_or_two) hlen hT (fun _ _ _ _ _ _ us hl => match us, hl with | [_], _ => rfl) fun f cdv A outer s H E hr => dss_one (ds_if (dt_not (dt_val (ok_call ois_whole hr (by decide) rfl (da_cons (dv 0) (da_cons (de_int) (da_cons (F.int_NAMED rfl) (da_nil))))))) (dss_never) (dss_nil))
theorem all_tt {α : Type} (l : List α) : (l.map fun _ => true).all id = true := by
  rw [List.all_map]
  exact List.all_eq_true.mpr fun _ _ => rfl
def Wit (k : Nat) (s : List It1) (m : Nat) (δ : DEnv) : Prop := ∃ (f : List (It1 × Nat)) (L : List Ln) (x y z : Option FL.D), δ = [some (.d (eN k)), some (.d (eScr s)), some (.d (.list (f.map eFd))), some (.d (.list (L.map eLn))), x, y, z] ∧
  (∀ x ∈ f, x.2 ≤ 1) ∧ (∀ x ∈ L, LnOk k x) ∧ m = ms L ∧ f.length + wt L ≤ 30 ∧ m ≤ 61
def Iit (k : Nat) (s : List It1) (f : List (It1 × Nat)) (m d : Nat) (r : List It1) (δ : DEnv) : Prop := ∃ (L : List Ln) (x z : Option FL.D), δ = [some (.d (eN k)), some (.d (eScr s)), some (.d (.list (f.map eFd))), some (.d (.list (L.map eLn))), x, some (.d (eN d)), z] ∧
  (∀ x ∈ L, LnOk k x) ∧ ms L + 2 * sizes r ≤ m ∧ f.length + wt L + sizes r ≤ 30 + r.length ∧ (∀ i ∈ r, ItOk k i) ∧ (d = 0 ∨ (d = 1 ∧ deeds r))
section
variable {P : Program} {w : World} {K : PySem.W.Frag} {mg : Str → Option Value} {base : Heap} (F : Fc K mg)
include F
theorem ok_items_in : Ok P w K mg base "items_in" ["named", "value"] 5 Titems_in := by
  refine Ditems_in F (ok_fits_choice F) (ok_fits_deed F) (fun ds Q h => ?_) (fun ds Q h => ?_)
  · obtain ⟨c, a, rfl, h⟩ := h
    rfl
  · obtain ⟨k, s, rfl, hs, hz, h⟩ := h
    simp [Bitems_in, dstart, dSeq, dRet, dAsg, dPar, dIfS, dDrop, dNext, dVar, dC, dOp, dTst, dAnd, dOr, dNot, dIf, dAndV, dOrV, dNotV, dChain, dNil, dCons, dTup, dLst, dCall, plains, dIsi, isaP, drI, drI0, drPlus, drIx, drEq, drNe, drIn, drNIn, drIsN, drNotN, drLen, drAll, drSum, drMin, drMax, drTuple, drList, drDict, drInt, drAbs, dIterL, dIterT, dRng1, dRng2, dEnum, Tgt.put, dLc, dLc2, dYes, dInW, dTail, dHead, dRev, dMerge, dNew, dCount, dFor, List.getElem?_cons_zero, List.getElem?_cons_succ, List.map, List.length, List.replicate, List.append, List.cons_append, List.nil_append, List.append_nil, List.set, Option.map, Nat.sub_self, ne_pt, ne_pi, ne_pa, ne_tp, ne_ti, ne_ta, ne_ip, ne_it, ne_ia, ne_ap, ne_at, ne_ai, ne_kt, ne_kp, ne_pk, ne_pu, ne_uk, ne_up, okd_int, okd_bl, okd_pairs, okd_takes, okd_tie, okd_ask, okd_know, okd_part, okd_turn, tkey_ii, eqv_int, eqv_str, atI_0, atI_1, atI_2, atI_3, atI_4, ci, eqv_bl, lay_ii, atI_5]
    refine ⟨Wit k s, ⟨_, [], [(s, 0)], none, none, none, rfl, by simp, by intro x hx; simp at hx; subst hx; exact ⟨hs, .inl rfl⟩, rfl, by simpa [wt] using hz, by simp [ms]; omega⟩, ?_⟩
    rintro m _ ⟨f, L, x, y, z, rfl, hf, hL, rfl, hw, hm⟩
    have hbig := big_line
    have okl : okd (.list (L.map eLn)) := (sh_lst (shAll_map fun i _ => (show Sh 6 (eLn i) from sh_tup (shAll_cons (sh_tup (shAll_map fun i _ => sh_it i)) (shAll_cons (sh_int _) shAll_nil))))).okd
    have oke : okd (.list []) := (sh_lst (shAll_nil (k := 0))).okd
    simp [dstart, dSeq, dRet, dAsg, dPar, dIfS, dDrop, dNext, dVar, dC, dOp, dTst, dAnd, dOr, dNot, dIf, dAndV, dOrV, dNotV, dChain, dNil, dCons, dTup, dLst, dCall, plains, dIsi, isaP, drI, drI0, drPlus, drIx, drEq, drNe, drIn, drNIn, drIsN, drNotN, drLen, drAll, drSum, drMin, drMax, drTuple, drList, drDict, drInt, drAbs, dIterL, dIterT, dRng1, dRng2, dEnum, Tgt.put, dLc, dLc2, dYes, dInW, dTail, dHead, dRev, dMerge, dNew, dCount, dFor, List.getElem?_cons_zero, List.getElem?_cons_succ, List.map, List.length, List.replicate, List.append, List.cons_append, List.nil_append, List.append_nil, List.set, Option.map, Nat.sub_self, ne_pt, ne_pi, ne_pa, ne_tp, ne_ti, ne_ta, ne_ip, ne_it, ne_ia, ne_ap, ne_at, ne_ai, ne_kt, ne_kp, ne_pk, ne_pu, ne_uk, ne_up, okd_int, okd_bl, okd_pairs, okd_takes, okd_tie, okd_ask, okd_know, okd_part, okd_turn, tkey_ii, eqv_int, eqv_str, atI_0, atI_1, atI_2, atI_3, atI_4, ci, eqv_bl, lay_ii, atI_5]
    refine ⟨okl, oke, ?_⟩
    rw [eqv_empty]
    cases L with
    | nil =>
      simp
      exact h f hf (by simpa [wt] using hw)
    | cons q L =>
      obtain ⟨r, d⟩ := q
      have hq := hL _ List.mem_cons_self
      have hL' := fun j hj => hL j (List.mem_cons_of_mem _ hj)
      rw [wt_cons] at hw
      have hrl := length_sizes r
      have hd1 : d ≤ 1 := by rcases hq.2 with z | z <;> simp at z <;> omega
      simp [eLn, eScr, dstart, dSeq, dRet, dAsg, dPar, dIfS, dDrop, dNext, dVar, dC, dOp, dTst, dAnd, dOr, dNot, dIf, dAndV, dOrV, dNotV, dChain, dNil, dCons, dTup, dLst, dCall, plains, dIsi, isaP, drI, drI0, drPlus, drIx, drEq, drNe, drIn, drNIn, drIsN, drNotN, drLen, drAll, drSum, drMin, drMax, drTuple, drList, drDict, drInt, drAbs, dIterL, dIterT, dRng1, dRng2, dEnum, Tgt.put, dLc, dLc2, dYes, dInW, dTail, dHead, dRev, dMerge, dNew, dCount, dFor, List.getElem?_cons_zero, List.getElem?_cons_succ, List.map, List.length, List.replicate, List.append, List.cons_append, List.nil_append, List.append_nil, List.set, Option.map, Nat.sub_self, ne_pt, ne_pi, ne_pa, ne_tp, ne_ti, ne_ta, ne_ip, ne_it, ne_ia, ne_ap, ne_at, ne_ai, ne_kt, ne_kp, ne_pk, ne_pu, ne_uk, ne_up, okd_int, okd_bl, okd_pairs, okd_takes, okd_tie, okd_ask, okd_know, okd_part, okd_turn, tkey_ii, eqv_int, eqv_str, atI_0, atI_1, atI_2, atI_3, atI_4, ci, eqv_bl, lay_ii, atI_5]
      simp [Function.comp_def]
      have e0 : sizes (r, d).1 = sizes r := rfl
      rw [e0] at hw
      refine dGo_map (fun i => .d (eIt i)) (fun i => eFd (i, d)) r [] _ (by simp; omega) (fun i hi acc R ha hR => ?_) ?_
      · simp [dStep, dwipe, dstart, dSeq, dRet, dAsg, dPar, dIfS, dDrop, dNext, dVar, dC, dOp, dTst, dAnd, dOr, dNot, dIf, dAndV, dOrV, dNotV, dChain, dNil, dCons, dTup, dLst, dCall, plains, dIsi, isaP, drI, drI0, drPlus, drIx, drEq, drNe, drIn, drNIn, drIsN, drNotN, drLen, drAll, drSum, drMin, drMax, drTuple, drList, drDict, drInt, drAbs, dIterL, dIterT, dRng1, dRng2, dEnum, Tgt.put, dLc, dLc2, dYes, dInW, dTail, dHead, dRev, dMerge, dNew, dCount, dFor, List.getElem?_cons_zero, List.getElem?_cons_succ, List.map, List.length, List.replicate, List.append, List.cons_append, List.nil_append, List.append_nil, List.set, Option.map, Nat.sub_self, ne_pt, ne_pi, ne_pa, ne_tp, ne_ti, ne_ta, ne_ip, ne_it, ne_ia, ne_ap, ne_at, ne_ai, ne_kt, ne_kp, ne_pk, ne_pu, ne_uk, ne_up, okd_int, okd_bl, okd_pairs, okd_takes, okd_tie, okd_ask, okd_know, okd_part, okd_turn, tkey_ii, eqv_int, eqv_str, atI_0, atI_1, atI_2, atI_3, atI_4, ci, eqv_bl, lay_ii, atI_5]
        exact ⟨ha, hR⟩
      rw [List.nil_append]
      refine ⟨by simp; omega, ?_⟩
      rw [if_neg (by simp; omega)]
      have e1 : List.map eFd f ++ List.map (fun i => eFd (i, d)) r = List.map eFd (f ++ r.map fun i => (i, d)) := by
        rw [List.map_append, List.map_map]
        rfl
      rw [e1]
      have hf' : ∀ x ∈ f ++ r.map (fun i => (i, d)), x.2 ≤ 1 := by
        intro x hx
        rcases List.mem_append.mp hx with z | z
        · exact hf x z
        · obtain ⟨i, _, rfl⟩ := List.mem_map.mp z
          exact hd1
      have hfl : (f ++ r.map fun i => (i, d)).length = f.length + r.length := by simp
      refine dLoop_inv (fun i => .d (eIt i)) (Iit k s (f ++ r.map fun i => (i, d)) (ms L + 2 * sizes r) d) r _ ⟨L, _, _, rfl, hL', Nat.le_refl _, by omega, hq.1, hq.2⟩ ?_ ?_
      · rintro i r' _ hsub ⟨L2, x2, z2, rfl, h1, h2, h3, h4, h5⟩ N hN
        rw [sizes_cons] at h2 h3
        have hik := h4 i List.mem_cons_self
        simp [dstart, dSeq, dRet, dAsg, dPar, dIfS, dDrop, dNext, dVar, dC, dOp, dTst, dAnd, dOr, dNot, dIf, dAndV, dOrV, dNotV, dChain, dNil, dCons, dTup, dLst, dCall, plains, dIsi, isaP, drI, drI0, drPlus, drIx, drEq, drNe, drIn, drNIn, drIsN, drNotN, drLen, drAll, drSum, drMin, drMax, drTuple, drList, drDict, drInt, drAbs, dIterL, dIterT, dRng1, dRng2, dEnum, Tgt.put, dLc, dLc2, dYes, dInW, dTail, dHead, dRev, dMerge, dNew, dCount, dFor, List.getElem?_cons_zero, List.getElem?_cons_succ, List.map, List.length, List.replicate, List.append, List.cons_append, List.nil_append, List.append_nil, List.set, Option.map, Nat.sub_self, ne_pt, ne_pi, ne_pa, ne_tp, ne_ti, ne_ta, ne_ip, ne_it, ne_ia, ne_ap, ne_at, ne_ai, ne_kt, ne_kp, ne_pk, ne_pu, ne_uk, ne_up, okd_int, okd_bl, okd_pairs, okd_takes, okd_tie, okd_ask, okd_know, okd_part, okd_turn, tkey_ii, eqv_int, eqv_str, atI_0, atI_1, atI_2, atI_3, atI_4, ci, eqv_bl, lay_ii, atI_5]
        refine ⟨k, i, rfl, hik, ?_⟩
        have h5' : d = 0 ∨ (d = 1 ∧ deeds r') := h5.imp id fun z => ⟨z.1, fun j hj => z.2 j (List.mem_cons_of_mem _ hj)⟩
        have h4' := fun j hj => h4 j (List.mem_cons_of_mem _ hj)
        cases i with
        | deed dd =>
          have e2 : It1.siz (.deed dd) = 1 := rfl
          simp [isAsk]
          refine ⟨k, dd, rfl, hik, ?_⟩
          simp
          exact hN _ ⟨L2, x2, some (.d (eIt (.deed dd))), by rw [List.map_append, List.map_map], h1, by omega, by simp at h3 ⊢; omega, h4', h5'⟩
        | ask a b y n =>
          have e2 : It1.siz (.ask a b y n) = 1 + y.length + n.length := rfl
          have hd0 : d = 0 := by
            rcases h5 with z | z
            · exact z
            · exact absurd (z.2 _ List.mem_cons_self) (by simp [isAsk])
          have hll : L2.length ≤ 1000000 - 2 := by
            have : ∀ L : List Ln, L.length ≤ ms L := by
              intro L
              induction L with
              | nil => exact Nat.zero_le _
              | cons q L ih => rw [ms_cons, List.length_cons]; omega
            have h8 := this L2
            have h9 : ms ((r, d) :: L) = 1 + 2 * sizes r + ms L := ms_cons _ _
            omega
          subst hd0
          simp [isAsk, eIt, eN, dstart, dSeq, dRet, dAsg, dPar, dIfS, dDrop, dNext, dVar, dC, dOp, dTst, dAnd, dOr, dNot, dIf, dAndV, dOrV, dNotV, dChain, dNil, dCons, dTup, dLst, dCall, plains, dIsi, isaP, drI, drI0, drPlus, drIx, drEq, drNe, drIn, drNIn, drIsN, drNotN, drLen, drAll, drSum, drMin, drMax, drTuple, drList, drDict, drInt, drAbs, dIterL, dIterT, dRng1, dRng2, dEnum, Tgt.put, dLc, dLc2, dYes, dInW, dTail, dHead, dRev, dMerge, dNew, dCount, dFor, List.getElem?_cons_zero, List.getElem?_cons_succ, List.map, List.length, List.replicate, List.append, List.cons_append, List.nil_append, List.append_nil, List.set, Option.map, Nat.sub_self, ne_pt, ne_pi, ne_pa, ne_tp, ne_ti, ne_ta, ne_ip, ne_it, ne_ia, ne_ap, ne_at, ne_ai, ne_kt, ne_kp, ne_pk, ne_pu, ne_uk, ne_up, okd_int, okd_bl, okd_pairs, okd_takes, okd_tie, okd_ask, okd_know, okd_part, okd_turn, tkey_ii, eqv_int, eqv_str, atI_0, atI_1, atI_2, atI_3, atI_4, ci, eqv_bl, lay_ii, atI_5]
          refine ⟨by omega, hN _ ⟨L2 ++ [(y.map It1.deed, 1), (n.map It1.deed, 1)], x2, some (.d (eIt (.ask a b y n))), ?_, ?_, ?_, ?_, h4', h5'⟩⟩
          · simp [eLn, eScr, eDs, eN, eIt, Function.comp_def]
          · intro q hq
            rcases List.mem_append.mp hq with z | z
            · exact h1 q z
            · simp at z
              rcases z with rfl | rfl
              · exact ⟨fun j hj => by obtain ⟨e, he, rfl⟩ := List.mem_map.mp hj; exact hik.2.2.2.1 e he, .inr ⟨rfl, fun j hj => by obtain ⟨e, he, rfl⟩ := List.mem_map.mp hj; rfl⟩⟩
              · exact ⟨fun j hj => by obtain ⟨e, he, rfl⟩ := List.mem_map.mp hj; exact hik.2.2.2.2 e he, .inr ⟨rfl, fun j hj => by obtain ⟨e, he, rfl⟩ := List.mem_map.mp hj; rfl⟩⟩
          · rw [ms_append, ms_cons, ms_cons, sizes_deeds, sizes_deeds]
            have : ms [] = 0 := rfl
            omega
          · rw [wt_append, wt_cons, wt_cons, sizes_deeds, sizes_deeds]
            have : wt [] = 0 := rfl
            simp at h3 ⊢
            omega
      · rintro _ ⟨L2, x2, z2, rfl, h1, h2, h3, h4, h5⟩
        refine ⟨ms L2, ?_, _, L2, _, _, _, rfl, hf', h1, rfl, ?_⟩
        · rw [ms_cons]
          have : sizes ([] : List It1) = 0 := rfl
          show _ < 1 + 2 * sizes r + _
          omega
        · have e5 : sizes ([] : List It1) = 0 := rfl
          have h9 : ms ((r, d) :: L) = 1 + 2 * sizes r + ms L := ms_cons _ _
          simp at h3 ⊢
          omega
theorem ok_fits_script : Ok P w K mg base "fits_script" ["named", "value"] 6 Tfits_script := by
  refine Dfits_script F (ok_items_in F) (fun ds Q h => ?_) (fun ds Q h => ?_)
  · obtain ⟨c, a, rfl, h⟩ := h
    rfl
  · obtain ⟨k, s, rfl, hs, hz, h⟩ := h
    simp [Bfits_script, eScr, dstart, dSeq, dRet, dAsg, dPar, dIfS, dDrop, dNext, dVar, dC, dOp, dTst, dAnd, dOr, dNot, dIf, dAndV, dOrV, dNotV, dChain, dNil, dCons, dTup, dLst, dCall, plains, dIsi, isaP, drI, drI0, drPlus, drIx, drEq, drNe, drIn, drNIn, drIsN, drNotN, drLen, drAll, drSum, drMin, drMax, drTuple, drList, drDict, drInt, drAbs, dIterL, dIterT, dRng1, dRng2, dEnum, Tgt.put, dLc, dLc2, dYes, dInW, dTail, dHead, dRev, dMerge, dNew, dCount, dFor, List.getElem?_cons_zero, List.getElem?_cons_succ, List.map, List.length, List.replicate, List.append, List.cons_append, List.nil_append, List.append_nil, List.set, Option.map, Nat.sub_self, ne_pt, ne_pi, ne_pa, ne_tp, ne_ti, ne_ta, ne_ip, ne_it, ne_ia, ne_ap, ne_at, ne_ai, ne_kt, ne_kp, ne_pk, ne_pu, ne_uk, ne_up, okd_int, okd_bl, okd_pairs, okd_takes, okd_tie, okd_ask, okd_know, okd_part, okd_turn, tkey_ii, eqv_int, eqv_str, atI_0, atI_1, atI_2, atI_3, atI_4, ci, eqv_bl, lay_ii, atI_5]
    refine ⟨k, s, rfl, hs, hz, fun l hl hl2 => ?_⟩
    simp [Function.comp_def, dstart, dSeq, dRet, dAsg, dPar, dIfS, dDrop, dNext, dVar, dC, dOp, dTst, dAnd, dOr, dNot, dIf, dAndV, dOrV, dNotV, dChain, dNil, dCons, dTup, dLst, dCall, plains, dIsi, isaP, drI, drI0, drPlus, drIx, drEq, drNe, drIn, drNIn, drIsN, drNotN, drLen, drAll, drSum, drMin, drMax, drTuple, drList, drDict, drInt, drAbs, dIterL, dIterT, dRng1, dRng2, dEnum, Tgt.put, dLc, dLc2, dYes, dInW, dTail, dHead, dRev, dMerge, dNew, dCount, dFor, List.getElem?_cons_zero, List.getElem?_cons_succ, List.map, List.length, List.replicate, List.append, List.cons_append, List.nil_append, List.append_nil, List.set, Option.map, Nat.sub_self, ne_pt, ne_pi, ne_pa, ne_tp, ne_ti, ne_ta, ne_ip, ne_it, ne_ia, ne_ap, ne_at, ne_ai, ne_kt, ne_kp, ne_pk, ne_pu, ne_uk, ne_up, okd_int, okd_bl, okd_pairs, okd_takes, okd_tie, okd_ask, okd_know, okd_part, okd_turn, tkey_ii, eqv_int, eqv_str, atI_0, atI_1, atI_2, atI_3, atI_4, ci, eqv_bl, lay_ii, atI_5]
    have hbig := big_line
    refine dGo_fm (fun x : It1 × Nat => .d (eFd x)) (fun x => isAsk x.1) (fun _ => .bool true) l [] _ (by simp; omega) (fun x hx acc R ha hR => ?_) ?_
    · obtain ⟨i, d⟩ := x
      have hd : d ≤ 1 := hl _ hx
      have hd4 : ((d : Int) < 4) = True := eq_true (by omega)
      cases i with
      | deed dd =>
        obtain ⟨x0, r0, e0, ok0, ne0⟩ := deed_head dd
        have hR' : R acc := hR
        simp [dStep, dwipe, eFd, eIt, e0, eN, ok0, ne0, dstart, dSeq, dRet, dAsg, dPar, dIfS, dDrop, dNext, dVar, dC, dOp, dTst, dAnd, dOr, dNot, dIf, dAndV, dOrV, dNotV, dChain, dNil, dCons, dTup, dLst, dCall, plains, dIsi, isaP, drI, drI0, drPlus, drIx, drEq, drNe, drIn, drNIn, drIsN, drNotN, drLen, drAll, drSum, drMin, drMax, drTuple, drList, drDict, drInt, drAbs, dIterL, dIterT, dRng1, dRng2, dEnum, Tgt.put, dLc, dLc2, dYes, dInW, dTail, dHead, dRev, dMerge, dNew, dCount, dFor, List.getElem?_cons_zero, List.getElem?_cons_succ, List.map, List.length, List.replicate, List.append, List.cons_append, List.nil_append, List.append_nil, List.set, Option.map, Nat.sub_self, ne_pt, ne_pi, ne_pa, ne_tp, ne_ti, ne_ta, ne_ip, ne_it, ne_ia, ne_ap, ne_at, ne_ai, ne_kt, ne_kp, ne_pk, ne_pu, ne_uk, ne_up, okd_int, okd_bl, okd_pairs, okd_takes, okd_tie, okd_ask, okd_know, okd_part, okd_turn, tkey_ii, eqv_int, eqv_str, atI_0, atI_1, atI_2, atI_3, atI_4, ci, eqv_bl, lay_ii, atI_5]
        exact hR'
      | ask a b y n =>
        have hR' : R (acc ++ [.bool true]) := hR
        simp [dStep, dwipe, eFd, eIt, eN, hd4, dstart, dSeq, dRet, dAsg, dPar, dIfS, dDrop, dNext, dVar, dC, dOp, dTst, dAnd, dOr, dNot, dIf, dAndV, dOrV, dNotV, dChain, dNil, dCons, dTup, dLst, dCall, plains, dIsi, isaP, drI, drI0, drPlus, drIx, drEq, drNe, drIn, drNIn, drIsN, drNotN, drLen, drAll, drSum, drMin, drMax, drTuple, drList, drDict, drInt, drAbs, dIterL, dIterT, dRng1, dRng2, dEnum, Tgt.put, dLc, dLc2, dYes, dInW, dTail, dHead, dRev, dMerge, dNew, dCount, dFor, List.getElem?_cons_zero, List.getElem?_cons_succ, List.map, List.length, List.replicate, List.append, List.cons_append, List.nil_append, List.append_nil, List.set, Option.map, Nat.sub_self, ne_pt, ne_pi, ne_pa, ne_tp, ne_ti, ne_ta, ne_ip, ne_it, ne_ia, ne_ap, ne_at, ne_ai, ne_kt, ne_kp, ne_pk, ne_pu, ne_uk, ne_up, okd_int, okd_bl, okd_pairs, okd_takes, okd_tie, okd_ask, okd_know, okd_part, okd_turn, tkey_ii, eqv_int, eqv_str, atI_0, atI_1, atI_2, atI_3, atI_4, ci, eqv_bl, lay_ii, atI_5]
        exact ⟨ha, hR'⟩
    · have e : (l.filter fun x => isAsk x.1).map (fun _ => PyData.bool true) = ((l.filter fun x => isAsk x.1).map fun _ => true).map PyData.bool := by simp
      rw [List.nil_append, e, boolsOf_map]
      dsimp only
      rw [all_tt]
      exact h
theorem ok_fits_stock : Ok P w K mg base "fits_stock" ["named", "value"] 7 Tfits_stock := by
  refine Dfits_stock F (ok_is_tuple_of F) (ok_fits_script F) (fun ds Q h => ?_) (fun ds Q h => ?_)
  · obtain ⟨c, a, rfl, h⟩ := h
    rfl
  · obtain ⟨k, st, rfl, hs, h⟩ := h
    obtain ⟨h1, h6, hs⟩ := hs
    simp [Bfits_stock, eSt, dstart, dSeq, dRet, dAsg, dPar, dIfS, dDrop, dNext, dVar, dC, dOp, dTst, dAnd, dOr, dNot, dIf, dAndV, dOrV, dNotV, dChain, dNil, dCons, dTup, dLst, dCall, plains, dIsi, isaP, drI, drI0, drPlus, drIx, drEq, drNe, drIn, drNIn, drIsN, drNotN, drLen, drAll, drSum, drMin, drMax, drTuple, drList, drDict, drInt, drAbs, dIterL, dIterT, dRng1, dRng2, dEnum, Tgt.put, dLc, dLc2, dYes, dInW, dTail, dHead, dRev, dMerge, dNew, dCount, dFor, List.getElem?_cons_zero, List.getElem?_cons_succ, List.map, List.length, List.replicate, List.append, List.cons_append, List.nil_append, List.append_nil, List.set, Option.map, Nat.sub_self, ne_pt, ne_pi, ne_pa, ne_tp, ne_ti, ne_ta, ne_ip, ne_it, ne_ia, ne_ap, ne_at, ne_ai, ne_kt, ne_kp, ne_pk, ne_pu, ne_uk, ne_up, okd_int, okd_bl, okd_pairs, okd_takes, okd_tie, okd_ask, okd_know, okd_part, okd_turn, tkey_ii, eqv_int, eqv_str, atI_0, atI_1, atI_2, atI_3, atI_4, ci, eqv_bl, lay_ii, atI_5]
    refine ⟨_, 1, 6, rfl, ?_⟩
    have e1 : (decide ((1 : Int) ≤ ((st.map eScr).length : Nat)) && decide (((st.map eScr).length : Nat) ≤ (6 : Int))) = true := by simp; omega
    simp only [e1]
    simp [Function.comp_def, dstart, dSeq, dRet, dAsg, dPar, dIfS, dDrop, dNext, dVar, dC, dOp, dTst, dAnd, dOr, dNot, dIf, dAndV, dOrV, dNotV, dChain, dNil, dCons, dTup, dLst, dCall, plains, dIsi, isaP, drI, drI0, drPlus, drIx, drEq, drNe, drIn, drNIn, drIsN, drNotN, drLen, drAll, drSum, drMin, drMax, drTuple, drList, drDict, drInt, drAbs, dIterL, dIterT, dRng1, dRng2, dEnum, Tgt.put, dLc, dLc2, dYes, dInW, dTail, dHead, dRev, dMerge, dNew, dCount, dFor, List.getElem?_cons_zero, List.getElem?_cons_succ, List.map, List.length, List.replicate, List.append, List.cons_append, List.nil_append, List.append_nil, List.set, Option.map, Nat.sub_self, ne_pt, ne_pi, ne_pa, ne_tp, ne_ti, ne_ta, ne_ip, ne_it, ne_ia, ne_ap, ne_at, ne_ai, ne_kt, ne_kp, ne_pk, ne_pu, ne_uk, ne_up, okd_int, okd_bl, okd_pairs, okd_takes, okd_tie, okd_ask, okd_know, okd_part, okd_turn, tkey_ii, eqv_int, eqv_str, atI_0, atI_1, atI_2, atI_3, atI_4, ci, eqv_bl, lay_ii, atI_5]
    have hbig := big_line
    refine dGo_map (fun x : List It1 => .d (eScr x)) (fun _ => .bool true) st [] _ (by simp; omega) (fun x hx acc R ha hR => ?_) ?_
    · simp [dStep, dwipe, dstart, dSeq, dRet, dAsg, dPar, dIfS, dDrop, dNext, dVar, dC, dOp, dTst, dAnd, dOr, dNot, dIf, dAndV, dOrV, dNotV, dChain, dNil, dCons, dTup, dLst, dCall, plains, dIsi, isaP, drI, drI0, drPlus, drIx, drEq, drNe, drIn, drNIn, drIsN, drNotN, drLen, drAll, drSum, drMin, drMax, drTuple, drList, drDict, drInt, drAbs, dIterL, dIterT, dRng1, dRng2, dEnum, Tgt.put, dLc, dLc2, dYes, dInW, dTail, dHead, dRev, dMerge, dNew, dCount, dFor, List.getElem?_cons_zero, List.getElem?_cons_succ, List.map, List.length, List.replicate, List.append, List.cons_append, List.nil_append, List.append_nil, List.set, Option.map, Nat.sub_self, ne_pt, ne_pi, ne_pa, ne_tp, ne_ti, ne_ta, ne_ip, ne_it, ne_ia, ne_ap, ne_at, ne_ai, ne_kt, ne_kp, ne_pk, ne_pu, ne_uk, ne_up, okd_int, okd_bl, okd_pairs, okd_takes, okd_tie, okd_ask, okd_know, okd_part, okd_turn, tkey_ii, eqv_int, eqv_str, atI_0, atI_1, atI_2, atI_3, atI_4, ci, eqv_bl, lay_ii, atI_5]
      refine ⟨k, x, rfl, (hs x hx).1, (hs x hx).2, ha, hR⟩
    · have e : st.map (fun _ => PyData.bool true) = (st.map fun _ => true).map PyData.bool := by simp
      rw [List.nil_append, e, boolsOf_map]
      dsimp only
      rw [all_tt]
      exact h
theorem ok_need_stock : Ok P w K mg base "need_stock" ["named", "value"] 8 Tneed_stock := by
  refine Dneed_stock F (ok_fits_stock F) (fun ds Q h => ?_) (fun ds Q h => ?_)
  · obtain ⟨c, a, rfl, h⟩ := h
    rfl
  · obtain ⟨k, st, rfl, hs, h⟩ := h
    simp [Bneed_stock, dstart, dSeq, dRet, dAsg, dPar, dIfS, dDrop, dNext, dVar, dC, dOp, dTst, dAnd, dOr, dNot, dIf, dAndV, dOrV, dNotV, dChain, dNil, dCons, dTup, dLst, dCall, plains, dIsi, isaP, drI, drI0, drPlus, drIx, drEq, drNe, drIn, drNIn, drIsN, drNotN, drLen, drAll, drSum, drMin, drMax, drTuple, drList, drDict, drInt, drAbs, dIterL, dIterT, dRng1, dRng2, dEnum, Tgt.put, dLc, dLc2, dYes, dInW, dTail, dHead, dRev, dMerge, dNew, dCount, dFor, List.getElem?_cons_zero, List.getElem?_cons_succ, List.map, List.length, List.replicate, List.append, List.cons_append, List.nil_append, List.append_nil, List.set, Option.map, Nat.sub_self, ne_pt, ne_pi, ne_pa, ne_tp, ne_ti, ne_ta, ne_ip, ne_it, ne_ia, ne_ap, ne_at, ne_ai, ne_kt, ne_kp, ne_pk, ne_pu, ne_uk, ne_up, okd_int, okd_bl, okd_pairs, okd_takes, okd_tie, okd_ask, okd_know, okd_part, okd_turn, tkey_ii, eqv_int, eqv_str, atI_0, atI_1, atI_2, atI_3, atI_4, ci, eqv_bl, lay_ii, atI_5]
    refine ⟨k, st, rfl, hs, ?_⟩
    simp
    exact h
theorem ok_need_one_or_two : Ok P w K mg base "need_one_or_two" ["value"] 2 Tneed_one_or_two := by
  refine Dneed_one_or_two F (ok_is_whole F) (fun ds Q h => ?_) (fun ds Q h => ?_)
  · obtain ⟨c, rfl, h⟩ := h
    rfl
  · obtain ⟨k, rfl, h1, h2, h⟩ := h
    simp [Bneed_one_or_two, eN, dstart, dSeq, dRet, dAsg, dPar, dIfS, dDrop, dNext, dVar, dC, dOp, dTst, dAnd, dOr, dNot, dIf, dAndV, dOrV, dNotV, dChain, dNil, dCons, dTup, dLst, dCall, plains, dIsi, isaP, drI, drI0, drPlus, drIx, drEq, drNe, drIn, drNIn, drIsN, drNotN, drLen, drAll, drSum, drMin, drMax, drTuple, drList, drDict, drInt, drAbs, dIterL, dIterT, dRng1, dRng2, dEnum, Tgt.put, dLc, dLc2, dYes, dInW, dTail, dHead, dRev, dMerge, dNew, dCount, dFor, List.getElem?_cons_zero, List.getElem?_cons_succ, List.map, List.length, List.replicate, List.append, List.cons_append, List.nil_append, List.append_nil, List.set, Option.map, Nat.sub_self, ne_pt, ne_pi, ne_pa, ne_tp, ne_ti, ne_ta, ne_ip, ne_it, ne_ia, ne_ap, ne_at, ne_ai, ne_kt, ne_kp, ne_pk, ne_pu, ne_uk, ne_up, okd_int, okd_bl, okd_pairs, okd_takes, okd_tie, okd_ask, okd_know, okd_part, okd_turn, tkey_ii, eqv_int, eqv_str, atI_0, atI_1, atI_2, atI_3, atI_4, ci, eqv_bl, lay_ii, atI_5]
    refine ⟨k, 1, 2, rfl, ?_⟩
    have e1 : (decide ((1 : Int) ≤ k) && decide ((k : Int) ≤ 2)) = true := by simp; omega
    simp only [e1]
    simp
    exact h
end
end TW
namespace TW
open PySem PySem.Spec PyProof.Rows L2 FL
/-! ### all views, in order -/
def lx : List Pr → List (List Pr)
  | [] => [[]]
  | p :: ps => [[]] ++ (lx ps).map (p :: ·) ++ (lx ps).tail
def fs : List Pr → List (List Pr) → List (List Pr)
  | [], acc => acc
  | p :: r, acc => fs r (acc ++ acc.map (· ++ [p]))
def gs : List Pr → List (List Pr) → List (List Pr)
  | [], acc => acc
  | p :: r, acc => gs r (acc ++ acc.map (p :: ·))
def vw (k : Nat) : List Co := (lx (prs (k + 2))).map fun ts => (k + 2, ts)
theorem lx_head : ∀ ps : List Pr, ∃ r, lx ps = [] :: r
  | [] => ⟨[], rfl⟩
  | p :: ps => ⟨_, rfl⟩
theorem mem_lx {ts : List Pr} : ∀ {ps : List Pr}, ts ∈ lx ps ↔ ts.Sublist ps
  | [] => by simp [lx]
  | p :: ps => by
    obtain ⟨r, hr⟩ := lx_head ps
    have ih := @mem_lx ts ps
    have hmem : ts ∈ lx (p :: ps) ↔ ts = [] ∨ (∃ u ∈ lx ps, p :: u = ts) ∨ ts ∈ (lx ps).tail := by
      show ts ∈ [[]] ++ (lx ps).map (p :: ·) ++ (lx ps).tail ↔ _
      simp
    rw [hmem]
    constructor
    · rintro (rfl | ⟨u, hu, rfl⟩ | h)
      · exact List.nil_sublist _
      · exact List.Sublist.cons_cons _ ((@mem_lx u ps).mp hu)
      · exact List.Sublist.cons _ (ih.mp (List.mem_of_mem_tail h))
    · intro h
      cases h with
      | cons _ h =>
        have := ih.mpr h
        rw [hr] at this
        rcases List.mem_cons.mp this with z | z
        · exact .inl z
        · exact .inr (.inr (by rw [hr]; exact z))
      | cons_cons _ h => exact .inr (.inl ⟨_, (@mem_lx _ ps).mpr h, rfl⟩)
theorem mem_vw {k : Nat} {c : Co} : c ∈ vw k ↔ c.1 = k + 2 ∧ c.2.Sublist (prs (k + 2)) := by
  unfold vw
  rw [List.mem_map]
  constructor
  · rintro ⟨ts, h, rfl⟩
    exact ⟨rfl, mem_lx.mp h⟩
  · rintro ⟨h1, h2⟩
    exact ⟨c.2, mem_lx.mpr h2, Prod.ext h1.symm rfl⟩
theorem beh_vw {k : Nat} {c : Co} (d : Deed) (h : c ∈ vw k) : beh c d ∈ vw k := by
  rw [mem_vw] at h ⊢
  obtain ⟨h1, h2⟩ := h
  refine ⟨h1, ?_⟩
  show ((prs c.1).filter _).Sublist _
  rw [h1]
  exact List.filter_sublist
theorem fold_vw {k : Nat} : ∀ (ds : List Deed) (c : Co), c ∈ vw k → ds.foldl beh c ∈ vw k
  | [], _, h => h
  | d :: ds, c, h => fold_vw ds _ (beh_vw d h)
theorem run_vw {k : Nat} : ∀ (s : List It1) (c : Co), c ∈ vw k → run1 c s ∈ vw k
  | [], _, h => h
  | i :: s, c, h => run_vw s _ (by
    cases i with
    | deed d => exact beh_vw d h
    | ask a b y n => exact fold_vw _ c h)
theorem sort_lx (ps : List PyData) (k : Nat) (hp : ps = (fs (prs (k + 2)) [[]]).map eTs ∨ ps = (gs (prs (k + 2)).reverse [[]]).map eTs) (hk : k = 1 ∨ k = 2) : SortOk ps ((lx (prs (k + 2))).map eTs) := by
  have tupAll : ∀ (L : List (List Pr)), ∀ d, d ∈ L.map eTs → ∃ xs, d = .tuple xs := fun L d hd => by
    obtain ⟨ts, _, rfl⟩ := List.mem_map.mp hd
    exact ⟨_, rfl⟩
  have al2 : ∀ p q : Pr, PySem.W.alike (ePr p) (ePr q) = true := fun p q => rfl
  have alAll : ∀ (a b : List Pr), PySem.W.alikeAll (a.map ePr) (b.map ePr) = true := by
    intro a
    induction a with
    | nil => intro b; cases b <;> rfl
    | cons x a ih =>
      intro b
      cases b with
      | nil => rfl
      | cons y b =>
        rw [List.map_cons, List.map_cons]
        show (PySem.W.alike _ _ && PySem.W.alikeAll _ _) = true
        rw [al2, ih]
        rfl
  have al : ∀ (L : List (List Pr)), PySem.W.AllAlike (L.map eTs) := fun L d hd d' hd' => by
    obtain ⟨a, _, rfl⟩ := List.mem_map.mp hd
    obtain ⟨b, _, rfl⟩ := List.mem_map.mp hd'
    exact alAll a b
  have dp : ∀ (L : List (List Pr)), ∀ d, d ∈ L.map eTs → d.depth ≤ 8 := fun L d hd => by
    obtain ⟨a, _, rfl⟩ := List.mem_map.mp hd
    exact Nat.le_trans (sh_ts a).2 (by decide)
  rcases hk with rfl | rfl
  · rcases hp with rfl | rfl
    · exact ⟨⟨_, rfl⟩, tupAll _, al _, dp _, List.Perm.map _ (by decide +kernel), by decide +kernel⟩
    · exact ⟨⟨_, rfl⟩, tupAll _, al _, dp _, List.Perm.map _ (by decide +kernel), by decide +kernel⟩
  · rcases hp with rfl | rfl
    · exact ⟨⟨_, rfl⟩, tupAll _, al _, dp _, List.Perm.map _ (by decide +kernel), by decide +kernel⟩
    · exact ⟨⟨_, rfl⟩, tupAll _, al _, dp _, List.Perm.map _ (by decide +kernel), by decide +kernel⟩
end TW
namespace TW
open PySem PySem.Spec PyProof.Rows L2 FL
theorem keysOf_prs : ∀ ts : List Pr, keysOf (ts.map ePr) = some (ts.map kPr)
  | [] => rfl
  | p :: ts => by
    rw [List.map_cons]
    unfold keysOf
    rw [keysOf_prs ts]
    rfl
def kTs (ts : List Pr) : NestedKey := .tup (ts.map kPr)
def kCo (c : Co) : NestedKey := .tup [.num c.1, kTs c.2]
theorem kdep : ∀ ts : List Pr, NestedKey.depthAll (ts.map kPr) ≤ 1
  | [] => by simp [NestedKey.depthAll]
  | p :: ts => by
    rw [List.map_cons]
    unfold NestedKey.depthAll
    exact Nat.max_le.mpr ⟨by simp [kPr, NestedKey.depth, NestedKey.depthAll], kdep ts⟩
theorem tkey_co (c : Co) : tkey (eCo c) = some (kCo c) := by
  have e : keyOf (eCo c) = some (kCo c) := by
    unfold eCo eTs
    simp [keyOf, keysOf, eN, keysOf_prs]
    rfl
  have d : (kCo c).depth ≤ 8 := by
    have := kdep c.2
    simp [kCo, kTs, NestedKey.depth, NestedKey.depthAll]
    omega
  unfold eCo at e ⊢
  unfold tkey
  dsimp only
  rw [e]
  simp [d]
theorem kPrs_inj : ∀ {a b : List Pr}, a.map kPr = b.map kPr → a = b
  | [], [], _ => rfl
  | [], _ :: _, h => by simp at h
  | _ :: _, [], h => by simp at h
  | x :: a, y :: b, h => by
    rw [List.map_cons, List.map_cons] at h
    injection h with h1 h2
    rw [kPr_inj h1, kPrs_inj h2]
theorem kCo_inj {a b : Co} (h : kCo a = kCo b) : a = b := by
  unfold kCo kTs at h
  simp at h
  exact Prod.ext (by omega) (kPrs_inj h.2)
/-! ### numbered views -/
def numb : Nat → List Co → List (NestedKey × PyData)
  | _, [] => []
  | i, v :: r => (kCo v, eN i) :: numb (i + 1) r
def place (v : Co) : List Co → Nat
  | [] => 0
  | u :: r => if u = v then 0 else place v r + 1
theorem place_lt {v : Co} : ∀ {l : List Co}, v ∈ l → place v l < l.length
  | u :: r, h => by
    unfold place
    by_cases e : u = v
    · rw [if_pos e]
      simp
    · rw [if_neg e]
      have : v ∈ r := by
        rcases List.mem_cons.mp h with z | z
        · exact absurd z.symm e
        · exact z
      have := place_lt this
      simp
      omega
theorem look_numb {v : Co} : ∀ {l : List Co} {i : Nat}, v ∈ l → lookK (numb i l) (kCo v) = some (eN (i + place v l))
  | u :: r, i, h => by
    unfold numb place lookK
    by_cases e : u = v
    · rw [if_pos e, List.find?_cons_of_pos (by simp [e])]
      rfl
    · rw [if_neg e, List.find?_cons_of_neg (by simp; exact fun z => e (kCo_inj z))]
      have m : v ∈ r := by
        rcases List.mem_cons.mp h with z | z
        · exact absurd z.symm e
        · exact z
      have := look_numb (i := i + 1) m
      unfold lookK at this
      rw [this]
      have e2 : i + 1 + place v r = i + (place v r + 1) := by omega
      rw [e2]
theorem numb_keys : ∀ (l : List Co) (i : Nat), (numb i l).map (·.1) = l.map kCo
  | [], _ => rfl
  | u :: r, i => by
    unfold numb
    rw [List.map_cons, List.map_cons, numb_keys r]
theorem numb_nd {l : List Co} (h : l.Nodup) (i : Nat) : ((numb i l).map (·.1)).Nodup := by
  rw [numb_keys]
  exact List.Pairwise.map _ (fun a b (ne : a ≠ b) e => ne (kCo_inj e)) h
def numbP : Nat → List Co → List PyData
  | _, [] => []
  | i, v :: r => .tuple [eCo v, eN i] :: numbP (i + 1) r
theorem pairsOf_numb : ∀ (l : List Co) (i : Nat), FL.pairsOf (numbP i l) = some (numb i l)
  | [], _ => rfl
  | v :: r, i => by
    unfold numbP FL.pairsOf
    rw [tkey_co, pairsOf_numb r]
    rfl
theorem numbP_length : ∀ (l : List Co) (i : Nat), (numbP i l).length = l.length
  | [], _ => rfl
  | v :: r, i => by
    unfold numbP
    rw [List.length_cons, List.length_cons, numbP_length r]
/-- the loop over enumerate(views) -/
theorem dGo_enum {t : Tgt} {tt : DTT} {te : DT} {δ : DEnv} : ∀ (l : List Co) (i : Nat) (acc : List PyData) (Q : List PyData → Prop), acc.length + l.length ≤ sizeLine →
    (∀ (v : Co) (i : Nat) acc R, acc.length < sizeLine → R (acc ++ [.tuple [eCo v, eN i]]) → dStep t tt te δ (.d (.tuple [eN i, eCo v])) acc R) → Q (acc ++ numbP i l) → dGo t tt te δ (enumD i (l.map eCo)) acc Q
  | [], i, acc, Q, _, _, q => by
    unfold numbP at q
    simpa [enumD, dGo] using q
  | v :: r, i, acc, Q, hl, h, q => by
    have hl' : acc.length + (r.length + 1) ≤ sizeLine := hl
    rw [List.map_cons]
    unfold enumD
    rw [dGo_cons]
    refine h v i _ _ (by omega) ?_
    refine dGo_enum r (i + 1) _ Q (by simp; omega) h ?_
    unfold numbP at q
    simpa using q
theorem vw_nd {k : Nat} (hk : k = 1 ∨ k = 2) : (vw k).Nodup := by
  rcases hk with rfl | rfl <;> decide +kernel
theorem vw_length {k : Nat} (hk : k = 1 ∨ k = 2) : (vw k).length ≤ 64 := by
  rcases hk with rfl | rfl <;> decide +kernel
theorem prs_len6 {k : Nat} (hk : k = 1 ∨ k = 2) : (prs (k + 2)).length ≤ 6 := by
  rcases hk with rfl | rfl <;> decide +kernel
def tab (k : Nat) (s : List It1) : List Nat := (vw k).map fun v => place (run1 v s) (vw k)
def eTab (t : List Nat) : PyData := .tuple (t.map eN)
def Tall_views : DRs := fun ds Q => ∃ k : Nat, ds = [.d (eN k)] ∧ (k = 1 ∨ k = 2) ∧ Q (.d (.list ((vw k).map eCo)))
def Ttable_by : DRs := fun ds Q => ∃ (k : Nat) (s : List It1), ds = [.d (eN k), .d (eScr s)] ∧ (k = 1 ∨ k = 2) ∧ (∀ i ∈ s, ItOk k i) ∧ sizes s ≤ 1000 ∧ Q (.d (eTab (tab k s)))
def Ttables_by : DRs := fun ds Q => ∃ (k : Nat) (st : List (List It1)), ds = [.d (eN k), .d (eSt st)] ∧ (k = 1 ∨ k = 2) ∧ StOk k st ∧ Q (.d (.list (st.map fun s => eTab (tab k s))))
def Ball_views : DTS := dSeq (dAsg (dLst (dCons (dTup (dNil)) (dNil))) (.nm 1)) (dSeq (dFor (dIterL (dCall Tpairs_of (dCons (dOp drPlus (dVar 0) (dC (dI 2))) (dNil)))) (.nm 2) (dAsg (dOp drPlus (dVar 1) (dLc (dIterL (dVar 1)) (.nm 3) (dYes) (dOp drPlus (dVar 3) (dTup (dCons (dVar 2) (dNil)))) [3])) (.nm 1))) (dRet (dLc (dIterL (dCall drSorted (dCons (dVar 1) (dNil)))) (.nm 3) (dYes) (dTup (dCons (dOp drPlus (dVar 0) (dC (dI 2))) (dCons (dVar 3) (dNil)))) [3])))
theorem Sall_views : FnScope ["named", "found", "pair", "ties"] ["named"] (defScope (top 32)) := ⟨rfl, rfl, rfl, by decide +kernel, rfl, by decide +kernel, by decide +kernel⟩
theorem Dall_views {P : Program} {w : World} {K : PySem.W.Frag} {mg : Str → Option Value} {base : Heap} (F : Fc K mg) (opairs_of : Ok P w K mg base "pairs_of" ["people"] 1 Tpairs_of) {T : DRs} (hlen : ∀ ds Q, T ds Q → ds.length = 1) (hT : ∀ ds Q, T ds Q → Ball_views { nx := fun _ => Q dN, rt := Q } (dstart ["named", "found", "pair", "ties"] ds)) : Ok P w K mg base "all_views" ["named"] (1 + 1) T :=
  ok_fn F 18 (j := 32) rfl Sall_views T (Ball_views) hlen hT (fun _ _ _ _ _ _ us hl => match us, hl with | [_], _ => rfl) fun f cdv A outer s H E hr => dss_cons (ds_set (i := 1) Sall_views.nd rfl (by first | exact .inl rfl | exact .inr rfl) (de_lst (da_cons (de_tup (da_nil)) (da_nil)))) (dss_cons (ds_for PassesOwn.never rfl (di_list (ok_call opairs_of hr (by decide) rfl (da_cons (de_bin od_plus (dv 0) (de_int)) (da_nil)))) (pg_nm (i := 2) Sall_views.nd rfl (by first | exact .inl rfl | exact .inr rfl)) (dss_one (ds_set (i := 1) Sall_views.nd rfl (by first | exact .inl rfl | exact .inr rfl) (de_bin od_plus (dv 1) (de_lc rfl Sall_views.nd (di_list (dv 1)) (own := [("ties", 3)]) (blkOk_by (by kernel_rfl)) (fun _ _ _ _ _ => pg_nm (i := 3) Sall_views.nd rfl (by first | exact .inl rfl | exact .inr rfl)) (fun _ _ _ _ _ => dts_nil) (fun _ _ _ _ _ => de_bin od_plus (dv 3) (de_tup (da_cons (dv 2) (da_nil))))))))) (dss_one (ds_ret (de_lc rfl Sall_views.nd (di_list (de_callB (cd_sorted hr.units) rfl F.free_sorted boot_sorted (da_cons (dv 1) (da_nil)))) (own := [("ties", 3)]) (blkOk_by (by kernel_rfl)) (fun _ _ _ _ _ => pg_nm (i := 3) Sall_views.nd rfl (by first | exact .inl rfl | exact .inr rfl)) (fun _ _ _ _ _ => dts_nil) (fun _ _ _ _ _ => de_tup (da_cons (de_bin od_plus (dv 0) (de_int)) (da_cons (dv 3) (da_nil))))))))
def Btable_by : DTS := dSeq (dAsg (dCall Tall_views (dCons (dVar 0) (dNil))) (.nm 2)) (dSeq (dAsg (dCall drDict (dCons (dLc (dEnum (dVar 2)) (.two (.nm 4) (.nm 5)) (dYes) (dTup (dCons (dVar 5) (dCons (dVar 4) (dNil)))) [4, 5]) (dNil))) (.nm 3)) (dRet (dCall drTuple (dCons (dLc (dIterL (dVar 2)) (.nm 5) (dYes) (dOp drIx (dVar 3) (dOp drIx (dCall Trun_by (dCons (dVar 5) (dCons (dVar 1) (dNil)))) (dC (dI 0)))) [5]) (dNil)))))
theorem Stable_by : FnScope ["named", "script", "views", "numbers", "at", "view"] ["named", "script"] (defScope (top 33)) := ⟨rfl, rfl, rfl, by decide +kernel, rfl, by decide +kernel, by decide +kernel⟩
theorem Dtable_by {P : Program} {w : World} {K : PySem.W.Frag} {mg : Str → Option Value} {base : Heap} (F : Fc K mg) (oall_views : Ok P w K mg base "all_views" ["named"] 2 Tall_views) (orun_by : Ok P w K mg base "run_by" ["company", "script"] 4 Trun_by) {T : DRs} (hlen : ∀ ds Q, T ds Q → ds.length = 2) (hT : ∀ ds Q, T ds Q → Btable_by { nx := fun _ => Q dN, rt := Q } (dstart ["named", "script", "views", "numbers", "at", "view"] ds)) : Ok P w K mg base "table_by" ["named", "script"] (4 + 1) T :=
  ok_fn F 19 (j := 33) rfl Stable_by T (Btable_by) hlen hT (fun _ _ _ _ _ _ us hl => match us, hl with | [_, _], _ => rfl) fun f cdv A outer s H E hr => dss_cons (ds_set (i := 2) Stable_by.nd rfl (by first | exact .inl rfl | exact .inr rfl) (ok_call oall_views hr (by decide) rfl (da_cons (dv 0) (da_nil)))) (dss_cons (ds_set (i := 3) Stable_by.nd rfl (by first | exact .inl rfl | exact .inr rfl) (de_callTy (cd_dict rfl hr.units) rfl F.free_dict boot_dict (da_cons (de_lc rfl Stable_by.nd (di_enum rfl F.free_enumerate (dv 2)) (own := [("at", 4), ("view", 5)]) (blkOk_by (by kernel_rfl)) (fun _ _ _ _ _ => pg_two rfl (pg_nm (i := 4) Stable_by.nd rfl (by first | exact .inl rfl | exact .inr rfl)) (pg_nm (i := 5) Stable_by.nd rfl (by first | exact .inl rfl | exact .inr rfl))) (fun _ _ _ _ _ => dts_nil) (fun _ _ _ _ _ => de_tup (da_cons (dv 5) (da_cons (dv 4) (da_nil))))) (da_nil)))) (dss_one (ds_ret (de_callTy cd_tuple rfl F.free_tuple boot_tuple (da_cons (de_lc rfl Stable_by.nd (di_list (dv 2)) (own := [("view", 5)]) (blkOk_by (by kernel_rfl)) (fun _ _ _ _ _ => pg_nm (i := 5) Stable_by.nd rfl (by first | exact .inl rfl | exact .inr rfl)) (fun _ _ _ _ _ => dts_nil) (fun _ _ _ _ _ => de_ix (xd_ix hr.units) (dv 3) (de_ix (xd_ix hr.units) (ok_call orun_by hr (by decide) rfl (da_cons (dv 5) (da_cons (dv 1) (da_nil)))) (de_int) (fun _ _ => rfl)) (fun _ _ => rfl))) (da_nil))))))
def Btables_by : DTS := dRet (dLc (dIterT (dVar 1)) (.nm 2) (dYes) (dCall Ttable_by (dCons (dVar 0) (dCons (dVar 2) (dNil)))) [2])
theorem Stables_by : FnScope ["named", "stock", "script"] ["named", "stock"] (defScope (top 37)) := ⟨rfl, rfl, rfl, by decide +kernel, rfl, by decide +kernel, by decide +kernel⟩
theorem Dtables_by {P : Program} {w : World} {K : PySem.W.Frag} {mg : Str → Option Value} {base : Heap} (F : Fc K mg) (otable_by : Ok P w K mg base "table_by" ["named", "script"] 5 Ttable_by) {T : DRs} (hlen : ∀ ds Q, T ds Q → ds.length = 2) (hT : ∀ ds Q, T ds Q → Btables_by { nx := fun _ => Q dN, rt := Q } (dstart ["named", "stock", "script"] ds)) : Ok P w K mg base "tables_by" ["named", "stock"] (5 + 1) T :=
  ok_fn F 20 (j := 37) rfl Stables_by T (Btables_by) hlen hT (fun _ _ _ _ _ _ us hl => match us, hl with | [_, _], _ => rfl) fun f cdv A outer s H E hr => dss_one (ds_ret (de_lc rfl Stables_by.nd (di_tup (dv 1)) (own := [("script", 2)]) (blkOk_by (by kernel_rfl)) (fun _ _ _ _ _ => pg_nm (i := 2) Stables_by.nd rfl (by first | exact .inl rfl | exact .inr rfl)) (fun _ _ _ _ _ => dts_nil) (fun _ _ _ _ _ => ok_call otable_by hr (by decide) rfl (da_cons (dv 0) (da_cons (dv 2) (da_nil))))))
def Iav (k : Nat) (r : List Pr) (δ : DEnv) : Prop := ∃ (f : List (List Pr)) (x y : Option FL.D), δ = [some (.d (eN k)), some (.d (.list (f.map eTs))), x, y] ∧ fs r f = fs (prs (k + 2)) [[]] ∧ f.length * 2 ^ r.length ≤ 64 ∧ ∀ ts ∈ f, ts.length + r.length ≤ 6
section
variable {P : Program} {w : World} {K : PySem.W.Frag} {mg : Str → Option Value} {base : Heap} (F : Fc K mg)
include F
theorem ok_all_views : Ok P w K mg base "all_views" ["named"] 2 Tall_views := by
  refine Dall_views F (ok_pairs_of F) (fun ds Q h => ?_) (fun ds Q h => ?_)
  · obtain ⟨c, rfl, h⟩ := h
    rfl
  · obtain ⟨k, rfl, hk, h⟩ := h
    have hbig := big_line
    simp [Ball_views, eN, dstart, dSeq, dRet, dAsg, dPar, dIfS, dDrop, dNext, dVar, dC, dOp, dTst, dAnd, dOr, dNot, dIf, dAndV, dOrV, dNotV, dChain, dNil, dCons, dTup, dLst, dCall, plains, dIsi, isaP, drI, drI0, drPlus, drIx, drEq, drNe, drIn, drNIn, drIsN, drNotN, drLen, drAll, drSum, drMin, drMax, drTuple, drList, drDict, drInt, drAbs, dIterL, dIterT, dRng1, dRng2, dEnum, Tgt.put, dLc, dLc2, dYes, dInW, dTail, dHead, dRev, dMerge, dNew, dCount, dFor, List.getElem?_cons_zero, List.getElem?_cons_succ, List.map, List.length, List.replicate, List.append, List.cons_append, List.nil_append, List.append_nil, List.set, Option.map, Nat.sub_self, ne_pt, ne_pi, ne_pa, ne_tp, ne_ti, ne_ta, ne_ip, ne_it, ne_ia, ne_ap, ne_at, ne_ai, ne_kt, ne_kp, ne_pk, ne_pu, ne_uk, ne_up, okd_int, okd_bl, okd_pairs, okd_takes, okd_tie, okd_ask, okd_know, okd_part, okd_turn, tkey_ii, eqv_int, eqv_str, atI_0, atI_1, atI_2, atI_3, atI_4, ci, eqv_bl, lay_ii, atI_5]
    refine ⟨k + 2, rfl, by omega, ?_⟩
    simp [Function.comp_def, dstart, dSeq, dRet, dAsg, dPar, dIfS, dDrop, dNext, dVar, dC, dOp, dTst, dAnd, dOr, dNot, dIf, dAndV, dOrV, dNotV, dChain, dNil, dCons, dTup, dLst, dCall, plains, dIsi, isaP, drI, drI0, drPlus, drIx, drEq, drNe, drIn, drNIn, drIsN, drNotN, drLen, drAll, drSum, drMin, drMax, drTuple, drList, drDict, drInt, drAbs, dIterL, dIterT, dRng1, dRng2, dEnum, Tgt.put, dLc, dLc2, dYes, dInW, dTail, dHead, dRev, dMerge, dNew, dCount, dFor, List.getElem?_cons_zero, List.getElem?_cons_succ, List.map, List.length, List.replicate, List.append, List.cons_append, List.nil_append, List.append_nil, List.set, Option.map, Nat.sub_self, ne_pt, ne_pi, ne_pa, ne_tp, ne_ti, ne_ta, ne_ip, ne_it, ne_ia, ne_ap, ne_at, ne_ai, ne_kt, ne_kp, ne_pk, ne_pu, ne_uk, ne_up, okd_int, okd_bl, okd_pairs, okd_takes, okd_tie, okd_ask, okd_know, okd_part, okd_turn, tkey_ii, eqv_int, eqv_str, atI_0, atI_1, atI_2, atI_3, atI_4, ci, eqv_bl, lay_ii, atI_5]
    have h6 := prs_len6 hk
    refine dLoop_inv (fun p : Pr => .d (ePr p)) (Iav k) (prs (k + 2)) _ ⟨[[]], none, none, rfl, rfl, ?_, by intro ts hts; simp at hts; subst hts; simpa using h6⟩ ?_ ?_
    · have : 2 ^ (prs (k + 2)).length ≤ 2 ^ 6 := Nat.pow_le_pow_right (by decide) h6
      simpa using this
    · rintro p r _ _ ⟨f, x, y, rfl, hf, hl, hlen⟩ N hN
      have hpos : 1 ≤ 2 ^ r.length := Nat.one_le_two_pow
      have hl2 : f.length * 2 * 2 ^ r.length ≤ 64 := by
        rw [List.length_cons, Nat.pow_succ] at hl
        rw [Nat.mul_assoc, Nat.mul_comm 2]
        exact hl
      have hl3 : f.length * 2 ≤ 64 := Nat.le_trans (Nat.le_mul_of_pos_right _ hpos) hl2
      simp [Function.comp_def, dstart, dSeq, dRet, dAsg, dPar, dIfS, dDrop, dNext, dVar, dC, dOp, dTst, dAnd, dOr, dNot, dIf, dAndV, dOrV, dNotV, dChain, dNil, dCons, dTup, dLst, dCall, plains, dIsi, isaP, drI, drI0, drPlus, drIx, drEq, drNe, drIn, drNIn, drIsN, drNotN, drLen, drAll, drSum, drMin, drMax, drTuple, drList, drDict, drInt, drAbs, dIterL, dIterT, dRng1, dRng2, dEnum, Tgt.put, dLc, dLc2, dYes, dInW, dTail, dHead, dRev, dMerge, dNew, dCount, dFor, List.getElem?_cons_zero, List.getElem?_cons_succ, List.map, List.length, List.replicate, List.append, List.cons_append, List.nil_append, List.append_nil, List.set, Option.map, Nat.sub_self, ne_pt, ne_pi, ne_pa, ne_tp, ne_ti, ne_ta, ne_ip, ne_it, ne_ia, ne_ap, ne_at, ne_ai, ne_kt, ne_kp, ne_pk, ne_pu, ne_uk, ne_up, okd_int, okd_bl, okd_pairs, okd_takes, okd_tie, okd_ask, okd_know, okd_part, okd_turn, tkey_ii, eqv_int, eqv_str, atI_0, atI_1, atI_2, atI_3, atI_4, ci, eqv_bl, lay_ii, atI_5]
      refine dGo_map (fun ts : List Pr => .d (eTs ts)) (fun ts => eTs (ts ++ [p])) f [] _ (by simp; omega) (fun ts hts acc R ha hR => ?_) ?_
      · have hts' := hlen ts hts
        simp at hts'
        simp [dStep, dwipe, eTs, dstart, dSeq, dRet, dAsg, dPar, dIfS, dDrop, dNext, dVar, dC, dOp, dTst, dAnd, dOr, dNot, dIf, dAndV, dOrV, dNotV, dChain, dNil, dCons, dTup, dLst, dCall, plains, dIsi, isaP, drI, drI0, drPlus, drIx, drEq, drNe, drIn, drNIn, drIsN, drNotN, drLen, drAll, drSum, drMin, drMax, drTuple, drList, drDict, drInt, drAbs, dIterL, dIterT, dRng1, dRng2, dEnum, Tgt.put, dLc, dLc2, dYes, dInW, dTail, dHead, dRev, dMerge, dNew, dCount, dFor, List.getElem?_cons_zero, List.getElem?_cons_succ, List.map, List.length, List.replicate, List.append, List.cons_append, List.nil_append, List.append_nil, List.set, Option.map, Nat.sub_self, ne_pt, ne_pi, ne_pa, ne_tp, ne_ti, ne_ta, ne_ip, ne_it, ne_ia, ne_ap, ne_at, ne_ai, ne_kt, ne_kp, ne_pk, ne_pu, ne_uk, ne_up, okd_int, okd_bl, okd_pairs, okd_takes, okd_tie, okd_ask, okd_know, okd_part, okd_turn, tkey_ii, eqv_int, eqv_str, atI_0, atI_1, atI_2, atI_3, atI_4, ci, eqv_bl, lay_ii, atI_5]
        refine ⟨by omega, ha, ?_⟩
        have e : eTs (ts ++ [p]) = .tuple (ts.map ePr ++ [ePr p]) := by
          unfold eTs
          rw [List.map_append]
          rfl
        rw [← e]
        exact hR
      · rw [List.nil_append]
        refine ⟨by simp; omega, hN _ ⟨f ++ f.map (· ++ [p]), some (.d (ePr p)), y, ?_, hf, ?_, ?_⟩⟩
        · rw [List.map_append, List.map_map]
          rfl
        · have e : (f ++ f.map (· ++ [p])).length = f.length * 2 := by simp; omega
          rw [e]
          exact hl2
        · intro ts hts
          rcases List.mem_append.mp hts with z | z
          · have := hlen ts z
            simp at this
            omega
          · obtain ⟨u, hu, rfl⟩ := List.mem_map.mp z
            have := hlen u hu
            simp at this ⊢
            omega
    · rintro _ ⟨f, x, y, rfl, hf, hl, hlen⟩
      have hf' : f = fs (prs (k + 2)) [[]] := hf
      simp [dstart, dSeq, dRet, dAsg, dPar, dIfS, dDrop, dNext, dVar, dC, dOp, dTst, dAnd, dOr, dNot, dIf, dAndV, dOrV, dNotV, dChain, dNil, dCons, dTup, dLst, dCall, plains, dIsi, isaP, drI, drI0, drPlus, drIx, drEq, drNe, drIn, drNIn, drIsN, drNotN, drLen, drAll, drSum, drMin, drMax, drTuple, drList, drDict, drInt, drAbs, dIterL, dIterT, dRng1, dRng2, dEnum, Tgt.put, dLc, dLc2, dYes, dInW, dTail, dHead, dRev, dMerge, dNew, dCount, dFor, List.getElem?_cons_zero, List.getElem?_cons_succ, List.map, List.length, List.replicate, List.append, List.cons_append, List.nil_append, List.append_nil, List.set, Option.map, Nat.sub_self, ne_pt, ne_pi, ne_pa, ne_tp, ne_ti, ne_ta, ne_ip, ne_it, ne_ia, ne_ap, ne_at, ne_ai, ne_kt, ne_kp, ne_pk, ne_pu, ne_uk, ne_up, okd_int, okd_bl, okd_pairs, okd_takes, okd_tie, okd_ask, okd_know, okd_part, okd_turn, tkey_ii, eqv_int, eqv_str, atI_0, atI_1, atI_2, atI_3, atI_4, ci, eqv_bl, lay_ii, atI_5]
      refine ⟨_, sort_lx (f.map eTs) k (.inl (by rw [hf'])) hk, ?_⟩
      simp [Function.comp_def, dstart, dSeq, dRet, dAsg, dPar, dIfS, dDrop, dNext, dVar, dC, dOp, dTst, dAnd, dOr, dNot, dIf, dAndV, dOrV, dNotV, dChain, dNil, dCons, dTup, dLst, dCall, plains, dIsi, isaP, drI, drI0, drPlus, drIx, drEq, drNe, drIn, drNIn, drIsN, drNotN, drLen, drAll, drSum, drMin, drMax, drTuple, drList, drDict, drInt, drAbs, dIterL, dIterT, dRng1, dRng2, dEnum, Tgt.put, dLc, dLc2, dYes, dInW, dTail, dHead, dRev, dMerge, dNew, dCount, dFor, List.getElem?_cons_zero, List.getElem?_cons_succ, List.map, List.length, List.replicate, List.append, List.cons_append, List.nil_append, List.append_nil, List.set, Option.map, Nat.sub_self, ne_pt, ne_pi, ne_pa, ne_tp, ne_ti, ne_ta, ne_ip, ne_it, ne_ia, ne_ap, ne_at, ne_ai, ne_kt, ne_kp, ne_pk, ne_pu, ne_uk, ne_up, okd_int, okd_bl, okd_pairs, okd_takes, okd_tie, okd_ask, okd_know, okd_part, okd_turn, tkey_ii, eqv_int, eqv_str, atI_0, atI_1, atI_2, atI_3, atI_4, ci, eqv_bl, lay_ii, atI_5]
      have hl : (lx (prs (k + 2))).length ≤ 64 := by
        have := vw_length hk
        unfold vw at this
        simpa using this
      refine dGo_map (fun ts : List Pr => .d (eTs ts)) (fun ts => eCo (k + 2, ts)) (lx (prs (k + 2))) [] _ (by simp; omega) (fun ts hts acc R ha hR => ?_) ?_
      · simp [dStep, dwipe, dstart, dSeq, dRet, dAsg, dPar, dIfS, dDrop, dNext, dVar, dC, dOp, dTst, dAnd, dOr, dNot, dIf, dAndV, dOrV, dNotV, dChain, dNil, dCons, dTup, dLst, dCall, plains, dIsi, isaP, drI, drI0, drPlus, drIx, drEq, drNe, drIn, drNIn, drIsN, drNotN, drLen, drAll, drSum, drMin, drMax, drTuple, drList, drDict, drInt, drAbs, dIterL, dIterT, dRng1, dRng2, dEnum, Tgt.put, dLc, dLc2, dYes, dInW, dTail, dHead, dRev, dMerge, dNew, dCount, dFor, List.getElem?_cons_zero, List.getElem?_cons_succ, List.map, List.length, List.replicate, List.append, List.cons_append, List.nil_append, List.append_nil, List.set, Option.map, Nat.sub_self, ne_pt, ne_pi, ne_pa, ne_tp, ne_ti, ne_ta, ne_ip, ne_it, ne_ia, ne_ap, ne_at, ne_ai, ne_kt, ne_kp, ne_pk, ne_pu, ne_uk, ne_up, okd_int, okd_bl, okd_pairs, okd_takes, okd_tie, okd_ask, okd_know, okd_part, okd_turn, tkey_ii, eqv_int, eqv_str, atI_0, atI_1, atI_2, atI_3, atI_4, ci, eqv_bl, lay_ii, atI_5]
        exact ⟨ha, hR⟩
      · rw [List.nil_append]
        unfold vw at h
        rw [List.map_map] at h
        exact h
theorem ok_table_by : Ok P w K mg base "table_by" ["named", "script"] 5 Ttable_by := by
  refine Dtable_by F (ok_all_views F) (ok_run_by F) (fun ds Q h => ?_) (fun ds Q h => ?_)
  · obtain ⟨c, s, rfl, h⟩ := h
    rfl
  · obtain ⟨k, s, rfl, hk, hs, hz, h⟩ := h
    have hbig := big_line
    have h64 := vw_length hk
    simp [Btable_by, dstart, dSeq, dRet, dAsg, dPar, dIfS, dDrop, dNext, dVar, dC, dOp, dTst, dAnd, dOr, dNot, dIf, dAndV, dOrV, dNotV, dChain, dNil, dCons, dTup, dLst, dCall, plains, dIsi, isaP, drI, drI0, drPlus, drIx, drEq, drNe, drIn, drNIn, drIsN, drNotN, drLen, drAll, drSum, drMin, drMax, drTuple, drList, drDict, drInt, drAbs, dIterL, dIterT, dRng1, dRng2, dEnum, Tgt.put, dLc, dLc2, dYes, dInW, dTail, dHead, dRev, dMerge, dNew, dCount, dFor, List.getElem?_cons_zero, List.getElem?_cons_succ, List.map, List.length, List.replicate, List.append, List.cons_append, List.nil_append, List.append_nil, List.set, Option.map, Nat.sub_self, ne_pt, ne_pi, ne_pa, ne_tp, ne_ti, ne_ta, ne_ip, ne_it, ne_ia, ne_ap, ne_at, ne_ai, ne_kt, ne_kp, ne_pk, ne_pu, ne_uk, ne_up, okd_int, okd_bl, okd_pairs, okd_takes, okd_tie, okd_ask, okd_know, okd_part, okd_turn, tkey_ii, eqv_int, eqv_str, atI_0, atI_1, atI_2, atI_3, atI_4, ci, eqv_bl, lay_ii, atI_5]
    refine ⟨k, rfl, hk, ?_⟩
    simp [dstart, dSeq, dRet, dAsg, dPar, dIfS, dDrop, dNext, dVar, dC, dOp, dTst, dAnd, dOr, dNot, dIf, dAndV, dOrV, dNotV, dChain, dNil, dCons, dTup, dLst, dCall, plains, dIsi, isaP, drI, drI0, drPlus, drIx, drEq, drNe, drIn, drNIn, drIsN, drNotN, drLen, drAll, drSum, drMin, drMax, drTuple, drList, drDict, drInt, drAbs, dIterL, dIterT, dRng1, dRng2, dEnum, Tgt.put, dLc, dLc2, dYes, dInW, dTail, dHead, dRev, dMerge, dNew, dCount, dFor, List.getElem?_cons_zero, List.getElem?_cons_succ, List.map, List.length, List.replicate, List.append, List.cons_append, List.nil_append, List.append_nil, List.set, Option.map, Nat.sub_self, ne_pt, ne_pi, ne_pa, ne_tp, ne_ti, ne_ta, ne_ip, ne_it, ne_ia, ne_ap, ne_at, ne_ai, ne_kt, ne_kp, ne_pk, ne_pu, ne_uk, ne_up, okd_int, okd_bl, okd_pairs, okd_takes, okd_tie, okd_ask, okd_know, okd_part, okd_turn, tkey_ii, eqv_int, eqv_str, atI_0, atI_1, atI_2, atI_3, atI_4, ci, eqv_bl, lay_ii, atI_5]
    refine dGo_enum (vw k) 0 [] _ (by simp; omega) (fun v i acc R ha hR => ?_) ?_
    · simp [dStep, dwipe, dstart, dSeq, dRet, dAsg, dPar, dIfS, dDrop, dNext, dVar, dC, dOp, dTst, dAnd, dOr, dNot, dIf, dAndV, dOrV, dNotV, dChain, dNil, dCons, dTup, dLst, dCall, plains, dIsi, isaP, drI, drI0, drPlus, drIx, drEq, drNe, drIn, drNIn, drIsN, drNotN, drLen, drAll, drSum, drMin, drMax, drTuple, drList, drDict, drInt, drAbs, dIterL, dIterT, dRng1, dRng2, dEnum, Tgt.put, dLc, dLc2, dYes, dInW, dTail, dHead, dRev, dMerge, dNew, dCount, dFor, List.getElem?_cons_zero, List.getElem?_cons_succ, List.map, List.length, List.replicate, List.append, List.cons_append, List.nil_append, List.append_nil, List.set, Option.map, Nat.sub_self, ne_pt, ne_pi, ne_pa, ne_tp, ne_ti, ne_ta, ne_ip, ne_it, ne_ia, ne_ap, ne_at, ne_ai, ne_kt, ne_kp, ne_pk, ne_pu, ne_uk, ne_up, okd_int, okd_bl, okd_pairs, okd_takes, okd_tie, okd_ask, okd_know, okd_part, okd_turn, tkey_ii, eqv_int, eqv_str, atI_0, atI_1, atI_2, atI_3, atI_4, ci, eqv_bl, lay_ii, atI_5]
      exact ⟨ha, hR⟩
    · rw [List.nil_append, pairsOf_numb]
      refine ⟨numb_nd (vw_nd hk) 0, ?_⟩
      simp [Function.comp_def, dstart, dSeq, dRet, dAsg, dPar, dIfS, dDrop, dNext, dVar, dC, dOp, dTst, dAnd, dOr, dNot, dIf, dAndV, dOrV, dNotV, dChain, dNil, dCons, dTup, dLst, dCall, plains, dIsi, isaP, drI, drI0, drPlus, drIx, drEq, drNe, drIn, drNIn, drIsN, drNotN, drLen, drAll, drSum, drMin, drMax, drTuple, drList, drDict, drInt, drAbs, dIterL, dIterT, dRng1, dRng2, dEnum, Tgt.put, dLc, dLc2, dYes, dInW, dTail, dHead, dRev, dMerge, dNew, dCount, dFor, List.getElem?_cons_zero, List.getElem?_cons_succ, List.map, List.length, List.replicate, List.append, List.cons_append, List.nil_append, List.append_nil, List.set, Option.map, Nat.sub_self, ne_pt, ne_pi, ne_pa, ne_tp, ne_ti, ne_ta, ne_ip, ne_it, ne_ia, ne_ap, ne_at, ne_ai, ne_kt, ne_kp, ne_pk, ne_pu, ne_uk, ne_up, okd_int, okd_bl, okd_pairs, okd_takes, okd_tie, okd_ask, okd_know, okd_part, okd_turn, tkey_ii, eqv_int, eqv_str, atI_0, atI_1, atI_2, atI_3, atI_4, ci, eqv_bl, lay_ii, atI_5]
      refine dGo_map (fun v : Co => .d (eCo v)) (fun v => eN (place (run1 v s) (vw k))) (vw k) [] _ (by simp; omega) (fun v hv acc R ha hR => ?_) ?_
      · have hv1 := (mem_vw.mp hv).1
        simp [dStep, dwipe, dstart, dSeq, dRet, dAsg, dPar, dIfS, dDrop, dNext, dVar, dC, dOp, dTst, dAnd, dOr, dNot, dIf, dAndV, dOrV, dNotV, dChain, dNil, dCons, dTup, dLst, dCall, plains, dIsi, isaP, drI, drI0, drPlus, drIx, drEq, drNe, drIn, drNIn, drIsN, drNotN, drLen, drAll, drSum, drMin, drMax, drTuple, drList, drDict, drInt, drAbs, dIterL, dIterT, dRng1, dRng2, dEnum, Tgt.put, dLc, dLc2, dYes, dInW, dTail, dHead, dRev, dMerge, dNew, dCount, dFor, List.getElem?_cons_zero, List.getElem?_cons_succ, List.map, List.length, List.replicate, List.append, List.cons_append, List.nil_append, List.append_nil, List.set, Option.map, Nat.sub_self, ne_pt, ne_pi, ne_pa, ne_tp, ne_ti, ne_ta, ne_ip, ne_it, ne_ia, ne_ap, ne_at, ne_ai, ne_kt, ne_kp, ne_pk, ne_pu, ne_uk, ne_up, okd_int, okd_bl, okd_pairs, okd_takes, okd_tie, okd_ask, okd_know, okd_part, okd_turn, tkey_ii, eqv_int, eqv_str, atI_0, atI_1, atI_2, atI_3, atI_4, ci, eqv_bl, lay_ii, atI_5]
        refine ⟨v, s, rfl, by rcases hk with rfl | rfl <;> omega, fun i hi => (hs i hi).mono (by omega), hz, fun l => ?_⟩
        have e := look_numb (i := 0) (run_vw s v hv)
        simp [ne_pt, ne_pi, ne_pa, ne_tp, ne_ti, ne_ta, ne_ip, ne_it, ne_ia, ne_ap, ne_at, ne_ai, ne_kt, ne_kp, ne_pk, ne_pu, ne_uk, ne_up, okd_int, okd_bl, okd_pairs, okd_takes, okd_tie, okd_ask, okd_know, okd_part, okd_turn, tkey_ii, eqv_int, eqv_str, atI_0, atI_1, atI_2, atI_3, atI_4, ci, eqv_bl, lay_ii, atI_5, tkey_co, e]
        exact ⟨ha, hR⟩
      · rw [List.nil_append]
        unfold eTab tab at h
        rw [List.map_map] at h
        exact h
theorem ok_tables_by : Ok P w K mg base "tables_by" ["named", "stock"] 6 Ttables_by := by
  refine Dtables_by F (ok_table_by F) (fun ds Q h => ?_) (fun ds Q h => ?_)
  · obtain ⟨c, s, rfl, h⟩ := h
    rfl
  · obtain ⟨k, st, rfl, hk, hs, h⟩ := h
    have hbig := big_line
    obtain ⟨h1, h2, h3⟩ := hs
    simp [Btables_by, eSt, Function.comp_def, dstart, dSeq, dRet, dAsg, dPar, dIfS, dDrop, dNext, dVar, dC, dOp, dTst, dAnd, dOr, dNot, dIf, dAndV, dOrV, dNotV, dChain, dNil, dCons, dTup, dLst, dCall, plains, dIsi, isaP, drI, drI0, drPlus, drIx, drEq, drNe, drIn, drNIn, drIsN, drNotN, drLen, drAll, drSum, drMin, drMax, drTuple, drList, drDict, drInt, drAbs, dIterL, dIterT, dRng1, dRng2, dEnum, Tgt.put, dLc, dLc2, dYes, dInW, dTail, dHead, dRev, dMerge, dNew, dCount, dFor, List.getElem?_cons_zero, List.getElem?_cons_succ, List.map, List.length, List.replicate, List.append, List.cons_append, List.nil_append, List.append_nil, List.set, Option.map, Nat.sub_self, ne_pt, ne_pi, ne_pa, ne_tp, ne_ti, ne_ta, ne_ip, ne_it, ne_ia, ne_ap, ne_at, ne_ai, ne_kt, ne_kp, ne_pk, ne_pu, ne_uk, ne_up, okd_int, okd_bl, okd_pairs, okd_takes, okd_tie, okd_ask, okd_know, okd_part, okd_turn, tkey_ii, eqv_int, eqv_str, atI_0, atI_1, atI_2, atI_3, atI_4, ci, eqv_bl, lay_ii, atI_5]
    refine dGo_map (fun v : List It1 => .d (eScr v)) (fun s => eTab (tab k s)) st [] _ (by simp; omega) (fun v hv acc R ha hR => ?_) ?_
    · simp [dStep, dwipe, dstart, dSeq, dRet, dAsg, dPar, dIfS, dDrop, dNext, dVar, dC, dOp, dTst, dAnd, dOr, dNot, dIf, dAndV, dOrV, dNotV, dChain, dNil, dCons, dTup, dLst, dCall, plains, dIsi, isaP, drI, drI0, drPlus, drIx, drEq, drNe, drIn, drNIn, drIsN, drNotN, drLen, drAll, drSum, drMin, drMax, drTuple, drList, drDict, drInt, drAbs, dIterL, dIterT, dRng1, dRng2, dEnum, Tgt.put, dLc, dLc2, dYes, dInW, dTail, dHead, dRev, dMerge, dNew, dCount, dFor, List.getElem?_cons_zero, List.getElem?_cons_succ, List.map, List.length, List.replicate, List.append, List.cons_append, List.nil_append, List.append_nil, List.set, Option.map, Nat.sub_self, ne_pt, ne_pi, ne_pa, ne_tp, ne_ti, ne_ta, ne_ip, ne_it, ne_ia, ne_ap, ne_at, ne_ai, ne_kt, ne_kp, ne_pk, ne_pu, ne_uk, ne_up, okd_int, okd_bl, okd_pairs, okd_takes, okd_tie, okd_ask, okd_know, okd_part, okd_turn, tkey_ii, eqv_int, eqv_str, atI_0, atI_1, atI_2, atI_3, atI_4, ci, eqv_bl, lay_ii, atI_5]
      exact ⟨k, v, rfl, hk, (h3 v hv).1, by have := (h3 v hv).2; omega, ha, hR⟩
    · rw [List.nil_append]
      exact h
end
end TW
namespace TW
open PySem PySem.Spec PyProof.Rows L2 FL
/-! ### uniting pairs -/
def fd (U : List Pr) : List (NestedKey × PyData) := U.map fun p => (kPr p, .bool true)
def lead (U : List Pr) (tt : List (List Nat)) (p : Pr) : Bool := tt.any fun t => decide (t.getD p.1 0 = t.getD p.2 0) || decide (mm (t.getD p.1 0) (t.getD p.2 0) ∈ U)
def rnd (tt : List (List Nat)) (n : Nat) (U : List Pr) : List Pr := (prs n).filter fun p => decide (p ∉ U) && lead U tt p
inductive Un (tt : List (List Nat)) (n : Nat) : List Pr → List Pr → Prop
  | done {U : List Pr} : rnd tt n U = [] → Un tt n U U
  | step {U V : List Pr} : rnd tt n U ≠ [] → Un tt n (U ++ rnd tt n U) V → Un tt n U V
theorem Un.det {tt : List (List Nat)} {n : Nat} {U V : List Pr} (h : Un tt n U V) : ∀ {V'}, Un tt n U V' → V = V' := by
  induction h with
  | done e =>
    intro V' h'
    cases h' with
    | done _ => rfl
    | step e' _ => exact absurd e e'
  | step e _ ih =>
    intro V' h'
    cases h' with
    | done e' => exact absurd e' e
    | step _ h' => exact ih h'
/-! hashes apart -/
def hp (p : Pr) : Int := reduceHash (Builtin.Tuple.tupleHashOf [hashInt p.1, hashInt p.2])
theorem hp_eq (w : World) (p : Pr) : (kPr p).hash w = hp p := by
  simp [kPr, NestedKey.hash, NestedKey.hashes]
  rfl
def ck (f : Pr → Nat) : List Pr → Nat → Bool
  | [], _ => true
  | p :: r, m => match m.testBit (f p) with
    | true => false
    | false => (match m ||| (1 <<< f p) with
      | 0 => false
      | m' + 1 => ck f r (m' + 1))
theorem ck_cons {f : Pr → Nat} {p : Pr} {r : List Pr} {m : Nat} (h : ck f (p :: r) m = true) : m.testBit (f p) = false ∧ ck f r (m ||| (1 <<< f p)) = true := by
  unfold ck at h
  split at h
  · cases h
  · rename_i e
    refine ⟨e, ?_⟩
    split at h
    · cases h
    · rename_i e2
      rw [e2]
      exact h
theorem ck_nd {f : Pr → Nat} : ∀ {l : List Pr} {m : Nat}, ck f l m = true → (∀ p ∈ l, m.testBit (f p) = false) ∧ (l.map f).Nodup
  | [], _, _ => ⟨by simp, by simp⟩
  | p :: r, m, h => by
    obtain ⟨h1, h2⟩ := ck_cons h
    obtain ⟨h3, h4⟩ := ck_nd h2
    have h5 : ∀ q ∈ r, m.testBit (f q) = false ∧ f q ≠ f p := fun q hq => by
      have := h3 q hq
      rw [Nat.testBit_or] at this
      simp only [Bool.or_eq_false_iff] at this
      refine ⟨this.1, fun e => ?_⟩
      have h6 := this.2
      rw [e, Nat.testBit_shiftLeft] at h6
      simp at h6
    refine ⟨fun q hq => ?_, ?_⟩
    · rcases List.mem_cons.mp hq with z | z
      · rw [z]; exact h1
      · exact (h5 q z).1
    · rw [List.map_cons, List.nodup_cons]
      refine ⟨fun z => ?_, h4⟩
      obtain ⟨q, hq, e⟩ := List.mem_map.mp z
      exact (h5 q hq).2 e
def hm (p : Pr) : Nat := (hp p % 18057).toNat
theorem ck64 : ck hm (prs 64) 0 = true := by decide +kernel
theorem inj_of_nd {α β : Type} {f : α → β} : ∀ {l : List α}, (l.map f).Nodup → ∀ a ∈ l, ∀ b ∈ l, f a = f b → a = b
  | [], _, a, ha, _, _, _ => by cases ha
  | x :: l, h, a, ha, b, hb, e => by
    rw [List.map_cons, List.nodup_cons] at h
    rcases List.mem_cons.mp ha with za | za <;> rcases List.mem_cons.mp hb with zb | zb
    · rw [za, zb]
    · exact absurd (List.mem_map.mpr ⟨b, zb, by rw [← e, za]⟩) h.1
    · exact absurd (List.mem_map.mpr ⟨a, za, by rw [e, zb]⟩) h.1
    · exact inj_of_nd h.2 a za b zb e
theorem hp_inj {p q : Pr} (a : p ∈ prs 64) (b : q ∈ prs 64) (h : hp p = hp q) : p = q := inj_of_nd (ck_nd ck64).2 p a q b (by unfold hm; rw [h])
theorem prs_mono {n : Nat} (h : n ≤ 64) {p : Pr} (m : p ∈ prs n) : p ∈ prs 64 := by
  rw [mem_prs] at m ⊢
  omega
theorem apart_map (w : World) (U : List Pr) : ((fd U).map fun p => p.1.hash w) = U.map hp := by
  simp only [fd, List.map_map, Function.comp_def, hp_eq]
theorem apart_nd {U : List Pr} (hU : ∀ p ∈ U, p ∈ prs 64) (nd : U.Nodup) : (U.map hp).Nodup :=
  List.pairwise_map.mpr (List.Pairwise.imp_of_mem (fun {a b} ha hb ne e => ne (hp_inj (hU a ha) (hU b hb) e)) nd)
theorem apart_fd {U : List Pr} (hU : ∀ p ∈ U, p ∈ prs 64) (nd : U.Nodup) : Apart (fd U) := fun w => (apart_map w U) ▸ apart_nd hU nd
theorem look_fd (U : List Pr) (q : Pr) : lookK (fd U) (kPr q) = if q ∈ U then some (.bool true) else none := lookK_pr _ q U
theorem some_fd (U : List Pr) (q : Pr) : (lookK (fd U) (kPr q)).isSome = decide (q ∈ U) := by
  rw [look_fd]
  by_cases h : q ∈ U <;> simp [h]
theorem mmI1 (a b : Nat) : (if (b : Int) < a then (b : Int) else a) = ((mm a b).1 : Int) := by
  unfold mm
  by_cases h : a ≤ b
  · rw [if_neg (by omega), if_pos h]
  · rw [if_pos (by omega), if_neg h]
theorem mmI2 (a b : Nat) : (if (a : Int) < b then (b : Int) else a) = ((mm a b).2 : Int) := by
  unfold mm
  by_cases h : a ≤ b
  · rw [if_pos h]
    by_cases h2 : (a : Int) < b
    · rw [if_pos h2]
    · rw [if_neg h2]
      show (a : Int) = b
      omega
  · rw [if_neg (by omega), if_neg h]
theorem kPr_mm (p : Pr) : NestedKey.tup [.num (p.1 : Int), .num (p.2 : Int)] = kPr p := rfl
end TW
namespace TW
open PySem PySem.Spec PyProof.Rows L2 FL
/-! ### what the defs do -/
def eTt (tt : List (List Nat)) : PyData := .list (tt.map eTab)
def TtOk (n : Nat) (tt : List (List Nat)) : Prop := ∀ t ∈ tt, t.length = n
def Tis_united : DRs := fun ds Q => ∃ (U : List Pr) (tt : List (List Nat)) (n : Nat) (p : Pr), ds = [.dct (fd U), .d (eTt tt), .d (ePr p)] ∧ TtOk n tt ∧ p ∈ prs n ∧ Q (dB (lead U tt p))
def Tunited : DRs := fun ds Q => ∃ (tt : List (List Nat)) (n : Nat), ds = [.d (eTt tt), .d (eN n)] ∧ TtOk n tt ∧ n ≤ 64 ∧ ∀ U, Un tt n [] U → Q (.dct (fd U))
def eOp : Option Pr → PyData
  | some p => ePr p
  | none => .none
def lastD (n : Nat) (U : List Pr) : Option Pr := (prs n).find? fun p => decide (p ∉ U)
def Tlasting_in : DRs := fun ds Q => ∃ (tt : List (List Nat)) (n : Nat), ds = [.d (eTt tt), .d (eN n)] ∧ TtOk n tt ∧ n ≤ 64 ∧ ∀ U, Un tt n [] U → Q (.d (eOp (lastD n U)))
def vn (k : Nat) : Nat := (vw k).length
def Tlasting_pair : DRs := fun ds Q => ∃ (k : Nat) (st : List (List It1)), ds = [.d (eN k), .d (eSt st)] ∧ (k = 1 ∨ k = 2) ∧ StOk k st ∧ ∀ U, Un (st.map (tab k)) (vn k) [] U → Q (.d (eOp (lastD (vn k) U)))
def Tforgetting_way : DRs := fun ds Q => ∃ (k : Nat) (st : List (List It1)), ds = [.d (eN k), .d (eSt st)] ∧ (k = 1 ∨ k = 2) ∧ StOk k st ∧ (∀ U, Un (st.map (tab k)) (vn k) [] U → lastD (vn k) U ≠ none) ∧ Q dN
def Bis_united : DTS := dSeq (dFor (dIterL (dVar 1)) (.nm 3) (dSeq (dPar 4 5 (dOp drIx (dVar 3) (dOp drIx (dVar 2) (dC (dI 0)))) (dOp drIx (dVar 3) (dOp drIx (dVar 2) (dC (dI 1))))) (dIfS (dOr (dTst (dOp drEq (dVar 4) (dVar 5))) (dTst (dOp drIn (dTup (dCons (dCall drMin (dCons (dVar 4) (dCons (dVar 5) (dNil)))) (dCons (dCall drMax (dCons (dVar 4) (dCons (dVar 5) (dNil)))) (dNil)))) (dVar 0)))) (dRet (dC (dB true))) (dNext)))) (dRet (dC (dB false)))
theorem Sis_united : FnScope ["found", "tables", "pair", "table", "one", "other"] ["found", "tables", "pair"] (defScope (top 39)) := ⟨rfl, rfl, rfl, by decide +kernel, rfl, by decide +kernel, by decide +kernel⟩
theorem Dis_united {P : Program} {w : World} {K : PySem.W.Frag} {mg : Str → Option Value} {base : Heap} (F : Fc K mg)  {T : DRs} (hlen : ∀ ds Q, T ds Q → ds.length = 3) (hT : ∀ ds Q, T ds Q → Bis_united { nx := fun _ => Q dN, rt := Q } (dstart ["found", "tables", "pair", "table", "one", "other"] ds)) : Ok P w K mg base "is_united" ["found", "tables", "pair"] (0 + 1) T :=
  ok_fn F 22 (j := 39) rfl Sis_united T (Bis_united) hlen hT (fun _ _ _ _ _ _ us hl => match us, hl with | [_, _, _], _ => rfl) fun f cdv A outer s H E hr => dss_cons (ds_for PassesOwn.never rfl (di_list (dv 1)) (pg_nm (i := 3) Sis_united.nd rfl (by first | exact .inl rfl | exact .inr rfl)) (dss_cons (ds_par (i := 4) (j := 5) rfl Sis_united.nd rfl rfl (by decide) rfl rfl (de_ix (xd_ix hr.units) (dv 3) (de_ix (xd_ix hr.units) (dv 2) (de_int) (fun _ _ => rfl)) (fun _ _ => rfl)) (de_ix (xd_ix hr.units) (dv 3) (de_ix (xd_ix hr.units) (dv 2) (de_int) (fun _ _ => rfl)) (fun _ _ => rfl)) rfl) (dss_one (ds_if (dt_w (dw_or (dt_cmp (od_eq hr.units) (dv 4) (dv 5) (nomark _)) (dw_or1 (dt_cmp (od_in (r65 hr)) (de_tup (da_cons (de_callB (cd_min rfl) rfl F.free_min boot_min (da_cons (dv 4) (da_cons (dv 5) (da_nil)))) (da_cons (de_callB (cd_max rfl) rfl F.free_max boot_max (da_cons (dv 4) (da_cons (dv 5) (da_nil)))) (da_nil)))) (dv 0) (by with_unfolding_all rfl))))) (dss_one (ds_ret (de_bl))) (dss_nil))))) (dss_one (ds_ret (de_bl)))
def Bunited : DTS := dSeq (dPar 2 3 (dNew) (dLc2 (dRng1 (dVar 1)) (.nm 6) (dRng2 (dOp drPlus (dVar 6) (dC (dI 1))) (dVar 1)) (.nm 7) (dYes) (dTup (dCons (dVar 6) (dCons (dVar 7) (dNil)))) [6, 7] [7])) (dSeq (dAsg (dC (dB true)) (.nm 4)) (dSeq (dWhile (dTst (dVar 4)) (dSeq (dAsg (dLc (dIterL (dVar 3)) (.nm 8) (dAnd (dTst (dOp drNIn (dVar 8) (dVar 2))) (dTst (dCall Tis_united (dCons (dVar 2) (dCons (dVar 0) (dCons (dVar 8) (dNil))))))) (dVar 8) [8]) (.nm 5)) (dPar 2 4 (dMerge (dVar 2) (dCall drDict (dCons (dLc (dIterL (dVar 5)) (.nm 8) (dYes) (dTup (dCons (dVar 8) (dCons (dC (dB true)) (dNil)))) [8]) (dNil)))) (dOp drNe (dVar 5) (dLst (dNil)))))) (dRet (dVar 2))))
theorem Sunited : FnScope ["tables", "many", "found", "pairs", "is_new", "fresh", "one", "other", "pair"] ["tables", "many"] (defScope (top 38)) := ⟨rfl, rfl, rfl, by decide +kernel, rfl, by decide +kernel, by decide +kernel⟩
theorem Dunited {P : Program} {w : World} {K : PySem.W.Frag} {mg : Str → Option Value} {base : Heap} (F : Fc K mg) (ois_united : Ok P w K mg base "is_united" ["found", "tables", "pair"] 1 Tis_united) {T : DRs} (hlen : ∀ ds Q, T ds Q → ds.length = 2) (hT : ∀ ds Q, T ds Q → Bunited { nx := fun _ => Q dN, rt := Q } (dstart ["tables", "many", "found", "pairs", "is_new", "fresh", "one", "other", "pair"] ds)) : Ok P w K mg base "united" ["tables", "many"] (1 + 1) T :=
  ok_fn F 21 (j := 38) rfl Sunited T (Bunited) hlen hT (fun _ _ _ _ _ _ us hl => match us, hl with | [_, _], _ => rfl) fun f cdv A outer s H E hr => dss_cons (ds_par2 (i := 2) (j := 3) rfl (pg_nm (i := 2) Sunited.nd rfl (by first | exact .inl rfl | exact .inr rfl)) (pg_nm (i := 3) Sunited.nd rfl (by first | exact .inl rfl | exact .inr rfl)) (de_dnew) (de_lc2 (vs1 := [7]) rfl Sunited.nd (di_range1 rfl F.free_range (dv 1)) (own := [("one", 6), ("other", 7)]) (blkOk_by (by kernel_rfl)) (by decide) (fun _ _ _ _ _ => pg_nm (i := 6) Sunited.nd rfl (by first | exact .inl rfl | exact .inr rfl)) (fun _ _ _ _ _ => di_range2 rfl F.free_range (de_bin od_plus (dv 6) (de_int)) (dv 1)) (fun _ _ _ _ _ => pg_nm (i := 7) Sunited.nd rfl (by first | exact .inl rfl | exact .inr rfl)) (fun _ _ _ _ _ => dts_nil) (fun _ _ _ _ _ => de_tup (da_cons (dv 6) (da_cons (dv 7) (da_nil)))))) (dss_cons (ds_set (i := 4) Sunited.nd rfl (by first | exact .inl rfl | exact .inr rfl) (de_bl)) (dss_cons (ds_while PassesOwn.never (dt_val (dv 4)) (dss_cons (ds_setLc (i := 5) rfl Sunited.nd rfl rfl (sw_true rfl rfl rfl rfl) (di_list (dv 3)) (own := [("pair", 8)]) (blkOk_by (by kernel_rfl)) (fun _ _ _ _ _ => pg_nm (i := 8) Sunited.nd rfl (by first | exact .inl rfl | exact .inr rfl)) (fun _ _ _ _ _ => dts_one (dt_w (dw_and (dt_cmp (od_nin (r65 hr)) (dv 8) (dv 2) (by with_unfolding_all rfl)) (dw_and1 (dt_val (ok_call ois_united hr (by decide) rfl (da_cons (dv 2) (da_cons (dv 0) (da_cons (dv 8) (da_nil)))))))))) (fun _ _ _ _ _ => dv 8)) (dss_one (ds_par2 (i := 2) (j := 4) rfl (pg_nm (i := 2) Sunited.nd rfl (by first | exact .inl rfl | exact .inr rfl)) (pg_nm (i := 4) Sunited.nd rfl (by first | exact .inl rfl | exact .inr rfl)) (de_merge hr.units (dv 2) (de_callTy (cd_dict rfl hr.units) rfl F.free_dict boot_dict (da_cons (de_lc rfl Sunited.nd (di_list (dv 5)) (own := [("pair", 8)]) (blkOk_by (by kernel_rfl)) (fun _ _ _ _ _ => pg_nm (i := 8) Sunited.nd rfl (by first | exact .inl rfl | exact .inr rfl)) (fun _ _ _ _ _ => dts_nil) (fun _ _ _ _ _ => de_tup (da_cons (dv 8) (da_cons (de_bl) (da_nil))))) (da_nil)))) (de_cmp (od_ne hr.units) (dv 5) (de_lst (da_nil)) (nomark _)))))) (dss_one (ds_ret (dv 2)))))
def Blasting_in : DTS := dSeq (dAsg (dCall Tunited (dCons (dVar 0) (dCons (dVar 1) (dNil)))) (.nm 2)) (dSeq (dFor (dRng1 (dVar 1)) (.nm 3) (dFor (dRng2 (dOp drPlus (dVar 3) (dC (dI 1))) (dVar 1)) (.nm 4) (dIfS (dTst (dOp drNIn (dTup (dCons (dVar 3) (dCons (dVar 4) (dNil)))) (dVar 2))) (dRet (dTup (dCons (dVar 3) (dCons (dVar 4) (dNil))))) (dNext)))) (dRet (dC dN)))
theorem Slasting_in : FnScope ["tables", "many", "found", "one", "other"] ["tables", "many"] (defScope (top 40)) := ⟨rfl, rfl, rfl, by decide +kernel, rfl, by decide +kernel, by decide +kernel⟩
theorem Dlasting_in {P : Program} {w : World} {K : PySem.W.Frag} {mg : Str → Option Value} {base : Heap} (F : Fc K mg) (ounited : Ok P w K mg base "united" ["tables", "many"] 2 Tunited) {T : DRs} (hlen : ∀ ds Q, T ds Q → ds.length = 2) (hT : ∀ ds Q, T ds Q → Blasting_in { nx := fun _ => Q dN, rt := Q } (dstart ["tables", "many", "found", "one", "other"] ds)) : Ok P w K mg base "lasting_in" ["tables", "many"] (2 + 1) T :=
  ok_fn F 23 (j := 40) rfl Slasting_in T (Blasting_in) hlen hT (fun _ _ _ _ _ _ us hl => match us, hl with | [_, _], _ => rfl) fun f cdv A outer s H E hr => dss_cons (ds_set (i := 2) Slasting_in.nd rfl (by first | exact .inl rfl | exact .inr rfl) (ok_call ounited hr (by decide) rfl (da_cons (dv 0) (da_cons (dv 1) (da_nil))))) (dss_cons (ds_for PassesOwn.never rfl (di_range1 rfl F.free_range (dv 1)) (pg_nm (i := 3) Slasting_in.nd rfl (by first | exact .inl rfl | exact .inr rfl)) (dss_one (ds_for PassesOwn.never rfl (di_range2 rfl F.free_range (de_bin od_plus (dv 3) (de_int)) (dv 1)) (pg_nm (i := 4) Slasting_in.nd rfl (by first | exact .inl rfl | exact .inr rfl)) (dss_one (ds_if (dt_cmp (od_nin (r65 hr)) (de_tup (da_cons (dv 3) (da_cons (dv 4) (da_nil)))) (dv 2) (by with_unfolding_all rfl)) (dss_one (ds_ret (de_tup (da_cons (dv 3) (da_cons (dv 4) (da_nil)))))) (dss_nil)))))) (dss_one (ds_ret (de_non))))
def Blasting_pair : DTS := dSeq (dDrop (dCall Tneed_one_or_two (dCons (dVar 0) (dNil)))) (dSeq (dDrop (dCall Tneed_stock (dCons (dVar 0) (dCons (dVar 1) (dNil))))) (dRet (dCall Tlasting_in (dCons (dCall Ttables_by (dCons (dVar 0) (dCons (dVar 1) (dNil)))) (dCons (dCall drLen (dCons (dCall Tall_views (dCons (dVar 0) (dNil))) (dNil))) (dNil))))))
theorem Slasting_pair : FnScope ["named", "stock"] ["named", "stock"] (defScope (top 43)) := ⟨rfl, rfl, rfl, by decide +kernel, rfl, by decide +kernel, by decide +kernel⟩
theorem Dlasting_pair {P : Program} {w : World} {K : PySem.W.Frag} {mg : Str → Option Value} {base : Heap} (F : Fc K mg) (oneed_one_or_two : Ok P w K mg base "need_one_or_two" ["value"] 2 Tneed_one_or_two) (oneed_stock : Ok P w K mg base "need_stock" ["named", "value"] 8 Tneed_stock) (olasting_in : Ok P w K mg base "lasting_in" ["tables", "many"] 3 Tlasting_in) (oall_views : Ok P w K mg base "all_views" ["named"] 2 Tall_views) (otables_by : Ok P w K mg base "tables_by" ["named", "stock"] 6 Ttables_by) {T : DRs} (hlen : ∀ ds Q, T ds Q → ds.length = 2) (hT : ∀ ds Q, T ds Q → Blasting_pair { nx := fun _ => Q dN, rt := Q } (dstart ["named", "stock"] ds)) : Ok P w K mg base "lasting_pair" ["named", "stock"] (8 + 1) T :=
  ok_fn F 25 (j := 43) rfl Slasting_pair T (Blasting_pair) hlen hT (fun _ _ _ _ _ _ us hl => match us, hl with | [_, _], _ => rfl) fun f cdv A outer s H E hr => dss_cons (ds_drop (ok_call oneed_one_or_two hr (by decide) rfl (da_cons (dv 0) (da_nil)))) (dss_cons (ds_drop (ok_call oneed_stock hr (by decide) rfl (da_cons (dv 0) (da_cons (dv 1) (da_nil))))) (dss_one (ds_ret (ok_call olasting_in hr (by decide) rfl (da_cons (ok_call otables_by hr (by decide) rfl (da_cons (dv 0) (da_cons (dv 1) (da_nil)))) (da_cons (de_callB cd_len rfl F.free_len boot_len (da_cons (ok_call oall_views hr (by decide) rfl (da_cons (dv 0) (da_nil))) (da_nil))) (da_nil)))))))
def Bforgetting_way : DTS := dSeq (dDrop (dCall Tneed_one_or_two (dCons (dVar 0) (dNil)))) (dSeq (dDrop (dCall Tneed_stock (dCons (dVar 0) (dCons (dVar 1) (dNil))))) (dSeq (dPar 2 3 (dCall Ttables_by (dCons (dVar 0) (dCons (dVar 1) (dNil)))) (dCall drLen (dCons (dCall Tall_views (dCons (dVar 0) (dNil))) (dNil)))) (dSeq (dIfS (dTst (dOp drNotN (dCall Tlasting_in (dCons (dVar 2) (dCons (dVar 3) (dNil)))) (dC dN))) (dRet (dC dN)) (dNext)) (dNever))))
theorem Sforgetting_way : FnScope ["named", "stock", "tables", "many"] ["named", "stock"] (defScope (top 44)) := ⟨rfl, rfl, rfl, by decide +kernel, rfl, by decide +kernel, by decide +kernel⟩
theorem Dforgetting_way {P : Program} {w : World} {K : PySem.W.Frag} {mg : Str → Option Value} {base : Heap} (F : Fc K mg) (oneed_one_or_two : Ok P w K mg base "need_one_or_two" ["value"] 2 Tneed_one_or_two) (oneed_stock : Ok P w K mg base "need_stock" ["named", "value"] 8 Tneed_stock) (otables_by : Ok P w K mg base "tables_by" ["named", "stock"] 6 Ttables_by) (oall_views : Ok P w K mg base "all_views" ["named"] 2 Tall_views) (olasting_in : Ok P w K mg base "lasting_in" ["tables", "many"] 3 Tlasting_in) {T : DRs} (hlen : ∀ ds Q, T ds Q → ds.length = 2) (hT : ∀ ds Q, T ds Q → Bforgetting_way { nx := fun _ => Q dN, rt := Q } (dstart ["named", "stock", "tables", "many"] ds)) : Ok P w K mg base "forgetting_way" ["named", "stock"] (8 + 1) T :=
  ok_fn F 26 (j := 44) rfl Sforgetting_way T (Bforgetting_way) hlen hT (fun _ _ _ _ _ _ us hl => match us, hl with | [_, _], _ => rfl) fun f cdv A outer s H E hr => dss_cons (ds_drop (ok_call oneed_one_or_two hr (by decide) rfl (da_cons (dv 0) (da_nil)))) (dss_cons (ds_drop (ok_call oneed_stock hr (by decide) rfl (da_cons (dv 0) (da_cons (dv 1) (da_nil))))) (dss_cons (ds_par (i := 2) (j := 3) rfl Sforgetting_way.nd rfl rfl (by decide) rfl rfl (ok_call otables_by hr (by decide) rfl (da_cons (dv 0) (da_cons (dv 1) (da_nil)))) (de_callB cd_len rfl F.free_len boot_len (da_cons (ok_call oall_views hr (by decide) rfl (da_cons (dv 0) (da_nil))) (da_nil))) rfl) (dss_cons (ds_if (dt_cmp od_notN (ok_call olasting_in hr (by decide) rfl (da_cons (dv 2) (da_cons (dv 3) (da_nil)))) (de_non) (nomark _)) (dss_one (ds_ret (de_non))) (dss_nil)) (dss_one (ds_never)))))
theorem getD_tab (t : List Nat) (i : Nat) (h : i < t.length) : atI (t.map eN) (i : Int) = some (eN (t.getD i 0)) := by
  rw [atI_nat _ _ (by simpa using h)]
  simp [h]
theorem mmN1 (a b : Nat) : (if b < a then (b : Int) else a) = ((mm a b).1 : Int) := by
  unfold mm
  by_cases h : a ≤ b
  · rw [if_neg (by omega), if_pos h]
  · rw [if_pos (by omega), if_neg h]
theorem mmN2 (a b : Nat) : (if a < b then (b : Int) else a) = ((mm a b).2 : Int) := by
  unfold mm
  by_cases h : a ≤ b
  · rw [if_pos h]
    by_cases h2 : a < b
    · rw [if_pos h2]
    · rw [if_neg h2]
      show (a : Int) = b
      omega
  · rw [if_neg (by omega), if_neg h]
def Iiu (U : List Pr) (tt : List (List Nat)) (p : Pr) (r : List (List Nat)) (δ : DEnv) : Prop := ∃ x y z : Option FL.D, δ = [some (.dct (fd U)), some (.d (eTt tt)), some (.d (ePr p)), x, y, z] ∧ lead U tt p = lead U r p
section
variable {P : Program} {w : World} {K : PySem.W.Frag} {mg : Str → Option Value} {base : Heap} (F : Fc K mg)
include F
theorem ok_is_united : Ok P w K mg base "is_united" ["found", "tables", "pair"] 1 Tis_united := by
  refine Dis_united F (fun ds Q h => ?_) (fun ds Q h => ?_)
  · obtain ⟨U, tt, n, p, rfl, h⟩ := h
    rfl
  · obtain ⟨U, tt, n, p, rfl, ht, hp, h⟩ := h
    obtain ⟨hp1, hp2⟩ := mem_prs.mp hp
    simp [Bis_united, eTt, Function.comp_def, dstart, dSeq, dRet, dAsg, dPar, dIfS, dDrop, dNext, dVar, dC, dOp, dTst, dAnd, dOr, dNot, dIf, dAndV, dOrV, dNotV, dChain, dNil, dCons, dTup, dLst, dCall, plains, dIsi, isaP, drI, drI0, drPlus, drIx, drEq, drNe, drIn, drNIn, drIsN, drNotN, drLen, drAll, drSum, drMin, drMax, drTuple, drList, drDict, drInt, drAbs, dIterL, dIterT, dRng1, dRng2, dEnum, Tgt.put, dLc, dLc2, dYes, dInW, dTail, dHead, dRev, dMerge, dNew, dCount, dFor, List.getElem?_cons_zero, List.getElem?_cons_succ, List.map, List.length, List.replicate, List.append, List.cons_append, List.nil_append, List.append_nil, List.set, Option.map, Nat.sub_self, ne_pt, ne_pi, ne_pa, ne_tp, ne_ti, ne_ta, ne_ip, ne_it, ne_ia, ne_ap, ne_at, ne_ai, ne_kt, ne_kp, ne_pk, ne_pu, ne_uk, ne_up, okd_int, okd_bl, okd_pairs, okd_takes, okd_tie, okd_ask, okd_know, okd_part, okd_turn, tkey_ii, eqv_int, eqv_str, atI_0, atI_1, atI_2, atI_3, atI_4, ci, eqv_bl, lay_ii, atI_5]
    refine dLoop_inv (fun t : List Nat => .d (eTab t)) (Iiu U tt p) tt _ ⟨none, none, none, rfl, rfl⟩ ?_ ?_
    · rintro t r _ ⟨a, ha⟩ ⟨x, y, z, rfl, hl⟩ N hN
      have htl : t.length = n := ht t (by rw [ha]; simp)
      have e1 := getD_tab t p.1 (by omega)
      have e2 := getD_tab t p.2 (by omega)
      have hl2 : lead U (t :: r) p = ((decide (t.getD p.1 0 = t.getD p.2 0) || decide (mm (t.getD p.1 0) (t.getD p.2 0) ∈ U)) || lead U r p) := rfl
      rw [hl2] at hl
      generalize t.getD p.1 0 = a at *
      generalize t.getD p.2 0 = b at *
      simp [eTt, ePr, eTab, eN, Function.comp_def, dstart, dSeq, dRet, dAsg, dPar, dIfS, dDrop, dNext, dVar, dC, dOp, dTst, dAnd, dOr, dNot, dIf, dAndV, dOrV, dNotV, dChain, dNil, dCons, dTup, dLst, dCall, plains, dIsi, isaP, drI, drI0, drPlus, drIx, drEq, drNe, drIn, drNIn, drIsN, drNotN, drLen, drAll, drSum, drMin, drMax, drTuple, drList, drDict, drInt, drAbs, dIterL, dIterT, dRng1, dRng2, dEnum, Tgt.put, dLc, dLc2, dYes, dInW, dTail, dHead, dRev, dMerge, dNew, dCount, dFor, List.getElem?_cons_zero, List.getElem?_cons_succ, List.map, List.length, List.replicate, List.append, List.cons_append, List.nil_append, List.append_nil, List.set, Option.map, Nat.sub_self, ne_pt, ne_pi, ne_pa, ne_tp, ne_ti, ne_ta, ne_ip, ne_it, ne_ia, ne_ap, ne_at, ne_ai, ne_kt, ne_kp, ne_pk, ne_pu, ne_uk, ne_up, okd_int, okd_bl, okd_pairs, okd_takes, okd_tie, okd_ask, okd_know, okd_part, okd_turn, tkey_ii, eqv_int, eqv_str, atI_0, atI_1, atI_2, atI_3, atI_4, ci, eqv_bl, lay_ii, atI_5]
      rw [e1, e2]
      simp [eN, dstart, dSeq, dRet, dAsg, dPar, dIfS, dDrop, dNext, dVar, dC, dOp, dTst, dAnd, dOr, dNot, dIf, dAndV, dOrV, dNotV, dChain, dNil, dCons, dTup, dLst, dCall, plains, dIsi, isaP, drI, drI0, drPlus, drIx, drEq, drNe, drIn, drNIn, drIsN, drNotN, drLen, drAll, drSum, drMin, drMax, drTuple, drList, drDict, drInt, drAbs, dIterL, dIterT, dRng1, dRng2, dEnum, Tgt.put, dLc, dLc2, dYes, dInW, dTail, dHead, dRev, dMerge, dNew, dCount, dFor, List.getElem?_cons_zero, List.getElem?_cons_succ, List.map, List.length, List.replicate, List.append, List.cons_append, List.nil_append, List.append_nil, List.set, Option.map, Nat.sub_self, ne_pt, ne_pi, ne_pa, ne_tp, ne_ti, ne_ta, ne_ip, ne_it, ne_ia, ne_ap, ne_at, ne_ai, ne_kt, ne_kp, ne_pk, ne_pu, ne_uk, ne_up, okd_int, okd_bl, okd_pairs, okd_takes, okd_tie, okd_ask, okd_know, okd_part, okd_turn, tkey_ii, eqv_int, eqv_str, atI_0, atI_1, atI_2, atI_3, atI_4, ci, eqv_bl, lay_ii, atI_5]
      simp only [mmN1, mmN2, kPr_mm, some_fd]
      by_cases c1 : a = b
      · simp [c1] at hl ⊢
        rw [hl] at h
        exact h
      · by_cases c2 : mm a b ∈ U
        · simp [c2] at hl ⊢
          rw [hl] at h
          simpa [c1] using h
        · simp [c1, c2] at hl ⊢
          exact hN _ ⟨_, _, _, rfl, hl⟩
    · rintro _ ⟨x, y, z, rfl, hl⟩
      rw [hl] at h
      exact h
end
end TW
namespace TW
open PySem PySem.Spec PyProof.Rows L2 FL
theorem nd_len {α : Type} [DecidableEq α] : ∀ {l m : List α}, l.Nodup → (∀ x ∈ l, x ∈ m) → l.length ≤ m.length
  | [], _, _, _ => Nat.zero_le _
  | x :: l, m, nd, h => by
    rw [List.nodup_cons] at nd
    have hx := h x List.mem_cons_self
    have h2 : ∀ y ∈ l, y ∈ m.erase x := fun y hy => (List.mem_erase_of_ne (fun (e : y = x) => nd.1 (by rw [← e]; exact hy))).mpr (h y (List.mem_cons_of_mem _ hy))
    have h3 := nd_len nd.2 h2
    rw [List.length_erase_of_mem hx] at h3
    have : 0 < m.length := List.length_pos_of_mem hx
    rw [List.length_cons]
    omega
def Wun (tt : List (List Nat)) (n m : Nat) (δ : DEnv) : Prop := ∃ (U : List Pr) (b : Bool) (x y z u : Option FL.D), δ = [some (.d (eTt tt)), some (.d (eN n)), some (.dct (fd U)), some (.d (.list ((prs n).map ePr))), some (dB b), x, y, z, u] ∧ U.Nodup ∧ (∀ p ∈ U, p ∈ prs n) ∧
  (∀ V, Un tt n U V → Un tt n [] V) ∧ (b = false → rnd tt n U = []) ∧ m = b.toNat + ((prs n).length - U.length)
theorem mem_rnd {tt : List (List Nat)} {n : Nat} {U : List Pr} {p : Pr} (h : p ∈ rnd tt n U) : p ∈ prs n ∧ p ∉ U := by
  unfold rnd at h
  obtain ⟨h1, h2⟩ := List.mem_filter.mp h
  simp at h2
  exact ⟨h1, h2.1⟩
theorem rnd_nd {tt : List (List Nat)} {n : Nat} {U : List Pr} (h : U.Nodup) : (U ++ rnd tt n U).Nodup := by
  rw [List.nodup_append]
  refine ⟨h, List.Pairwise.filter _ (prs_nd n), fun a ha b hb e => ?_⟩
  exact (mem_rnd hb).2 (e ▸ ha)
theorem fd_append (a b : List Pr) : fd a ++ fd b = fd (a ++ b) := by simp [fd]
theorem fd_length (a : List Pr) : (fd a).length = a.length := by simp [fd]
theorem eqv_prs_nil (l : List Pr) : PyData.eqv (.list (l.map ePr)) (.list []) = decide (l = []) := by
  cases l <;> rfl
section
variable {P : Program} {w : World} {K : PySem.W.Frag} {mg : Str → Option Value} {base : Heap} (F : Fc K mg)
include F
theorem ok_united : Ok P w K mg base "united" ["tables", "many"] 2 Tunited := by
  refine Dunited F (ok_is_united F) (fun ds Q h => ?_) (fun ds Q h => ?_)
  · obtain ⟨U, tt, rfl, h⟩ := h
    rfl
  · obtain ⟨tt, n, rfl, ht, hn, h⟩ := h
    have hbig := big_line
    have hp : (prs n).length ≤ 10000 := prs_small (by omega)
    have key : (List.range n).flatMap (fun a => (List.range (n - (a + 1))).map fun i => ePr (a, a + 1 + i)) = (prs n).map ePr := by
      unfold prs
      rw [List.map_flatMap]
      simp
      rfl
    simp [Bunited, eN, dstart, dSeq, dRet, dAsg, dPar, dIfS, dDrop, dNext, dVar, dC, dOp, dTst, dAnd, dOr, dNot, dIf, dAndV, dOrV, dNotV, dChain, dNil, dCons, dTup, dLst, dCall, plains, dIsi, isaP, drI, drI0, drPlus, drIx, drEq, drNe, drIn, drNIn, drIsN, drNotN, drLen, drAll, drSum, drMin, drMax, drTuple, drList, drDict, drInt, drAbs, dIterL, dIterT, dRng1, dRng2, dEnum, Tgt.put, dLc, dLc2, dYes, dInW, dTail, dHead, dRev, dMerge, dNew, dCount, dFor, List.getElem?_cons_zero, List.getElem?_cons_succ, List.map, List.length, List.replicate, List.append, List.cons_append, List.nil_append, List.append_nil, List.set, Option.map, Nat.sub_self, ne_pt, ne_pi, ne_pa, ne_tp, ne_ti, ne_ta, ne_ip, ne_it, ne_ia, ne_ap, ne_at, ne_ai, ne_kt, ne_kp, ne_pk, ne_pu, ne_uk, ne_up, okd_int, okd_bl, okd_pairs, okd_takes, okd_tie, okd_ask, okd_know, okd_part, okd_turn, tkey_ii, eqv_int, eqv_str, atI_0, atI_1, atI_2, atI_3, atI_4, ci, eqv_bl, lay_ii, atI_5]
    refine ⟨by unfold inI; omega, ?_⟩
    rw [intD_eq]
    refine dGo2_fm (fun i : Nat => dI (0 + (i : Nat))) (fun a => (List.range (n - (a + 1))).map fun i => ePr (a, a + 1 + i)) (List.range n) [] _ ?_ (fun x hx acc R ha hR => ?_) ?_
    · rw [key]
      simp
      omega
    · have hx' := List.mem_range.mp hx
      simp [dwipe, dstart, dSeq, dRet, dAsg, dPar, dIfS, dDrop, dNext, dVar, dC, dOp, dTst, dAnd, dOr, dNot, dIf, dAndV, dOrV, dNotV, dChain, dNil, dCons, dTup, dLst, dCall, plains, dIsi, isaP, drI, drI0, drPlus, drIx, drEq, drNe, drIn, drNIn, drIsN, drNotN, drLen, drAll, drSum, drMin, drMax, drTuple, drList, drDict, drInt, drAbs, dIterL, dIterT, dRng1, dRng2, dEnum, Tgt.put, dLc, dLc2, dYes, dInW, dTail, dHead, dRev, dMerge, dNew, dCount, dFor, List.getElem?_cons_zero, List.getElem?_cons_succ, List.map, List.length, List.replicate, List.append, List.cons_append, List.nil_append, List.append_nil, List.set, Option.map, Nat.sub_self, ne_pt, ne_pi, ne_pa, ne_tp, ne_ti, ne_ta, ne_ip, ne_it, ne_ia, ne_ap, ne_at, ne_ai, ne_kt, ne_kp, ne_pk, ne_pu, ne_uk, ne_up, okd_int, okd_bl, okd_pairs, okd_takes, okd_tie, okd_ask, okd_know, okd_part, okd_turn, tkey_ii, eqv_int, eqv_str, atI_0, atI_1, atI_2, atI_3, atI_4, ci, eqv_bl, lay_ii, atI_5]
      refine ⟨by unfold inI; omega, by unfold inI; omega, ?_⟩
      have e : ((n : Int) - ((x : Int) + 1)).toNat = n - (x + 1) := by omega
      rw [e, intD_eq]
      refine dGo_map (fun i : Nat => dI ((x : Int) + 1 + (i : Nat))) (fun i => ePr (x, x + 1 + i)) (List.range (n - (x + 1))) acc R (by simpa using ha) (fun i _ acc R ha hR => ?_) hR
      simp [dStep, dstart, dSeq, dRet, dAsg, dPar, dIfS, dDrop, dNext, dVar, dC, dOp, dTst, dAnd, dOr, dNot, dIf, dAndV, dOrV, dNotV, dChain, dNil, dCons, dTup, dLst, dCall, plains, dIsi, isaP, drI, drI0, drPlus, drIx, drEq, drNe, drIn, drNIn, drIsN, drNotN, drLen, drAll, drSum, drMin, drMax, drTuple, drList, drDict, drInt, drAbs, dIterL, dIterT, dRng1, dRng2, dEnum, Tgt.put, dLc, dLc2, dYes, dInW, dTail, dHead, dRev, dMerge, dNew, dCount, dFor, List.getElem?_cons_zero, List.getElem?_cons_succ, List.map, List.length, List.replicate, List.append, List.cons_append, List.nil_append, List.append_nil, List.set, Option.map, Nat.sub_self, ne_pt, ne_pi, ne_pa, ne_tp, ne_ti, ne_ta, ne_ip, ne_it, ne_ia, ne_ap, ne_at, ne_ai, ne_kt, ne_kp, ne_pk, ne_pu, ne_uk, ne_up, okd_int, okd_bl, okd_pairs, okd_takes, okd_tie, okd_ask, okd_know, okd_part, okd_turn, tkey_ii, eqv_int, eqv_str, atI_0, atI_1, atI_2, atI_3, atI_4, ci, eqv_bl, lay_ii, atI_5]
      refine ⟨ha, ?_⟩
      have e2 : ePr (x, x + 1 + i) = PyData.tuple [PyData.int ↑x, PyData.int (↑x + 1 + ↑i)] := by
        unfold ePr eN
        simp
      rw [← e2]
      exact hR
    · rw [List.nil_append, key]
      refine ⟨Wun tt n, ⟨_, [], true, _, _, _, _, rfl, List.nodup_nil, by simp, fun _ z => z, by simp, rfl⟩, ?_⟩
      rintro m _ ⟨U, b, x, y, z, u, rfl, nd, sub, un, hb, rfl⟩
      have hUl := nd_len nd sub
      cases b with
      | false =>
        simp [dstart, dSeq, dRet, dAsg, dPar, dIfS, dDrop, dNext, dVar, dC, dOp, dTst, dAnd, dOr, dNot, dIf, dAndV, dOrV, dNotV, dChain, dNil, dCons, dTup, dLst, dCall, plains, dIsi, isaP, drI, drI0, drPlus, drIx, drEq, drNe, drIn, drNIn, drIsN, drNotN, drLen, drAll, drSum, drMin, drMax, drTuple, drList, drDict, drInt, drAbs, dIterL, dIterT, dRng1, dRng2, dEnum, Tgt.put, dLc, dLc2, dYes, dInW, dTail, dHead, dRev, dMerge, dNew, dCount, dFor, List.getElem?_cons_zero, List.getElem?_cons_succ, List.map, List.length, List.replicate, List.append, List.cons_append, List.nil_append, List.append_nil, List.set, Option.map, Nat.sub_self, ne_pt, ne_pi, ne_pa, ne_tp, ne_ti, ne_ta, ne_ip, ne_it, ne_ia, ne_ap, ne_at, ne_ai, ne_kt, ne_kp, ne_pk, ne_pu, ne_uk, ne_up, okd_int, okd_bl, okd_pairs, okd_takes, okd_tie, okd_ask, okd_know, okd_part, okd_turn, tkey_ii, eqv_int, eqv_str, atI_0, atI_1, atI_2, atI_3, atI_4, ci, eqv_bl, lay_ii, atI_5]
        exact h U (un U (.done (hb rfl)))
      | true =>
        simp [Function.comp_def, dstart, dSeq, dRet, dAsg, dPar, dIfS, dDrop, dNext, dVar, dC, dOp, dTst, dAnd, dOr, dNot, dIf, dAndV, dOrV, dNotV, dChain, dNil, dCons, dTup, dLst, dCall, plains, dIsi, isaP, drI, drI0, drPlus, drIx, drEq, drNe, drIn, drNIn, drIsN, drNotN, drLen, drAll, drSum, drMin, drMax, drTuple, drList, drDict, drInt, drAbs, dIterL, dIterT, dRng1, dRng2, dEnum, Tgt.put, dLc, dLc2, dYes, dInW, dTail, dHead, dRev, dMerge, dNew, dCount, dFor, List.getElem?_cons_zero, List.getElem?_cons_succ, List.map, List.length, List.replicate, List.append, List.cons_append, List.nil_append, List.append_nil, List.set, Option.map, Nat.sub_self, ne_pt, ne_pi, ne_pa, ne_tp, ne_ti, ne_ta, ne_ip, ne_it, ne_ia, ne_ap, ne_at, ne_ai, ne_kt, ne_kp, ne_pk, ne_pu, ne_uk, ne_up, okd_int, okd_bl, okd_pairs, okd_takes, okd_tie, okd_ask, okd_know, okd_part, okd_turn, tkey_ii, eqv_int, eqv_str, atI_0, atI_1, atI_2, atI_3, atI_4, ci, eqv_bl, lay_ii, atI_5]
        refine dGo_fm (fun p : Pr => .d (ePr p)) (fun p => decide (p ∉ U) && lead U tt p) ePr (prs n) [] _ (by simp; omega) (fun p hp2 acc R ha hR => ?_) ?_
        · simp [dStep, dwipe, tkey_pr, some_fd, dstart, dSeq, dRet, dAsg, dPar, dIfS, dDrop, dNext, dVar, dC, dOp, dTst, dAnd, dOr, dNot, dIf, dAndV, dOrV, dNotV, dChain, dNil, dCons, dTup, dLst, dCall, plains, dIsi, isaP, drI, drI0, drPlus, drIx, drEq, drNe, drIn, drNIn, drIsN, drNotN, drLen, drAll, drSum, drMin, drMax, drTuple, drList, drDict, drInt, drAbs, dIterL, dIterT, dRng1, dRng2, dEnum, Tgt.put, dLc, dLc2, dYes, dInW, dTail, dHead, dRev, dMerge, dNew, dCount, dFor, List.getElem?_cons_zero, List.getElem?_cons_succ, List.map, List.length, List.replicate, List.append, List.cons_append, List.nil_append, List.append_nil, List.set, Option.map, Nat.sub_self, ne_pt, ne_pi, ne_pa, ne_tp, ne_ti, ne_ta, ne_ip, ne_it, ne_ia, ne_ap, ne_at, ne_ai, ne_kt, ne_kp, ne_pk, ne_pu, ne_uk, ne_up, okd_int, okd_bl, okd_pairs, okd_takes, okd_tie, okd_ask, okd_know, okd_part, okd_turn, tkey_ii, eqv_int, eqv_str, atI_0, atI_1, atI_2, atI_3, atI_4, ci, eqv_bl, lay_ii, atI_5]
          by_cases c : p ∈ U
          · simp [c] at hR ⊢
            exact hR
          · simp [c] at hR ⊢
            refine ⟨U, tt, n, p, rfl, ht, hp2, ?_⟩
            simp
            by_cases c2 : lead U tt p = true
            · simp [c2] at hR ⊢
              exact ⟨ha, hR⟩
            · simp [c2] at hR ⊢
              exact hR
        · rw [List.nil_append]
          have hr : (prs n).filter (fun p => decide (p ∉ U) && lead U tt p) = rnd tt n U := rfl
          rw [hr]
          have nd2 := rnd_nd (tt := tt) (n := n) nd
          have sub2 : ∀ p ∈ U ++ rnd tt n U, p ∈ prs n := fun p hp => by
            rcases List.mem_append.mp hp with z | z
            · exact sub p z
            · exact (mem_rnd z).1
          have hl2 := nd_len nd2 sub2
          rw [List.length_append] at hl2
          refine ⟨apart_fd (fun p hp => prs_mono hn (sub p hp)) nd, by rw [fd_length]; omega, ?_⟩
          simp [Function.comp_def, dstart, dSeq, dRet, dAsg, dPar, dIfS, dDrop, dNext, dVar, dC, dOp, dTst, dAnd, dOr, dNot, dIf, dAndV, dOrV, dNotV, dChain, dNil, dCons, dTup, dLst, dCall, plains, dIsi, isaP, drI, drI0, drPlus, drIx, drEq, drNe, drIn, drNIn, drIsN, drNotN, drLen, drAll, drSum, drMin, drMax, drTuple, drList, drDict, drInt, drAbs, dIterL, dIterT, dRng1, dRng2, dEnum, Tgt.put, dLc, dLc2, dYes, dInW, dTail, dHead, dRev, dMerge, dNew, dCount, dFor, List.getElem?_cons_zero, List.getElem?_cons_succ, List.map, List.length, List.replicate, List.append, List.cons_append, List.nil_append, List.append_nil, List.set, Option.map, Nat.sub_self, ne_pt, ne_pi, ne_pa, ne_tp, ne_ti, ne_ta, ne_ip, ne_it, ne_ia, ne_ap, ne_at, ne_ai, ne_kt, ne_kp, ne_pk, ne_pu, ne_uk, ne_up, okd_int, okd_bl, okd_pairs, okd_takes, okd_tie, okd_ask, okd_know, okd_part, okd_turn, tkey_ii, eqv_int, eqv_str, atI_0, atI_1, atI_2, atI_3, atI_4, ci, eqv_bl, lay_ii, atI_5]
          refine dGo_map (fun p : Pr => .d (ePr p)) (fun p => .tuple [ePr p, .bool true]) (rnd tt n U) [] _ (by simp; omega) (fun p hp2 acc R ha hR => ?_) ?_
          · simp [dStep, dwipe, dstart, dSeq, dRet, dAsg, dPar, dIfS, dDrop, dNext, dVar, dC, dOp, dTst, dAnd, dOr, dNot, dIf, dAndV, dOrV, dNotV, dChain, dNil, dCons, dTup, dLst, dCall, plains, dIsi, isaP, drI, drI0, drPlus, drIx, drEq, drNe, drIn, drNIn, drIsN, drNotN, drLen, drAll, drSum, drMin, drMax, drTuple, drList, drDict, drInt, drAbs, dIterL, dIterT, dRng1, dRng2, dEnum, Tgt.put, dLc, dLc2, dYes, dInW, dTail, dHead, dRev, dMerge, dNew, dCount, dFor, List.getElem?_cons_zero, List.getElem?_cons_succ, List.map, List.length, List.replicate, List.append, List.cons_append, List.nil_append, List.append_nil, List.set, Option.map, Nat.sub_self, ne_pt, ne_pi, ne_pa, ne_tp, ne_ti, ne_ta, ne_ip, ne_it, ne_ia, ne_ap, ne_at, ne_ai, ne_kt, ne_kp, ne_pk, ne_pu, ne_uk, ne_up, okd_int, okd_bl, okd_pairs, okd_takes, okd_tie, okd_ask, okd_know, okd_part, okd_turn, tkey_ii, eqv_int, eqv_str, atI_0, atI_1, atI_2, atI_3, atI_4, ci, eqv_bl, lay_ii, atI_5]
            exact ⟨ha, hR⟩
          · rw [List.nil_append, pairsOf_pr (fun _ => .bool true)]
            have nd3 : (rnd tt n U).Nodup := List.Pairwise.filter _ (prs_nd n)
            refine ⟨keys_nd (fun _ => .bool true) nd3, ?_⟩
            refine ⟨apart_fd (fun p hp => prs_mono hn (mem_rnd hp).1) nd3, ?_, ?_, ?_⟩
            · rw [← List.map_append]
              show ((fd U ++ fd (rnd tt n U)).map (·.1)).Nodup
              rw [fd_append]
              exact keys_nd (fun _ => .bool true) nd2
            · rw [fd_length]
              simp
              omega
            · have okl : okd (.list ((rnd tt n U).map ePr)) := (sh_lst (shAll_map fun i _ => sh_pr i)).okd
              have oke : okd (.list []) := (sh_lst (shAll_nil (k := 0))).okd
              simp [eqv_prs_nil, okl, oke, dstart, dSeq, dRet, dAsg, dPar, dIfS, dDrop, dNext, dVar, dC, dOp, dTst, dAnd, dOr, dNot, dIf, dAndV, dOrV, dNotV, dChain, dNil, dCons, dTup, dLst, dCall, plains, dIsi, isaP, drI, drI0, drPlus, drIx, drEq, drNe, drIn, drNIn, drIsN, drNotN, drLen, drAll, drSum, drMin, drMax, drTuple, drList, drDict, drInt, drAbs, dIterL, dIterT, dRng1, dRng2, dEnum, Tgt.put, dLc, dLc2, dYes, dInW, dTail, dHead, dRev, dMerge, dNew, dCount, dFor, List.getElem?_cons_zero, List.getElem?_cons_succ, List.map, List.length, List.replicate, List.append, List.cons_append, List.nil_append, List.append_nil, List.set, Option.map, Nat.sub_self, ne_pt, ne_pi, ne_pa, ne_tp, ne_ti, ne_ta, ne_ip, ne_it, ne_ia, ne_ap, ne_at, ne_ai, ne_kt, ne_kp, ne_pk, ne_pu, ne_uk, ne_up, okd_int, okd_bl, okd_pairs, okd_takes, okd_tie, okd_ask, okd_know, okd_part, okd_turn, tkey_ii, eqv_int, eqv_str, atI_0, atI_1, atI_2, atI_3, atI_4, ci, eqv_bl, lay_ii, atI_5]
              have e5 : fd U ++ List.map (fun p => (kPr p, PyData.bool true)) (rnd tt n U) = fd (U ++ rnd tt n U) := fd_append _ _
              rw [e5]
              refine ⟨_, ?_, U ++ rnd tt n U, decide (¬ rnd tt n U = []), some (.d (.list ((rnd tt n U).map ePr))), y, z, u, by simp [eTt, eN], nd2, sub2, ?_, ?_, rfl⟩
              · by_cases c : rnd tt n U = []
                · simp [c]
                · have : 0 < (rnd tt n U).length := List.length_pos_iff.mpr c
                  simp [c]
                  omega
              · intro V hV
                by_cases c : rnd tt n U = []
                · rw [c, List.append_nil] at hV
                  exact un V hV
                · exact un V (.step c hV)
              · intro c
                simp at c
                rw [c, List.append_nil]
                exact c
end
end TW
namespace TW
open PySem PySem.Spec PyProof.Rows L2 FL
def row (n a : Nat) : List Pr := (List.range (n - (a + 1))).map fun i => (a, a + 1 + i)
def notIn (U : List Pr) (p : Pr) : Bool := decide (p ∉ U)
def Ila (tt : List (List Nat)) (n : Nat) (U : List Pr) (r : List Nat) (δ : DEnv) : Prop := ∃ x y : Option FL.D, δ = [some (.d (eTt tt)), some (.d (eN n)), some (.dct (fd U)), x, y] ∧ lastD n U = (r.flatMap (row n)).find? (notIn U)
def Ilb (tt : List (List Nat)) (n : Nat) (U : List Pr) (a : Nat) (r : List Nat) (r' : List Nat) (δ : DEnv) : Prop := ∃ y : Option FL.D, δ = [some (.d (eTt tt)), some (.d (eN n)), some (.dct (fd U)), some (.d (eN a)), y] ∧ lastD n U = ((r'.map fun i => (a, a + 1 + i)) ++ r.flatMap (row n)).find? (notIn U)
theorem tab_len (k : Nat) (s : List It1) : (tab k s).length = vn k := by unfold tab vn; rw [List.length_map]
theorem ttOk_tab (k : Nat) (st : List (List It1)) : TtOk (vn k) (st.map (tab k)) := fun t ht => by
  obtain ⟨s, _, rfl⟩ := List.mem_map.mp ht
  exact tab_len k s
section
variable {P : Program} {w : World} {K : PySem.W.Frag} {mg : Str → Option Value} {base : Heap} (F : Fc K mg)
include F
theorem ok_lasting_in : Ok P w K mg base "lasting_in" ["tables", "many"] 3 Tlasting_in := by
  refine Dlasting_in F (ok_united F) (fun ds Q h => ?_) (fun ds Q h => ?_)
  · obtain ⟨U, tt, rfl, h⟩ := h
    rfl
  · obtain ⟨tt, n, rfl, ht, hn, h⟩ := h
    simp [Blasting_in, dstart, dSeq, dRet, dAsg, dPar, dIfS, dDrop, dNext, dVar, dC, dOp, dTst, dAnd, dOr, dNot, dIf, dAndV, dOrV, dNotV, dChain, dNil, dCons, dTup, dLst, dCall, plains, dIsi, isaP, drI, drI0, drPlus, drIx, drEq, drNe, drIn, drNIn, drIsN, drNotN, drLen, drAll, drSum, drMin, drMax, drTuple, drList, drDict, drInt, drAbs, dIterL, dIterT, dRng1, dRng2, dEnum, Tgt.put, dLc, dLc2, dYes, dInW, dTail, dHead, dRev, dMerge, dNew, dCount, dFor, List.getElem?_cons_zero, List.getElem?_cons_succ, List.map, List.length, List.replicate, List.append, List.cons_append, List.nil_append, List.append_nil, List.set, Option.map, Nat.sub_self, ne_pt, ne_pi, ne_pa, ne_tp, ne_ti, ne_ta, ne_ip, ne_it, ne_ia, ne_ap, ne_at, ne_ai, ne_kt, ne_kp, ne_pk, ne_pu, ne_uk, ne_up, okd_int, okd_bl, okd_pairs, okd_takes, okd_tie, okd_ask, okd_know, okd_part, okd_turn, tkey_ii, eqv_int, eqv_str, atI_0, atI_1, atI_2, atI_3, atI_4, ci, eqv_bl, lay_ii, atI_5]
    refine ⟨tt, n, rfl, ht, hn, fun U hU => ?_⟩
    have hQ := h U hU
    simp [eN, dstart, dSeq, dRet, dAsg, dPar, dIfS, dDrop, dNext, dVar, dC, dOp, dTst, dAnd, dOr, dNot, dIf, dAndV, dOrV, dNotV, dChain, dNil, dCons, dTup, dLst, dCall, plains, dIsi, isaP, drI, drI0, drPlus, drIx, drEq, drNe, drIn, drNIn, drIsN, drNotN, drLen, drAll, drSum, drMin, drMax, drTuple, drList, drDict, drInt, drAbs, dIterL, dIterT, dRng1, dRng2, dEnum, Tgt.put, dLc, dLc2, dYes, dInW, dTail, dHead, dRev, dMerge, dNew, dCount, dFor, List.getElem?_cons_zero, List.getElem?_cons_succ, List.map, List.length, List.replicate, List.append, List.cons_append, List.nil_append, List.append_nil, List.set, Option.map, Nat.sub_self, ne_pt, ne_pi, ne_pa, ne_tp, ne_ti, ne_ta, ne_ip, ne_it, ne_ia, ne_ap, ne_at, ne_ai, ne_kt, ne_kp, ne_pk, ne_pu, ne_uk, ne_up, okd_int, okd_bl, okd_pairs, okd_takes, okd_tie, okd_ask, okd_know, okd_part, okd_turn, tkey_ii, eqv_int, eqv_str, atI_0, atI_1, atI_2, atI_3, atI_4, ci, eqv_bl, lay_ii, atI_5]
    refine ⟨by unfold inI; omega, ?_⟩
    rw [intD_eq]
    refine dLoop_inv (fun i : Nat => dI (0 + (i : Nat))) (Ila tt n U) (List.range n) _ ⟨_, _, rfl, rfl⟩ ?_ ?_
    · rintro a r _ ⟨pre, hpre⟩ ⟨x, y, rfl, hl⟩ N hN
      have ha : a < n := List.mem_range.mp (by rw [hpre]; simp)
      simp [eN, dstart, dSeq, dRet, dAsg, dPar, dIfS, dDrop, dNext, dVar, dC, dOp, dTst, dAnd, dOr, dNot, dIf, dAndV, dOrV, dNotV, dChain, dNil, dCons, dTup, dLst, dCall, plains, dIsi, isaP, drI, drI0, drPlus, drIx, drEq, drNe, drIn, drNIn, drIsN, drNotN, drLen, drAll, drSum, drMin, drMax, drTuple, drList, drDict, drInt, drAbs, dIterL, dIterT, dRng1, dRng2, dEnum, Tgt.put, dLc, dLc2, dYes, dInW, dTail, dHead, dRev, dMerge, dNew, dCount, dFor, List.getElem?_cons_zero, List.getElem?_cons_succ, List.map, List.length, List.replicate, List.append, List.cons_append, List.nil_append, List.append_nil, List.set, Option.map, Nat.sub_self, ne_pt, ne_pi, ne_pa, ne_tp, ne_ti, ne_ta, ne_ip, ne_it, ne_ia, ne_ap, ne_at, ne_ai, ne_kt, ne_kp, ne_pk, ne_pu, ne_uk, ne_up, okd_int, okd_bl, okd_pairs, okd_takes, okd_tie, okd_ask, okd_know, okd_part, okd_turn, tkey_ii, eqv_int, eqv_str, atI_0, atI_1, atI_2, atI_3, atI_4, ci, eqv_bl, lay_ii, atI_5]
      refine ⟨by unfold inI; omega, by unfold inI; omega, ?_⟩
      have e : ((n : Int) - ((a : Int) + 1)).toNat = n - (a + 1) := by omega
      rw [e, intD_eq]
      refine dLoop_inv (fun i : Nat => dI ((a : Int) + 1 + (i : Nat))) (Ilb tt n U a r) (List.range (n - (a + 1))) _ ⟨_, rfl, by rw [hl, List.flatMap_cons]; rfl⟩ ?_ ?_
      · rintro i r' _ _ ⟨y, rfl, hl⟩ N' hN'
        have e3 : (a : Int) + 1 + (i : Int) = ((a + 1 + i : Nat) : Int) := by omega
        have e4 : NestedKey.tup [.num (a : Int), .num ((a : Int) + 1 + (i : Int))] = kPr (a, a + 1 + i) := by
          rw [e3]
          rfl
        simp [eN, dstart, dSeq, dRet, dAsg, dPar, dIfS, dDrop, dNext, dVar, dC, dOp, dTst, dAnd, dOr, dNot, dIf, dAndV, dOrV, dNotV, dChain, dNil, dCons, dTup, dLst, dCall, plains, dIsi, isaP, drI, drI0, drPlus, drIx, drEq, drNe, drIn, drNIn, drIsN, drNotN, drLen, drAll, drSum, drMin, drMax, drTuple, drList, drDict, drInt, drAbs, dIterL, dIterT, dRng1, dRng2, dEnum, Tgt.put, dLc, dLc2, dYes, dInW, dTail, dHead, dRev, dMerge, dNew, dCount, dFor, List.getElem?_cons_zero, List.getElem?_cons_succ, List.map, List.length, List.replicate, List.append, List.cons_append, List.nil_append, List.append_nil, List.set, Option.map, Nat.sub_self, ne_pt, ne_pi, ne_pa, ne_tp, ne_ti, ne_ta, ne_ip, ne_it, ne_ia, ne_ap, ne_at, ne_ai, ne_kt, ne_kp, ne_pk, ne_pu, ne_uk, ne_up, okd_int, okd_bl, okd_pairs, okd_takes, okd_tie, okd_ask, okd_know, okd_part, okd_turn, tkey_ii, eqv_int, eqv_str, atI_0, atI_1, atI_2, atI_3, atI_4, ci, eqv_bl, lay_ii, atI_5]
        rw [e4, look_fd]
        rw [List.map_cons, List.cons_append] at hl
        by_cases c : (a, a + 1 + i) ∈ U
        · simp [c]
          refine hN' _ ⟨some (.d (.int ((a : Int) + 1 + (i : Int)))), rfl, ?_⟩
          rw [hl, List.find?_cons_of_neg (by simp [notIn, c])]
        · simp [c]
          have e5 : lastD n U = some (a, a + 1 + i) := by
            rw [hl, List.find?_cons_of_pos (by simp [notIn, c])]
          rw [e5] at hQ
          have e6 : eOp (some (a, a + 1 + i)) = .tuple [.int a, .int ((a : Int) + 1 + i)] := by
            rw [e3]
            rfl
          rw [e6] at hQ
          exact hQ
      · rintro _ ⟨y, rfl, hl⟩
        exact hN _ ⟨_, _, rfl, hl⟩
    · rintro _ ⟨x, y, rfl, hl⟩
      have e5 : lastD n U = none := hl
      rw [e5] at hQ
      exact hQ
theorem ok_lasting_pair : Ok P w K mg base "lasting_pair" ["named", "stock"] 9 Tlasting_pair := by
  refine Dlasting_pair F (ok_need_one_or_two F) (ok_need_stock F) (ok_lasting_in F) (ok_all_views F) (ok_tables_by F) (fun ds Q h => ?_) (fun ds Q h => ?_)
  · obtain ⟨U, tt, rfl, h⟩ := h
    rfl
  · obtain ⟨k, st, rfl, hk, hs, h⟩ := h
    have h64 := vw_length hk
    simp [Blasting_pair, dstart, dSeq, dRet, dAsg, dPar, dIfS, dDrop, dNext, dVar, dC, dOp, dTst, dAnd, dOr, dNot, dIf, dAndV, dOrV, dNotV, dChain, dNil, dCons, dTup, dLst, dCall, plains, dIsi, isaP, drI, drI0, drPlus, drIx, drEq, drNe, drIn, drNIn, drIsN, drNotN, drLen, drAll, drSum, drMin, drMax, drTuple, drList, drDict, drInt, drAbs, dIterL, dIterT, dRng1, dRng2, dEnum, Tgt.put, dLc, dLc2, dYes, dInW, dTail, dHead, dRev, dMerge, dNew, dCount, dFor, List.getElem?_cons_zero, List.getElem?_cons_succ, List.map, List.length, List.replicate, List.append, List.cons_append, List.nil_append, List.append_nil, List.set, Option.map, Nat.sub_self, ne_pt, ne_pi, ne_pa, ne_tp, ne_ti, ne_ta, ne_ip, ne_it, ne_ia, ne_ap, ne_at, ne_ai, ne_kt, ne_kp, ne_pk, ne_pu, ne_uk, ne_up, okd_int, okd_bl, okd_pairs, okd_takes, okd_tie, okd_ask, okd_know, okd_part, okd_turn, tkey_ii, eqv_int, eqv_str, atI_0, atI_1, atI_2, atI_3, atI_4, ci, eqv_bl, lay_ii, atI_5]
    refine ⟨k, rfl, by omega, by omega, ?_⟩
    refine ⟨k, st, rfl, hs, ?_⟩
    refine ⟨k, st, rfl, hk, hs, ?_⟩
    refine ⟨k, rfl, hk, ?_⟩
    simp [dstart, dSeq, dRet, dAsg, dPar, dIfS, dDrop, dNext, dVar, dC, dOp, dTst, dAnd, dOr, dNot, dIf, dAndV, dOrV, dNotV, dChain, dNil, dCons, dTup, dLst, dCall, plains, dIsi, isaP, drI, drI0, drPlus, drIx, drEq, drNe, drIn, drNIn, drIsN, drNotN, drLen, drAll, drSum, drMin, drMax, drTuple, drList, drDict, drInt, drAbs, dIterL, dIterT, dRng1, dRng2, dEnum, Tgt.put, dLc, dLc2, dYes, dInW, dTail, dHead, dRev, dMerge, dNew, dCount, dFor, List.getElem?_cons_zero, List.getElem?_cons_succ, List.map, List.length, List.replicate, List.append, List.cons_append, List.nil_append, List.append_nil, List.set, Option.map, Nat.sub_self, ne_pt, ne_pi, ne_pa, ne_tp, ne_ti, ne_ta, ne_ip, ne_it, ne_ia, ne_ap, ne_at, ne_ai, ne_kt, ne_kp, ne_pk, ne_pu, ne_uk, ne_up, okd_int, okd_bl, okd_pairs, okd_takes, okd_tie, okd_ask, okd_know, okd_part, okd_turn, tkey_ii, eqv_int, eqv_str, atI_0, atI_1, atI_2, atI_3, atI_4, ci, eqv_bl, lay_ii, atI_5]
    refine ⟨st.map (tab k), vn k, ?_, ttOk_tab k st, h64, h⟩
    simp [eTt, vn, Function.comp_def, eN]
theorem ok_forgetting_way : Ok P w K mg base "forgetting_way" ["named", "stock"] 9 Tforgetting_way := by
  refine Dforgetting_way F (ok_need_one_or_two F) (ok_need_stock F) (ok_tables_by F) (ok_all_views F) (ok_lasting_in F) (fun ds Q h => ?_) (fun ds Q h => ?_)
  · obtain ⟨U, tt, rfl, h⟩ := h
    rfl
  · obtain ⟨k, st, rfl, hk, hs, hne, h⟩ := h
    have h64 := vw_length hk
    simp [Bforgetting_way, dstart, dSeq, dRet, dAsg, dPar, dIfS, dDrop, dNext, dVar, dC, dOp, dTst, dAnd, dOr, dNot, dIf, dAndV, dOrV, dNotV, dChain, dNil, dCons, dTup, dLst, dCall, plains, dIsi, isaP, drI, drI0, drPlus, drIx, drEq, drNe, drIn, drNIn, drIsN, drNotN, drLen, drAll, drSum, drMin, drMax, drTuple, drList, drDict, drInt, drAbs, dIterL, dIterT, dRng1, dRng2, dEnum, Tgt.put, dLc, dLc2, dYes, dInW, dTail, dHead, dRev, dMerge, dNew, dCount, dFor, List.getElem?_cons_zero, List.getElem?_cons_succ, List.map, List.length, List.replicate, List.append, List.cons_append, List.nil_append, List.append_nil, List.set, Option.map, Nat.sub_self, ne_pt, ne_pi, ne_pa, ne_tp, ne_ti, ne_ta, ne_ip, ne_it, ne_ia, ne_ap, ne_at, ne_ai, ne_kt, ne_kp, ne_pk, ne_pu, ne_uk, ne_up, okd_int, okd_bl, okd_pairs, okd_takes, okd_tie, okd_ask, okd_know, okd_part, okd_turn, tkey_ii, eqv_int, eqv_str, atI_0, atI_1, atI_2, atI_3, atI_4, ci, eqv_bl, lay_ii, atI_5]
    refine ⟨k, rfl, by omega, by omega, ?_⟩
    refine ⟨k, st, rfl, hs, ?_⟩
    refine ⟨k, st, rfl, hk, hs, ?_⟩
    refine ⟨k, rfl, hk, ?_⟩
    simp [dstart, dSeq, dRet, dAsg, dPar, dIfS, dDrop, dNext, dVar, dC, dOp, dTst, dAnd, dOr, dNot, dIf, dAndV, dOrV, dNotV, dChain, dNil, dCons, dTup, dLst, dCall, plains, dIsi, isaP, drI, drI0, drPlus, drIx, drEq, drNe, drIn, drNIn, drIsN, drNotN, drLen, drAll, drSum, drMin, drMax, drTuple, drList, drDict, drInt, drAbs, dIterL, dIterT, dRng1, dRng2, dEnum, Tgt.put, dLc, dLc2, dYes, dInW, dTail, dHead, dRev, dMerge, dNew, dCount, dFor, List.getElem?_cons_zero, List.getElem?_cons_succ, List.map, List.length, List.replicate, List.append, List.cons_append, List.nil_append, List.append_nil, List.set, Option.map, Nat.sub_self, ne_pt, ne_pi, ne_pa, ne_tp, ne_ti, ne_ta, ne_ip, ne_it, ne_ia, ne_ap, ne_at, ne_ai, ne_kt, ne_kp, ne_pk, ne_pu, ne_uk, ne_up, okd_int, okd_bl, okd_pairs, okd_takes, okd_tie, okd_ask, okd_know, okd_part, okd_turn, tkey_ii, eqv_int, eqv_str, atI_0, atI_1, atI_2, atI_3, atI_4, ci, eqv_bl, lay_ii, atI_5]
    refine ⟨st.map (tab k), vn k, ?_, ttOk_tab k st, h64, fun U hU => ?_⟩
    · simp [eTt, vn, Function.comp_def, eN]
    · have := hne U hU
      cases e : lastD (vn k) U with
      | none => exact absurd e this
      | some p =>
        simp [eOp, ePr, dstart, dSeq, dRet, dAsg, dPar, dIfS, dDrop, dNext, dVar, dC, dOp, dTst, dAnd, dOr, dNot, dIf, dAndV, dOrV, dNotV, dChain, dNil, dCons, dTup, dLst, dCall, plains, dIsi, isaP, drI, drI0, drPlus, drIx, drEq, drNe, drIn, drNIn, drIsN, drNotN, drLen, drAll, drSum, drMin, drMax, drTuple, drList, drDict, drInt, drAbs, dIterL, dIterT, dRng1, dRng2, dEnum, Tgt.put, dLc, dLc2, dYes, dInW, dTail, dHead, dRev, dMerge, dNew, dCount, dFor, List.getElem?_cons_zero, List.getElem?_cons_succ, List.map, List.length, List.replicate, List.append, List.cons_append, List.nil_append, List.append_nil, List.set, Option.map, Nat.sub_self, ne_pt, ne_pi, ne_pa, ne_tp, ne_ti, ne_ta, ne_ip, ne_it, ne_ia, ne_ap, ne_at, ne_ai, ne_kt, ne_kp, ne_pk, ne_pu, ne_uk, ne_up, okd_int, okd_bl, okd_pairs, okd_takes, okd_tie, okd_ask, okd_know, okd_part, okd_turn, tkey_ii, eqv_int, eqv_str, atI_0, atI_1, atI_2, atI_3, atI_4, ci, eqv_bl, lay_ii, atI_5]
        exact h
end
end TW
namespace TW
open PySem PySem.Spec PyProof.Rows L2 FL
def T_law_two : DRs := Tpair_of
def T_law_pairs : DRs := Tpairs_of
def T_law_knows : DRs := fun ds Q => ∃ (c : Co) (a b : Nat), ds = [.d (eCo c), .d (eN a), .d (eN b)] ∧ Q (dB (kn c.2 a b))
def T_law_behind : DRs := Tbehind
def T_law_views : DRs := Tall_views
def T_law_all_views : DRs := fun ds Q => ∃ k : Nat, ds = [.d (eN k)] ∧ (k = 1 ∨ k = 2) ∧ Q (.d (eN (vn k)))
def T_law_leads : DRs := fun ds Q => ∃ (U : List Pr) (tt : List (List Nat)) (n : Nat) (p : Pr), ds = [.d (eTt tt), .dct (fd U), .d (eN p.1), .d (eN p.2)] ∧ TtOk n tt ∧ p ∈ prs n ∧ Q (dB (lead U tt p))
def B_law_two : DTS := dRet (dIf (dTst (dOp drLt (dVar 0) (dVar 1))) (dTup (dCons (dVar 0) (dCons (dVar 1) (dNil)))) (dTup (dCons (dVar 1) (dCons (dVar 0) (dNil)))))
theorem S_law_two : FnScope ["_law_one", "_law_other"] ["_law_one", "_law_other"] (defScope (top 49)) := ⟨rfl, rfl, rfl, by decide +kernel, rfl, by decide +kernel, by decide +kernel⟩
theorem D_law_two {P : Program} {w : World} {K : PySem.W.Frag} {mg : Str → Option Value} {base : Heap} (F : Fc K mg)  {T : DRs} (hlen : ∀ ds Q, T ds Q → ds.length = 2) (hT : ∀ ds Q, T ds Q → B_law_two { nx := fun _ => Q dN, rt := Q } (dstart ["_law_one", "_law_other"] ds)) : Ok P w K mg base "_law_two" ["_law_one", "_law_other"] (0 + 1) T :=
  ok_fn F 30 (j := 49) rfl S_law_two T (B_law_two) hlen hT (fun _ _ _ _ _ _ us hl => match us, hl with | [_, _], _ => rfl) fun f cdv A outer s H E hr => dss_one (ds_ret (de_if (dt_cmp od_lt (dv 0) (dv 1) (nomark _)) (de_tup (da_cons (dv 0) (da_cons (dv 1) (da_nil)))) (de_tup (da_cons (dv 1) (da_cons (dv 0) (da_nil))))))
def B_law_pairs : DTS := dSeq (dAsg (dLst (dNil)) (.nm 1)) (dSeq (dFor (dRng1 (dVar 0)) (.nm 2) (dAsg (dOp drPlus (dVar 1) (dLc (dRng2 (dOp drPlus (dVar 2) (dC (dI 1))) (dVar 0)) (.nm 3) (dYes) (dTup (dCons (dVar 2) (dCons (dVar 3) (dNil)))) [3])) (.nm 1))) (dRet (dVar 1)))
theorem S_law_pairs : FnScope ["_law_people", "_law_found", "_law_one", "_law_other"] ["_law_people"] (defScope (top 50)) := ⟨rfl, rfl, rfl, by decide +kernel, rfl, by decide +kernel, by decide +kernel⟩
theorem D_law_pairs {P : Program} {w : World} {K : PySem.W.Frag} {mg : Str → Option Value} {base : Heap} (F : Fc K mg)  {T : DRs} (hlen : ∀ ds Q, T ds Q → ds.length = 1) (hT : ∀ ds Q, T ds Q → B_law_pairs { nx := fun _ => Q dN, rt := Q } (dstart ["_law_people", "_law_found", "_law_one", "_law_other"] ds)) : Ok P w K mg base "_law_pairs" ["_law_people"] (0 + 1) T :=
  ok_fn F 31 (j := 50) rfl S_law_pairs T (B_law_pairs) hlen hT (fun _ _ _ _ _ _ us hl => match us, hl with | [_], _ => rfl) fun f cdv A outer s H E hr => dss_cons (ds_set (i := 1) S_law_pairs.nd rfl (by first | exact .inl rfl | exact .inr rfl) (de_lst (da_nil))) (dss_cons (ds_for PassesOwn.never rfl (di_range1 rfl F.free_range (dv 0)) (pg_nm (i := 2) S_law_pairs.nd rfl (by first | exact .inl rfl | exact .inr rfl)) (dss_one (ds_set (i := 1) S_law_pairs.nd rfl (by first | exact .inl rfl | exact .inr rfl) (de_bin od_plus (dv 1) (de_lc rfl S_law_pairs.nd (di_range2 rfl F.free_range (de_bin od_plus (dv 2) (de_int)) (dv 0)) (own := [("_law_other", 3)]) (blkOk_by (by kernel_rfl)) (fun _ _ _ _ _ => pg_nm (i := 3) S_law_pairs.nd rfl (by first | exact .inl rfl | exact .inr rfl)) (fun _ _ _ _ _ => dts_nil) (fun _ _ _ _ _ => de_tup (da_cons (dv 2) (da_cons (dv 3) (da_nil))))))))) (dss_one (ds_ret (dv 1))))
def B_law_knows : DTS := dRet (dOp drIn (dCall T_law_two (dCons (dVar 1) (dCons (dVar 2) (dNil)))) (dOp drIx (dVar 0) (dC (dI 1))))
theorem S_law_knows : FnScope ["_law_company_here", "_law_one", "_law_other"] ["_law_company_here", "_law_one", "_law_other"] (defScope (top 51)) := ⟨rfl, rfl, rfl, by decide +kernel, rfl, by decide +kernel, by decide +kernel⟩
theorem D_law_knows {P : Program} {w : World} {K : PySem.W.Frag} {mg : Str → Option Value} {base : Heap} (F : Fc K mg) (o_law_two : Ok P w K mg base "_law_two" ["_law_one", "_law_other"] 1 T_law_two) {T : DRs} (hlen : ∀ ds Q, T ds Q → ds.length = 3) (hT : ∀ ds Q, T ds Q → B_law_knows { nx := fun _ => Q dN, rt := Q } (dstart ["_law_company_here", "_law_one", "_law_other"] ds)) : Ok P w K mg base "_law_knows" ["_law_company_here", "_law_one", "_law_other"] (1 + 1) T :=
  ok_fn F 32 (j := 51) rfl S_law_knows T (B_law_knows) hlen hT (fun _ _ _ _ _ _ us hl => match us, hl with | [_, _, _], _ => rfl) fun f cdv A outer s H E hr => dss_one (ds_ret (de_cmp (od_in (r65 hr)) (ok_call o_law_two hr (by decide) rfl (da_cons (dv 1) (da_cons (dv 2) (da_nil)))) (de_ix (xd_ix hr.units) (dv 0) (de_int) (fun _ _ => rfl)) (by with_unfolding_all rfl)))
def B_law_views : DTS := dSeq (dAsg (dLst (dCons (dTup (dNil)) (dNil))) (.nm 1)) (dSeq (dFor (dIterL (dRev (dCall T_law_pairs (dCons (dOp drPlus (dVar 0) (dC (dI 2))) (dNil))))) (.nm 2) (dAsg (dOp drPlus (dVar 1) (dLc (dIterL (dVar 1)) (.nm 3) (dYes) (dOp drPlus (dTup (dCons (dVar 2) (dNil))) (dVar 3)) [3])) (.nm 1))) (dRet (dLc (dIterL (dCall drSorted (dCons (dVar 1) (dNil)))) (.nm 3) (dYes) (dTup (dCons (dOp drPlus (dVar 0) (dC (dI 2))) (dCons (dVar 3) (dNil)))) [3])))
theorem S_law_views : FnScope ["_law_named", "_law_found", "_law_pair", "_law_ties"] ["_law_named"] (defScope (top 60)) := ⟨rfl, rfl, rfl, by decide +kernel, rfl, by decide +kernel, by decide +kernel⟩
theorem D_law_views {P : Program} {w : World} {K : PySem.W.Frag} {mg : Str → Option Value} {base : Heap} (F : Fc K mg) (o_law_pairs : Ok P w K mg base "_law_pairs" ["_law_people"] 1 T_law_pairs) {T : DRs} (hlen : ∀ ds Q, T ds Q → ds.length = 1) (hT : ∀ ds Q, T ds Q → B_law_views { nx := fun _ => Q dN, rt := Q } (dstart ["_law_named", "_law_found", "_law_pair", "_law_ties"] ds)) : Ok P w K mg base "_law_views" ["_law_named"] (1 + 1) T :=
  ok_fn F 40 (j := 60) rfl S_law_views T (B_law_views) hlen hT (fun _ _ _ _ _ _ us hl => match us, hl with | [_], _ => rfl) fun f cdv A outer s H E hr => dss_cons (ds_set (i := 1) S_law_views.nd rfl (by first | exact .inl rfl | exact .inr rfl) (de_lst (da_cons (de_tup (da_nil)) (da_nil)))) (dss_cons (ds_for PassesOwn.never rfl (di_list (de_rev (ok_call o_law_pairs hr (by decide) rfl (da_cons (de_bin od_plus (dv 0) (de_int)) (da_nil))))) (pg_nm (i := 2) S_law_views.nd rfl (by first | exact .inl rfl | exact .inr rfl)) (dss_one (ds_set (i := 1) S_law_views.nd rfl (by first | exact .inl rfl | exact .inr rfl) (de_bin od_plus (dv 1) (de_lc rfl S_law_views.nd (di_list (dv 1)) (own := [("_law_ties", 3)]) (blkOk_by (by kernel_rfl)) (fun _ _ _ _ _ => pg_nm (i := 3) S_law_views.nd rfl (by first | exact .inl rfl | exact .inr rfl)) (fun _ _ _ _ _ => dts_nil) (fun _ _ _ _ _ => de_bin od_plus (de_tup (da_cons (dv 2) (da_nil))) (dv 3))))))) (dss_one (ds_ret (de_lc rfl S_law_views.nd (di_list (de_callB (cd_sorted hr.units) rfl F.free_sorted boot_sorted (da_cons (dv 1) (da_nil)))) (own := [("_law_ties", 3)]) (blkOk_by (by kernel_rfl)) (fun _ _ _ _ _ => pg_nm (i := 3) S_law_views.nd rfl (by first | exact .inl rfl | exact .inr rfl)) (fun _ _ _ _ _ => dts_nil) (fun _ _ _ _ _ => de_tup (da_cons (de_bin od_plus (dv 0) (de_int)) (da_cons (dv 3) (da_nil))))))))
def B_law_all_views : DTS := dRet (dIf (dTst (dOp drEq (dVar 0) (dC (dI 1)))) (dC (dI 8)) (dC (dI 64)))
theorem S_law_all_views : FnScope ["_law_named"] ["_law_named"] (defScope (top 63)) := ⟨rfl, rfl, rfl, by decide +kernel, rfl, by decide +kernel, by decide +kernel⟩
theorem D_law_all_views {P : Program} {w : World} {K : PySem.W.Frag} {mg : Str → Option Value} {base : Heap} (F : Fc K mg)  {T : DRs} (hlen : ∀ ds Q, T ds Q → ds.length = 1) (hT : ∀ ds Q, T ds Q → B_law_all_views { nx := fun _ => Q dN, rt := Q } (dstart ["_law_named"] ds)) : Ok P w K mg base "_law_all_views" ["_law_named"] (0 + 1) T :=
  ok_fn F 42 (j := 63) rfl S_law_all_views T (B_law_all_views) hlen hT (fun _ _ _ _ _ _ us hl => match us, hl with | [_], _ => rfl) fun f cdv A outer s H E hr => dss_one (ds_ret (de_if (dt_cmp (od_eq hr.units) (dv 0) (de_int) (nomark _)) (de_int) (de_int)))
def B_law_leads : DTS := dSeq (dFor (dIterL (dVar 0)) (.nm 4) (dIfS (dOr (dTst (dOp drEq (dOp drIx (dVar 4) (dVar 2)) (dOp drIx (dVar 4) (dVar 3)))) (dTst (dOp drIn (dCall T_law_two (dCons (dOp drIx (dVar 4) (dVar 2)) (dCons (dOp drIx (dVar 4) (dVar 3)) (dNil)))) (dVar 1)))) (dRet (dC (dB true))) (dNext))) (dRet (dC (dB false)))
theorem S_law_leads : FnScope ["_law_tables", "_law_found", "_law_one", "_law_other", "_law_table_here"] ["_law_tables", "_law_found", "_law_one", "_law_other"] (defScope (top 66)) := ⟨rfl, rfl, rfl, by decide +kernel, rfl, by decide +kernel, by decide +kernel⟩
theorem D_law_leads {P : Program} {w : World} {K : PySem.W.Frag} {mg : Str → Option Value} {base : Heap} (F : Fc K mg) (o_law_two : Ok P w K mg base "_law_two" ["_law_one", "_law_other"] 1 T_law_two) {T : DRs} (hlen : ∀ ds Q, T ds Q → ds.length = 4) (hT : ∀ ds Q, T ds Q → B_law_leads { nx := fun _ => Q dN, rt := Q } (dstart ["_law_tables", "_law_found", "_law_one", "_law_other", "_law_table_here"] ds)) : Ok P w K mg base "_law_leads" ["_law_tables", "_law_found", "_law_one", "_law_other"] (1 + 1) T :=
  ok_fn F 44 (j := 66) rfl S_law_leads T (B_law_leads) hlen hT (fun _ _ _ _ _ _ us hl => match us, hl with | [_, _, _, _], _ => rfl) fun f cdv A outer s H E hr => dss_cons (ds_for PassesOwn.never rfl (di_list (dv 0)) (pg_nm (i := 4) S_law_leads.nd rfl (by first | exact .inl rfl | exact .inr rfl)) (dss_one (ds_if (dt_w (dw_or (dt_cmp (od_eq hr.units) (de_ix (xd_ix hr.units) (dv 4) (dv 2) (fun _ _ => rfl)) (de_ix (xd_ix hr.units) (dv 4) (dv 3) (fun _ _ => rfl)) (nomark _)) (dw_or1 (dt_cmp (od_in (r65 hr)) (ok_call o_law_two hr (by decide) rfl (da_cons (de_ix (xd_ix hr.units) (dv 4) (dv 2) (fun _ _ => rfl)) (da_cons (de_ix (xd_ix hr.units) (dv 4) (dv 3) (fun _ _ => rfl)) (da_nil)))) (dv 1) (by with_unfolding_all rfl))))) (dss_one (ds_ret (de_bl))) (dss_nil)))) (dss_one (ds_ret (de_bl)))
def Ilp (n : Nat) (r : List Nat) (δ : DEnv) : Prop := ∃ (f : List Pr) (x y : Option FL.D), δ = [some (.d (eN n)), some (.d (.list (f.map ePr))), x, y] ∧ f ++ r.flatMap (row n) = prs n
def Igv (k : Nat) (r : List Pr) (δ : DEnv) : Prop := ∃ (f : List (List Pr)) (x y : Option FL.D), δ = [some (.d (eN k)), some (.d (.list (f.map eTs))), x, y] ∧ gs r f = gs (prs (k + 2)).reverse [[]] ∧ f.length * 2 ^ r.length ≤ 64 ∧ ∀ ts ∈ f, ts.length + r.length ≤ 6
def Ill (U : List Pr) (tt : List (List Nat)) (p : Pr) (r : List (List Nat)) (δ : DEnv) : Prop := ∃ x : Option FL.D, δ = [some (.d (eTt tt)), some (.dct (fd U)), some (.d (eN p.1)), some (.d (eN p.2)), x] ∧ lead U tt p = lead U r p
section
variable {P : Program} {w : World} {K : PySem.W.Frag} {mg : Str → Option Value} {base : Heap} (F : Fc K mg)
include F
theorem ok_law_two : Ok P w K mg base "_law_two" ["_law_one", "_law_other"] 1 T_law_two := by
  refine D_law_two F (fun ds Q h => ?_) (fun ds Q h => ?_)
  · obtain ⟨v, lo, rfl, h⟩ := h
    rfl
  · obtain ⟨a, b, rfl, h⟩ := h
    simp [B_law_two, eN, dstart, dSeq, dRet, dAsg, dPar, dIfS, dDrop, dNext, dVar, dC, dOp, dTst, dAnd, dOr, dNot, dIf, dAndV, dOrV, dNotV, dChain, dNil, dCons, dTup, dLst, dCall, plains, dIsi, isaP, drI, drI0, drPlus, drIx, drEq, drNe, drIn, drNIn, drIsN, drNotN, drLen, drAll, drSum, drMin, drMax, drTuple, drList, drDict, drInt, drAbs, dIterL, dIterT, dRng1, dRng2, dEnum, Tgt.put, dLc, dLc2, dYes, dInW, dTail, dHead, dRev, dMerge, dNew, dCount, dFor, List.getElem?_cons_zero, List.getElem?_cons_succ, List.map, List.length, List.replicate, List.append, List.cons_append, List.nil_append, List.append_nil, List.set, Option.map, Nat.sub_self, ne_pt, ne_pi, ne_pa, ne_tp, ne_ti, ne_ta, ne_ip, ne_it, ne_ia, ne_ap, ne_at, ne_ai, ne_kt, ne_kp, ne_pk, ne_pu, ne_uk, ne_up, okd_int, okd_bl, okd_pairs, okd_takes, okd_tie, okd_ask, okd_know, okd_part, okd_turn, tkey_ii, eqv_int, eqv_str, atI_0, atI_1, atI_2, atI_3, atI_4, ci, eqv_bl, lay_ii, atI_5]
    unfold mm ePr eN at h
    by_cases e : a ≤ b
    · rw [if_pos e] at h
      by_cases e2 : a < b
      · simpa [e2] using h
      · have : a = b := by omega
        subst this
        simpa using h
    · rw [if_neg e] at h
      have e2 : ¬ (a < b) := by omega
      simpa [e2] using h
theorem ok_law_pairs : Ok P w K mg base "_law_pairs" ["_law_people"] 1 T_law_pairs := by
  refine D_law_pairs F (fun ds Q h => ?_) (fun ds Q h => ?_)
  · obtain ⟨n, rfl, h⟩ := h
    rfl
  · obtain ⟨n, rfl, hn, h⟩ := h
    have hbig := big_line
    have hp := prs_small hn
    simp [B_law_pairs, eN, dstart, dSeq, dRet, dAsg, dPar, dIfS, dDrop, dNext, dVar, dC, dOp, dTst, dAnd, dOr, dNot, dIf, dAndV, dOrV, dNotV, dChain, dNil, dCons, dTup, dLst, dCall, plains, dIsi, isaP, drI, drI0, drPlus, drIx, drEq, drNe, drIn, drNIn, drIsN, drNotN, drLen, drAll, drSum, drMin, drMax, drTuple, drList, drDict, drInt, drAbs, dIterL, dIterT, dRng1, dRng2, dEnum, Tgt.put, dLc, dLc2, dYes, dInW, dTail, dHead, dRev, dMerge, dNew, dCount, dFor, List.getElem?_cons_zero, List.getElem?_cons_succ, List.map, List.length, List.replicate, List.append, List.cons_append, List.nil_append, List.append_nil, List.set, Option.map, Nat.sub_self, ne_pt, ne_pi, ne_pa, ne_tp, ne_ti, ne_ta, ne_ip, ne_it, ne_ia, ne_ap, ne_at, ne_ai, ne_kt, ne_kp, ne_pk, ne_pu, ne_uk, ne_up, okd_int, okd_bl, okd_pairs, okd_takes, okd_tie, okd_ask, okd_know, okd_part, okd_turn, tkey_ii, eqv_int, eqv_str, atI_0, atI_1, atI_2, atI_3, atI_4, ci, eqv_bl, lay_ii, atI_5]
    refine ⟨by unfold inI; omega, ?_⟩
    rw [intD_eq]
    refine dLoop_inv (fun i : Nat => dI (0 + (i : Nat))) (Ilp n) (List.range n) _ ⟨[], _, _, rfl, rfl⟩ ?_ ?_
    · rintro a r _ ⟨pre, hpre⟩ ⟨f, x, y, rfl, hl⟩ N hN
      have ha : a < n := List.mem_range.mp (by rw [hpre]; simp)
      have hfl : f.length + (row n a).length ≤ 10000 := by
        have := congrArg List.length hl
        rw [List.flatMap_cons, List.length_append, List.length_append] at this
        omega
      have hrl : (row n a).length = n - (a + 1) := by simp [row]
      simp [eN, dstart, dSeq, dRet, dAsg, dPar, dIfS, dDrop, dNext, dVar, dC, dOp, dTst, dAnd, dOr, dNot, dIf, dAndV, dOrV, dNotV, dChain, dNil, dCons, dTup, dLst, dCall, plains, dIsi, isaP, drI, drI0, drPlus, drIx, drEq, drNe, drIn, drNIn, drIsN, drNotN, drLen, drAll, drSum, drMin, drMax, drTuple, drList, drDict, drInt, drAbs, dIterL, dIterT, dRng1, dRng2, dEnum, Tgt.put, dLc, dLc2, dYes, dInW, dTail, dHead, dRev, dMerge, dNew, dCount, dFor, List.getElem?_cons_zero, List.getElem?_cons_succ, List.map, List.length, List.replicate, List.append, List.cons_append, List.nil_append, List.append_nil, List.set, Option.map, Nat.sub_self, ne_pt, ne_pi, ne_pa, ne_tp, ne_ti, ne_ta, ne_ip, ne_it, ne_ia, ne_ap, ne_at, ne_ai, ne_kt, ne_kp, ne_pk, ne_pu, ne_uk, ne_up, okd_int, okd_bl, okd_pairs, okd_takes, okd_tie, okd_ask, okd_know, okd_part, okd_turn, tkey_ii, eqv_int, eqv_str, atI_0, atI_1, atI_2, atI_3, atI_4, ci, eqv_bl, lay_ii, atI_5]
      refine ⟨by unfold inI; omega, by unfold inI; omega, ?_⟩
      have e : ((n : Int) - ((a : Int) + 1)).toNat = n - (a + 1) := by omega
      rw [e, intD_eq]
      refine dGo_map (fun i : Nat => dI ((a : Int) + 1 + (i : Nat))) (fun i => ePr (a, a + 1 + i)) (List.range (n - (a + 1))) [] _ (by simp; omega) (fun i _ acc R ha hR => ?_) ?_
      · simp [dStep, dwipe, dstart, dSeq, dRet, dAsg, dPar, dIfS, dDrop, dNext, dVar, dC, dOp, dTst, dAnd, dOr, dNot, dIf, dAndV, dOrV, dNotV, dChain, dNil, dCons, dTup, dLst, dCall, plains, dIsi, isaP, drI, drI0, drPlus, drIx, drEq, drNe, drIn, drNIn, drIsN, drNotN, drLen, drAll, drSum, drMin, drMax, drTuple, drList, drDict, drInt, drAbs, dIterL, dIterT, dRng1, dRng2, dEnum, Tgt.put, dLc, dLc2, dYes, dInW, dTail, dHead, dRev, dMerge, dNew, dCount, dFor, List.getElem?_cons_zero, List.getElem?_cons_succ, List.map, List.length, List.replicate, List.append, List.cons_append, List.nil_append, List.append_nil, List.set, Option.map, Nat.sub_self, ne_pt, ne_pi, ne_pa, ne_tp, ne_ti, ne_ta, ne_ip, ne_it, ne_ia, ne_ap, ne_at, ne_ai, ne_kt, ne_kp, ne_pk, ne_pu, ne_uk, ne_up, okd_int, okd_bl, okd_pairs, okd_takes, okd_tie, okd_ask, okd_know, okd_part, okd_turn, tkey_ii, eqv_int, eqv_str, atI_0, atI_1, atI_2, atI_3, atI_4, ci, eqv_bl, lay_ii, atI_5]
        refine ⟨ha, ?_⟩
        have e2 : ePr (a, a + 1 + i) = PyData.tuple [PyData.int ↑a, PyData.int (↑a + 1 + ↑i)] := by
          unfold ePr eN
          simp
        rw [← e2]
        exact hR
      · rw [List.nil_append]
        refine ⟨by simp; omega, hN _ ⟨f ++ row n a, some (.d (.int a)), y, ?_, ?_⟩⟩
        · rw [List.map_append]
          have e7 : (row n a).map ePr = (List.range (n - (a + 1))).map fun i => ePr (a, a + 1 + i) := by
            unfold row
            rw [List.map_map]
            rfl
          rw [e7]
          rfl
        · rw [List.append_assoc, ← List.flatMap_cons]
          exact hl
    · rintro _ ⟨f, x, y, rfl, hl⟩
      have hl' : f = prs n := by simpa using hl
      rw [hl']
      exact h
theorem ok_law_knows : Ok P w K mg base "_law_knows" ["_law_company_here", "_law_one", "_law_other"] 2 T_law_knows := by
  refine D_law_knows F (ok_law_two F) (fun ds Q h => ?_) (fun ds Q h => ?_)
  · obtain ⟨c, v, lo, rfl, h⟩ := h
    rfl
  · obtain ⟨c, a, b, rfl, h⟩ := h
    simp [B_law_knows, eCo, eTs, dstart, dSeq, dRet, dAsg, dPar, dIfS, dDrop, dNext, dVar, dC, dOp, dTst, dAnd, dOr, dNot, dIf, dAndV, dOrV, dNotV, dChain, dNil, dCons, dTup, dLst, dCall, plains, dIsi, isaP, drI, drI0, drPlus, drIx, drEq, drNe, drIn, drNIn, drIsN, drNotN, drLen, drAll, drSum, drMin, drMax, drTuple, drList, drDict, drInt, drAbs, dIterL, dIterT, dRng1, dRng2, dEnum, Tgt.put, dLc, dLc2, dYes, dInW, dTail, dHead, dRev, dMerge, dNew, dCount, dFor, List.getElem?_cons_zero, List.getElem?_cons_succ, List.map, List.length, List.replicate, List.append, List.cons_append, List.nil_append, List.append_nil, List.set, Option.map, Nat.sub_self, ne_pt, ne_pi, ne_pa, ne_tp, ne_ti, ne_ta, ne_ip, ne_it, ne_ia, ne_ap, ne_at, ne_ai, ne_kt, ne_kp, ne_pk, ne_pu, ne_uk, ne_up, okd_int, okd_bl, okd_pairs, okd_takes, okd_tie, okd_ask, okd_know, okd_part, okd_turn, tkey_ii, eqv_int, eqv_str, atI_0, atI_1, atI_2, atI_3, atI_4, ci, eqv_bl, lay_ii, atI_5]
    refine ⟨a, b, rfl, (sh_pr _).okd, lay_prs _, ?_⟩
    rw [any_pr]
    exact h
theorem ok_law_all_views : Ok P w K mg base "_law_all_views" ["_law_named"] 1 T_law_all_views := by
  refine D_law_all_views F (fun ds Q h => ?_) (fun ds Q h => ?_)
  · obtain ⟨n, rfl, h⟩ := h
    rfl
  · obtain ⟨k, rfl, hk, h⟩ := h
    have e1 : vn 1 = 8 := by decide +kernel
    have e2 : vn 2 = 64 := by decide +kernel
    rcases hk with rfl | rfl
    · rw [e1] at h
      simp [B_law_all_views, eN, dstart, dSeq, dRet, dAsg, dPar, dIfS, dDrop, dNext, dVar, dC, dOp, dTst, dAnd, dOr, dNot, dIf, dAndV, dOrV, dNotV, dChain, dNil, dCons, dTup, dLst, dCall, plains, dIsi, isaP, drI, drI0, drPlus, drIx, drEq, drNe, drIn, drNIn, drIsN, drNotN, drLen, drAll, drSum, drMin, drMax, drTuple, drList, drDict, drInt, drAbs, dIterL, dIterT, dRng1, dRng2, dEnum, Tgt.put, dLc, dLc2, dYes, dInW, dTail, dHead, dRev, dMerge, dNew, dCount, dFor, List.getElem?_cons_zero, List.getElem?_cons_succ, List.map, List.length, List.replicate, List.append, List.cons_append, List.nil_append, List.append_nil, List.set, Option.map, Nat.sub_self, ne_pt, ne_pi, ne_pa, ne_tp, ne_ti, ne_ta, ne_ip, ne_it, ne_ia, ne_ap, ne_at, ne_ai, ne_kt, ne_kp, ne_pk, ne_pu, ne_uk, ne_up, okd_int, okd_bl, okd_pairs, okd_takes, okd_tie, okd_ask, okd_know, okd_part, okd_turn, tkey_ii, eqv_int, eqv_str, atI_0, atI_1, atI_2, atI_3, atI_4, ci, eqv_bl, lay_ii, atI_5]
      exact h
    · rw [e2] at h
      simp [B_law_all_views, eN, dstart, dSeq, dRet, dAsg, dPar, dIfS, dDrop, dNext, dVar, dC, dOp, dTst, dAnd, dOr, dNot, dIf, dAndV, dOrV, dNotV, dChain, dNil, dCons, dTup, dLst, dCall, plains, dIsi, isaP, drI, drI0, drPlus, drIx, drEq, drNe, drIn, drNIn, drIsN, drNotN, drLen, drAll, drSum, drMin, drMax, drTuple, drList, drDict, drInt, drAbs, dIterL, dIterT, dRng1, dRng2, dEnum, Tgt.put, dLc, dLc2, dYes, dInW, dTail, dHead, dRev, dMerge, dNew, dCount, dFor, List.getElem?_cons_zero, List.getElem?_cons_succ, List.map, List.length, List.replicate, List.append, List.cons_append, List.nil_append, List.append_nil, List.set, Option.map, Nat.sub_self, ne_pt, ne_pi, ne_pa, ne_tp, ne_ti, ne_ta, ne_ip, ne_it, ne_ia, ne_ap, ne_at, ne_ai, ne_kt, ne_kp, ne_pk, ne_pu, ne_uk, ne_up, okd_int, okd_bl, okd_pairs, okd_takes, okd_tie, okd_ask, okd_know, okd_part, okd_turn, tkey_ii, eqv_int, eqv_str, atI_0, atI_1, atI_2, atI_3, atI_4, ci, eqv_bl, lay_ii, atI_5]
      exact h
theorem ok_law_leads : Ok P w K mg base "_law_leads" ["_law_tables", "_law_found", "_law_one", "_law_other"] 2 T_law_leads := by
  refine D_law_leads F (ok_law_two F) (fun ds Q h => ?_) (fun ds Q h => ?_)
  · obtain ⟨U, tt, n, p, rfl, h⟩ := h
    rfl
  · obtain ⟨U, tt, n, p, rfl, ht, hp, h⟩ := h
    obtain ⟨hp1, hp2⟩ := mem_prs.mp hp
    simp [B_law_leads, eTt, Function.comp_def, dstart, dSeq, dRet, dAsg, dPar, dIfS, dDrop, dNext, dVar, dC, dOp, dTst, dAnd, dOr, dNot, dIf, dAndV, dOrV, dNotV, dChain, dNil, dCons, dTup, dLst, dCall, plains, dIsi, isaP, drI, drI0, drPlus, drIx, drEq, drNe, drIn, drNIn, drIsN, drNotN, drLen, drAll, drSum, drMin, drMax, drTuple, drList, drDict, drInt, drAbs, dIterL, dIterT, dRng1, dRng2, dEnum, Tgt.put, dLc, dLc2, dYes, dInW, dTail, dHead, dRev, dMerge, dNew, dCount, dFor, List.getElem?_cons_zero, List.getElem?_cons_succ, List.map, List.length, List.replicate, List.append, List.cons_append, List.nil_append, List.append_nil, List.set, Option.map, Nat.sub_self, ne_pt, ne_pi, ne_pa, ne_tp, ne_ti, ne_ta, ne_ip, ne_it, ne_ia, ne_ap, ne_at, ne_ai, ne_kt, ne_kp, ne_pk, ne_pu, ne_uk, ne_up, okd_int, okd_bl, okd_pairs, okd_takes, okd_tie, okd_ask, okd_know, okd_part, okd_turn, tkey_ii, eqv_int, eqv_str, atI_0, atI_1, atI_2, atI_3, atI_4, ci, eqv_bl, lay_ii, atI_5]
    refine dLoop_inv (fun t : List Nat => .d (eTab t)) (Ill U tt p) tt _ ⟨none, rfl, rfl⟩ ?_ ?_
    · rintro t r _ ⟨a, ha⟩ ⟨x, rfl, hl⟩ N hN
      have htl : t.length = n := ht t (by rw [ha]; simp)
      have e1 := getD_tab t p.1 (by omega)
      have e2 := getD_tab t p.2 (by omega)
      have hl2 : lead U (t :: r) p = ((decide (t.getD p.1 0 = t.getD p.2 0) || decide (mm (t.getD p.1 0) (t.getD p.2 0) ∈ U)) || lead U r p) := rfl
      rw [hl2] at hl
      generalize t.getD p.1 0 = a at *
      generalize t.getD p.2 0 = b at *
      simp [eTt, eTab, eN, Function.comp_def, dstart, dSeq, dRet, dAsg, dPar, dIfS, dDrop, dNext, dVar, dC, dOp, dTst, dAnd, dOr, dNot, dIf, dAndV, dOrV, dNotV, dChain, dNil, dCons, dTup, dLst, dCall, plains, dIsi, isaP, drI, drI0, drPlus, drIx, drEq, drNe, drIn, drNIn, drIsN, drNotN, drLen, drAll, drSum, drMin, drMax, drTuple, drList, drDict, drInt, drAbs, dIterL, dIterT, dRng1, dRng2, dEnum, Tgt.put, dLc, dLc2, dYes, dInW, dTail, dHead, dRev, dMerge, dNew, dCount, dFor, List.getElem?_cons_zero, List.getElem?_cons_succ, List.map, List.length, List.replicate, List.append, List.cons_append, List.nil_append, List.append_nil, List.set, Option.map, Nat.sub_self, ne_pt, ne_pi, ne_pa, ne_tp, ne_ti, ne_ta, ne_ip, ne_it, ne_ia, ne_ap, ne_at, ne_ai, ne_kt, ne_kp, ne_pk, ne_pu, ne_uk, ne_up, okd_int, okd_bl, okd_pairs, okd_takes, okd_tie, okd_ask, okd_know, okd_part, okd_turn, tkey_ii, eqv_int, eqv_str, atI_0, atI_1, atI_2, atI_3, atI_4, ci, eqv_bl, lay_ii, atI_5]
      rw [e1, e2]
      simp [eN, dstart, dSeq, dRet, dAsg, dPar, dIfS, dDrop, dNext, dVar, dC, dOp, dTst, dAnd, dOr, dNot, dIf, dAndV, dOrV, dNotV, dChain, dNil, dCons, dTup, dLst, dCall, plains, dIsi, isaP, drI, drI0, drPlus, drIx, drEq, drNe, drIn, drNIn, drIsN, drNotN, drLen, drAll, drSum, drMin, drMax, drTuple, drList, drDict, drInt, drAbs, dIterL, dIterT, dRng1, dRng2, dEnum, Tgt.put, dLc, dLc2, dYes, dInW, dTail, dHead, dRev, dMerge, dNew, dCount, dFor, List.getElem?_cons_zero, List.getElem?_cons_succ, List.map, List.length, List.replicate, List.append, List.cons_append, List.nil_append, List.append_nil, List.set, Option.map, Nat.sub_self, ne_pt, ne_pi, ne_pa, ne_tp, ne_ti, ne_ta, ne_ip, ne_it, ne_ia, ne_ap, ne_at, ne_ai, ne_kt, ne_kp, ne_pk, ne_pu, ne_uk, ne_up, okd_int, okd_bl, okd_pairs, okd_takes, okd_tie, okd_ask, okd_know, okd_part, okd_turn, tkey_ii, eqv_int, eqv_str, atI_0, atI_1, atI_2, atI_3, atI_4, ci, eqv_bl, lay_ii, atI_5]
      by_cases c1 : a = b
      · simp [c1] at hl ⊢
        rw [hl] at h
        exact h
      · simp [c1]
        refine ⟨a, b, rfl, ?_⟩
        simp [tkey_pr, some_fd]
        by_cases c2 : mm a b ∈ U
        · simp [c2] at hl ⊢
          rw [hl] at h
          exact h
        · simp [c1, c2] at hl ⊢
          exact hN _ ⟨_, rfl, hl⟩
    · rintro _ ⟨x, rfl, hl⟩
      rw [hl] at h
      exact h
theorem ok_law_views : Ok P w K mg base "_law_views" ["_law_named"] 2 T_law_views := by
  refine D_law_views F (ok_law_pairs F) (fun ds Q h => ?_) (fun ds Q h => ?_)
  · obtain ⟨c, rfl, h⟩ := h
    rfl
  · obtain ⟨k, rfl, hk, h⟩ := h
    have hbig := big_line
    simp [B_law_views, eN, dstart, dSeq, dRet, dAsg, dPar, dIfS, dDrop, dNext, dVar, dC, dOp, dTst, dAnd, dOr, dNot, dIf, dAndV, dOrV, dNotV, dChain, dNil, dCons, dTup, dLst, dCall, plains, dIsi, isaP, drI, drI0, drPlus, drIx, drEq, drNe, drIn, drNIn, drIsN, drNotN, drLen, drAll, drSum, drMin, drMax, drTuple, drList, drDict, drInt, drAbs, dIterL, dIterT, dRng1, dRng2, dEnum, Tgt.put, dLc, dLc2, dYes, dInW, dTail, dHead, dRev, dMerge, dNew, dCount, dFor, List.getElem?_cons_zero, List.getElem?_cons_succ, List.map, List.length, List.replicate, List.append, List.cons_append, List.nil_append, List.append_nil, List.set, Option.map, Nat.sub_self, ne_pt, ne_pi, ne_pa, ne_tp, ne_ti, ne_ta, ne_ip, ne_it, ne_ia, ne_ap, ne_at, ne_ai, ne_kt, ne_kp, ne_pk, ne_pu, ne_uk, ne_up, okd_int, okd_bl, okd_pairs, okd_takes, okd_tie, okd_ask, okd_know, okd_part, okd_turn, tkey_ii, eqv_int, eqv_str, atI_0, atI_1, atI_2, atI_3, atI_4, ci, eqv_bl, lay_ii, atI_5]
    refine ⟨k + 2, rfl, by omega, ?_⟩
    have h6 : (prs (k + 2)).reverse.length ≤ 6 := by rw [List.length_reverse]; exact prs_len6 hk
    dsimp only
    simp only [← List.map_reverse, List.map_map, Function.comp_def]
    refine dLoop_inv (fun p : Pr => .d (ePr p)) (Igv k) (prs (k + 2)).reverse _ ⟨[[]], none, none, rfl, rfl, ?_, by intro ts hts; simp at hts; subst hts; simpa using h6⟩ ?_ ?_
    · have : 2 ^ (prs (k + 2)).reverse.length ≤ 2 ^ 6 := Nat.pow_le_pow_right (by decide) h6
      simpa using this
    · rintro p r _ _ ⟨f, x, y, rfl, hf, hl, hlen⟩ N hN
      have hpos : 1 ≤ 2 ^ r.length := Nat.one_le_two_pow
      have hl2 : f.length * 2 * 2 ^ r.length ≤ 64 := by
        rw [List.length_cons, Nat.pow_succ] at hl
        rw [Nat.mul_assoc, Nat.mul_comm 2]
        exact hl
      have hl3 : f.length * 2 ≤ 64 := Nat.le_trans (Nat.le_mul_of_pos_right _ hpos) hl2
      simp [Function.comp_def, dstart, dSeq, dRet, dAsg, dPar, dIfS, dDrop, dNext, dVar, dC, dOp, dTst, dAnd, dOr, dNot, dIf, dAndV, dOrV, dNotV, dChain, dNil, dCons, dTup, dLst, dCall, plains, dIsi, isaP, drI, drI0, drPlus, drIx, drEq, drNe, drIn, drNIn, drIsN, drNotN, drLen, drAll, drSum, drMin, drMax, drTuple, drList, drDict, drInt, drAbs, dIterL, dIterT, dRng1, dRng2, dEnum, Tgt.put, dLc, dLc2, dYes, dInW, dTail, dHead, dRev, dMerge, dNew, dCount, dFor, List.getElem?_cons_zero, List.getElem?_cons_succ, List.map, List.length, List.replicate, List.append, List.cons_append, List.nil_append, List.append_nil, List.set, Option.map, Nat.sub_self, ne_pt, ne_pi, ne_pa, ne_tp, ne_ti, ne_ta, ne_ip, ne_it, ne_ia, ne_ap, ne_at, ne_ai, ne_kt, ne_kp, ne_pk, ne_pu, ne_uk, ne_up, okd_int, okd_bl, okd_pairs, okd_takes, okd_tie, okd_ask, okd_know, okd_part, okd_turn, tkey_ii, eqv_int, eqv_str, atI_0, atI_1, atI_2, atI_3, atI_4, ci, eqv_bl, lay_ii, atI_5]
      refine dGo_map (fun ts : List Pr => .d (eTs ts)) (fun ts => eTs (p :: ts)) f [] _ (by simp; omega) (fun ts hts acc R ha hR => ?_) ?_
      · have hts' := hlen ts hts
        simp at hts'
        simp [dStep, dwipe, eTs, dstart, dSeq, dRet, dAsg, dPar, dIfS, dDrop, dNext, dVar, dC, dOp, dTst, dAnd, dOr, dNot, dIf, dAndV, dOrV, dNotV, dChain, dNil, dCons, dTup, dLst, dCall, plains, dIsi, isaP, drI, drI0, drPlus, drIx, drEq, drNe, drIn, drNIn, drIsN, drNotN, drLen, drAll, drSum, drMin, drMax, drTuple, drList, drDict, drInt, drAbs, dIterL, dIterT, dRng1, dRng2, dEnum, Tgt.put, dLc, dLc2, dYes, dInW, dTail, dHead, dRev, dMerge, dNew, dCount, dFor, List.getElem?_cons_zero, List.getElem?_cons_succ, List.map, List.length, List.replicate, List.append, List.cons_append, List.nil_append, List.append_nil, List.set, Option.map, Nat.sub_self, ne_pt, ne_pi, ne_pa, ne_tp, ne_ti, ne_ta, ne_ip, ne_it, ne_ia, ne_ap, ne_at, ne_ai, ne_kt, ne_kp, ne_pk, ne_pu, ne_uk, ne_up, okd_int, okd_bl, okd_pairs, okd_takes, okd_tie, okd_ask, okd_know, okd_part, okd_turn, tkey_ii, eqv_int, eqv_str, atI_0, atI_1, atI_2, atI_3, atI_4, ci, eqv_bl, lay_ii, atI_5]
        refine ⟨by omega, ha, ?_⟩
        exact hR
      · rw [List.nil_append]
        refine ⟨by simp; omega, hN _ ⟨f ++ f.map (p :: ·), some (.d (ePr p)), y, ?_, hf, ?_, ?_⟩⟩
        · rw [List.map_append, List.map_map]
          rfl
        · have e : (f ++ f.map (p :: ·)).length = f.length * 2 := by simp; omega
          rw [e]
          exact hl2
        · intro ts hts
          rcases List.mem_append.mp hts with z | z
          · have := hlen ts z
            simp at this
            omega
          · obtain ⟨u, hu, rfl⟩ := List.mem_map.mp z
            have := hlen u hu
            simp at this ⊢
            omega
    · rintro _ ⟨f, x, y, rfl, hf, hl, hlen⟩
      have hf' : f = gs (prs (k + 2)).reverse [[]] := hf
      simp [dstart, dSeq, dRet, dAsg, dPar, dIfS, dDrop, dNext, dVar, dC, dOp, dTst, dAnd, dOr, dNot, dIf, dAndV, dOrV, dNotV, dChain, dNil, dCons, dTup, dLst, dCall, plains, dIsi, isaP, drI, drI0, drPlus, drIx, drEq, drNe, drIn, drNIn, drIsN, drNotN, drLen, drAll, drSum, drMin, drMax, drTuple, drList, drDict, drInt, drAbs, dIterL, dIterT, dRng1, dRng2, dEnum, Tgt.put, dLc, dLc2, dYes, dInW, dTail, dHead, dRev, dMerge, dNew, dCount, dFor, List.getElem?_cons_zero, List.getElem?_cons_succ, List.map, List.length, List.replicate, List.append, List.cons_append, List.nil_append, List.append_nil, List.set, Option.map, Nat.sub_self, ne_pt, ne_pi, ne_pa, ne_tp, ne_ti, ne_ta, ne_ip, ne_it, ne_ia, ne_ap, ne_at, ne_ai, ne_kt, ne_kp, ne_pk, ne_pu, ne_uk, ne_up, okd_int, okd_bl, okd_pairs, okd_takes, okd_tie, okd_ask, okd_know, okd_part, okd_turn, tkey_ii, eqv_int, eqv_str, atI_0, atI_1, atI_2, atI_3, atI_4, ci, eqv_bl, lay_ii, atI_5]
      refine ⟨_, sort_lx (f.map eTs) k (.inr (by rw [hf'])) hk, ?_⟩
      simp [Function.comp_def, dstart, dSeq, dRet, dAsg, dPar, dIfS, dDrop, dNext, dVar, dC, dOp, dTst, dAnd, dOr, dNot, dIf, dAndV, dOrV, dNotV, dChain, dNil, dCons, dTup, dLst, dCall, plains, dIsi, isaP, drI, drI0, drPlus, drIx, drEq, drNe, drIn, drNIn, drIsN, drNotN, drLen, drAll, drSum, drMin, drMax, drTuple, drList, drDict, drInt, drAbs, dIterL, dIterT, dRng1, dRng2, dEnum, Tgt.put, dLc, dLc2, dYes, dInW, dTail, dHead, dRev, dMerge, dNew, dCount, dFor, List.getElem?_cons_zero, List.getElem?_cons_succ, List.map, List.length, List.replicate, List.append, List.cons_append, List.nil_append, List.append_nil, List.set, Option.map, Nat.sub_self, ne_pt, ne_pi, ne_pa, ne_tp, ne_ti, ne_ta, ne_ip, ne_it, ne_ia, ne_ap, ne_at, ne_ai, ne_kt, ne_kp, ne_pk, ne_pu, ne_uk, ne_up, okd_int, okd_bl, okd_pairs, okd_takes, okd_tie, okd_ask, okd_know, okd_part, okd_turn, tkey_ii, eqv_int, eqv_str, atI_0, atI_1, atI_2, atI_3, atI_4, ci, eqv_bl, lay_ii, atI_5]
      have hl : (lx (prs (k + 2))).length ≤ 64 := by
        have := vw_length hk
        unfold vw at this
        simpa using this
      refine dGo_map (fun ts : List Pr => .d (eTs ts)) (fun ts => eCo (k + 2, ts)) (lx (prs (k + 2))) [] _ (by simp; omega) (fun ts hts acc R ha hR => ?_) ?_
      · simp [dStep, dwipe, dstart, dSeq, dRet, dAsg, dPar, dIfS, dDrop, dNext, dVar, dC, dOp, dTst, dAnd, dOr, dNot, dIf, dAndV, dOrV, dNotV, dChain, dNil, dCons, dTup, dLst, dCall, plains, dIsi, isaP, drI, drI0, drPlus, drIx, drEq, drNe, drIn, drNIn, drIsN, drNotN, drLen, drAll, drSum, drMin, drMax, drTuple, drList, drDict, drInt, drAbs, dIterL, dIterT, dRng1, dRng2, dEnum, Tgt.put, dLc, dLc2, dYes, dInW, dTail, dHead, dRev, dMerge, dNew, dCount, dFor, List.getElem?_cons_zero, List.getElem?_cons_succ, List.map, List.length, List.replicate, List.append, List.cons_append, List.nil_append, List.append_nil, List.set, Option.map, Nat.sub_self, ne_pt, ne_pi, ne_pa, ne_tp, ne_ti, ne_ta, ne_ip, ne_it, ne_ia, ne_ap, ne_at, ne_ai, ne_kt, ne_kp, ne_pk, ne_pu, ne_uk, ne_up, okd_int, okd_bl, okd_pairs, okd_takes, okd_tie, okd_ask, okd_know, okd_part, okd_turn, tkey_ii, eqv_int, eqv_str, atI_0, atI_1, atI_2, atI_3, atI_4, ci, eqv_bl, lay_ii, atI_5]
        exact ⟨ha, hR⟩
      · rw [List.nil_append]
        unfold vw at h
        rw [List.map_map] at h
        exact h
end
end TW
namespace TW
open PySem PySem.Spec PyProof.Rows L2 FL
/-! ### by hand: a loop over a cell that grows -/
section
variable {P : Program} {w : World} {K : PySem.W.Frag}
theorem tFor_cell {α : Type} {C0 : Cells} {p : Addr} {I : DTI} {t : Tgt} {tb : TS} {D : Ends} {xs : List α} {enc : α → FL.D} (Inv : Nat → DEnv → HO → Hp → Prop) (st : ∀ i δ o H H', Inv i δ o H → Keep (withC C0 p o) H H' → Inv i δ o H')
    {o0 : HO} {σ0 : L2.St} {δ0 : DEnv} {H0 : Hp} (h0 : Here P w (withC C0 p o0) H0 σ0 δ0) (hI : I δ0 fun ds => ds = xs.map enc) (i0 : Inv 0 δ0 o0 H0)
    (hb : ∀ i x o σ H δ, xs[i]? = some x → Here P w (withC C0 p o) H σ δ → Ext (withC C0 p o0) H0 (withC C0 p o) H → Inv i δ o H → ∀ N : L2.St → Hp → Prop,
      (∀ o' σ' H' δ', Here P w (withC C0 p o') H' σ' δ' → Ext (withC C0 p o) H (withC C0 p o') H' → Inv (i + 1) δ' o' H' → N σ' H') → ∀ v, RepD P w (withC C0 p o) H v (enc x) → t.g K v σ H fun σ2 H2 => tb { D with nx := N, ct := N, bk := D.nx } σ2 H2)
    (he : ∀ o σ H δ, Here P w (withC C0 p o) H σ δ → Ext (withC C0 p o0) H0 (withC C0 p o) H → Inv xs.length δ o H → D.nx σ H) : tFor (liftI P w I) (t.g K) tb D σ0 H0 := by
  refine ⟨withC C0 p o0, δ0, _, h0, hI, fun J H1 ds it c1 k1 e => ?_⟩
  subst e
  refine ⟨fun i m σ H => ∃ o δ, m = xs.length - i ∧ i ≤ xs.length ∧ Here P w (withC C0 p o) H σ δ ∧ Ext (withC C0 p o0) H1 (withC C0 p o) H ∧ Inv i δ o H, ⟨_, o0, δ0, rfl, Nat.zero_le _, h0.go c1 k1, Ext.of Keep.refl, st _ _ _ _ _ i0 k1⟩, ?_⟩
  rintro i m σ H ⟨o, δ, rfl, hle, hh, ex, inv⟩
  obtain ⟨it1, it2⟩ := it _ H ex hh.cells
  by_cases hlt : i < xs.length
  · have hx : xs[i]? = some xs[i] := List.getElem?_eq_getElem hlt
    have hd : (xs.map enc)[i]? = some (enc xs[i]) := by rw [List.getElem?_map, hx]; rfl
    obtain ⟨g1, g2⟩ := it1 i _ hd
    refine .inr ⟨g1, fun σ' H' => ∃ o' δ', Here P w (withC C0 p o') H' σ' δ' ∧ Ext (withC C0 p o0) H1 (withC C0 p o') H' ∧ Inv (i + 1) δ' o' H', fun σ' H' ⟨o', δ', a1, a2, a3⟩ => ⟨xs.length - (i + 1), by omega, o', δ', rfl, hlt, a1, a2, a3⟩, fun x H' y => ?_⟩
    obtain ⟨rx, c2, k2⟩ := g2 x H' y
    have ex2 := ex.trans (Ext.of k2)
    exact hb i _ o σ H' δ hx (hh.go c2 k2) ((Ext.of k1).trans ex2) (st _ _ _ _ _ inv k2) _ (fun o' σ' H3 δ' h3 x3 n3 => ⟨o', δ', h3, ex2.trans x3, n3⟩) x rx
  · have e : i = xs.length := by omega
    subst e
    exact .inl ⟨it2 _ (by rw [List.length_map]; exact Nat.le_refl _), he o σ H δ hh ((Ext.of k1).trans ex) inv⟩
theorem liftS_then {a : DTS} {t : TS} {D : Ends} {C : Cells} {H : Hp} {σ : L2.St} {δ : DEnv} (N : DEnv → Prop) (hh : Here P w C H σ δ) (ha : a { nx := N, rt := fun _ => False } δ) (k : ∀ σ' H' δ', Here P w C H' σ' δ' → Keep C H H' → N δ' → t D σ' H') : tSeq (liftS P w a) t D σ H :=
  ⟨C, δ, _, hh, ha, fun σ' H' δ' h k' q => k σ' H' δ' h k' q, fun _ _ _ _ _ _ q => q.elim, fun _ _ _ _ _ q => q.elim, fun _ _ _ _ _ q => q.elim⟩
theorem liftS_end {a : DTS} {D : Ends} {C : Cells} {H : Hp} {σ : L2.St} {δ : DEnv} (N : DEnv → Prop) (hh : Here P w C H σ δ) (ha : a { nx := N, rt := fun _ => False } δ) (k : ∀ σ' H' δ', Here P w C H' σ' δ' → Keep C H H' → N δ' → D.nx σ' H') : liftS P w a D σ H :=
  ⟨C, δ, _, hh, ha, fun σ' H' δ' h k' q => k σ' H' δ' h k' q, fun _ _ _ _ _ _ q => q.elim, fun _ _ _ _ _ q => q.elim, fun _ _ _ _ _ q => q.elim⟩
theorem liftS_ret {a : DTS} {D : Ends} {C : Cells} {H : Hp} {σ : L2.St} {δ : DEnv} (R : FL.D → Prop) (hh : Here P w C H σ δ) (ha : a { nx := fun _ => False, rt := R } δ) (k : ∀ v H' d, RepD P w C H' v d → CellsOk C H' → Keep C H H' → R d → D.rt v H') : liftS P w a D σ H :=
  ⟨C, δ, _, hh, ha, fun _ _ _ _ _ q => q.elim, k, fun _ _ _ _ _ q => q.elim, fun _ _ _ _ _ q => q.elim⟩
end
/-! ### xs.append((a, b)) -/
def tApp (i a b : Nat) : TS := fun D σ H => ∃ v1 v2 p av, σ[i]? = some (some (.ref p)) ∧ σ[a]? = some (some v1) ∧ σ[b]? = some (some v2) ∧ H p = some (.lst av) ∧ av.length < sizeLine ∧ ∀ q, H q = none → D.nx σ (upd (upd H q (.tup [v1, v2])) p (.lst (av ++ [.ref q])))
section
variable {X : Cx} {pos apos cpos pt p1 p2 p3 : Pos} {kt : Nat}
theorem ps_app {i a b : Nat} {x y z : Str} (h1 : PE X (.Name x p1) (tVar i)) (h2 : PE X (.Name y p2) (tVar a)) (h3 : PE X (.Name z p3) (tVar b)) (hline : (apos.endLine == cpos.line) = true := by rfl)
    (hs : swapsWith (.Call (.Attribute (.Name x p1) "append" apos) [.Tuple [.Name y p2, .Name z p3] kt pt] [] cpos) none pos.line X.env = pure false := by rfl) :
    PS X (.Expr (.Call (.Attribute (.Name x p1) "append" apos) [.Tuple [.Name y p2, .Name z p3] kt pt] [] cpos) pos) (tApp i a b) :=
  ps_wk (ps_expr (pe_bm PySem.F.plainAttrs_list PySem.F.slot_list_append PySem.F.type_list_append mt_append h1 (pa_cons (pe_tup (pa_cons h2 (pa_cons h3 pa_nil rfl) rfl)) pa_nil rfl) rfl rfl hline rfl rfl) hs) fun D σ H ⟨v1, v2, p, av, e1, e2, e3, hp, hl, k⟩ => by
    refine ⟨.ref p, e1, ?_, v1, e2, v2, e3, le_line (show 2 ≤ 1000 by decide), fun q hq => ?_⟩
    · exact .inl ⟨rfl, av, SqL.of hp⟩
    · have ne : p ≠ q := fun e => by rw [e, hq] at hp; cases hp
      exact ⟨p, av, .ref q, rfl, rfl, by rw [upd_ne ne]; exact hp, hl, k q hq⟩
end
/-! ### a def by hand -/
section
variable {P : Program} {w : World} {K : PySem.W.Frag} {mg : Str → Option Value} {base : Heap} {x : Str} {N ps : List Str} {k : Nat} {T : DRs}
theorem ok_hand (F : Fc K mg) (i : Nat) {j : Nat} (hd : fn[i]? = some (dd x j)) (S : FnScope N ps (defScope (top j))) (T : DRs) (Tb : TS) (hlen : ∀ ds Q, T ds Q → ds.length = ps.length)
    (hT : ∀ C vs ds H R k, RepAll P w C H vs ds → CellsOk C H → T ds R → (∀ v H' d, RepD P w C H' v d → CellsOk C H' → Keep C H H' → R d → k v H') → Tb { nx := fun _ H' => k .non H', rt := k } (L2.start N vs) H)
    (hbd : ∀ (kV doc pm : Value) (an : Option Addr) (cdv ct : Value) (us : List Value), us.length = ps.length → bindArgs (PySem.W.fnOf x x (defArgs (top j)) (defBody (top j)) (defScope (top j)) .none kV doc pm an cdv ct) ⟨us, []⟩ = pure (ps.zip us))
    (hb : ∀ (f : Addr) (cdv : Value) (A : Around) (outer : List Env) (s : Shared) (H : Hp) (E : XK), Room k (A.deeper (envOfC x (defScope (top j)) s.heap.objs.size f cdv)) → PSs (cxOf CX0 P w K mg base N x (defScope (top j)) f cdv A outer s H E).nox (defBody (top j)) Tb) :
    Ok P w K mg base x ps (k + 1) T := by
  obtain ⟨f, fd, h1, h2⟩ := F.defs i _ hd
  have h1' : FunD K x x (defArgs (top j)) (defBody (top j)) (defScope (top j)) [] [] f fd := h1
  refine ⟨f, fd, h2, h1'.kp, FunD.bindsN h1' hbd, h1'.ok S (fun vs H Q E h => ?_) (fun cdv A outer s H vs Q E hr h => ⟨Tb, PSs.nox (hb f cdv A outer s H E hr), ?_⟩)⟩
  · obtain ⟨C, ds, Q', r, c, t, _⟩ := h
    rw [Paired.length r]
    exact hlen ds Q' t
  · obtain ⟨C, ds, Q', r, c, t, hk⟩ := h
    exact hT C vs ds H Q' Q r c t hk
end
end TW
namespace TW
open PySem PySem.Spec PyProof.Rows L2 FL
def BI_law_behind : DTI := dIterL (dCall T_law_pairs (dCons (dOp drIx (dVar 0) (dC (dI 0))) (dNil)))
def B1_law_behind : DTS := dAsg (dCall T_law_knows (dCons (dVar 0) (dCons (dVar 3) (dCons (dVar 4) (dNil))))) (.nm 5)
def B2_law_behind : DTS := dIfS (dAnd (dTst (dOp drEq (dOp drIx (dVar 1) (dC (dI 0))) (dC (dS "pairs")))) (dTst (dOp drNIn (dOp drIx (dVar 1) (dC (dI 1))) (dTup (dCons (dVar 3) (dCons (dVar 4) (dNil))))))) (dSeq (dAsg (dCount (dLc (dIterT (dTup (dCons (dVar 3) (dCons (dVar 4) (dNil))))) (.nm 8) (dYes) (dCall T_law_knows (dCons (dVar 0) (dCons (dOp drIx (dVar 1) (dC (dI 1))) (dCons (dVar 8) (dNil))))) [8]) (dC (dB true))) (.nm 6)) (dAsg (dOp drEq (dOp drIx (dOp drIx (dVar 1) (dC (dI 2))) (dOp drPlus (dIf (dTst (dVar 5)) (dC (dI 3)) (dC (dI 0))) (dVar 6))) (dC (dI 1))) (.nm 5))) (dIfS (dAnd (dTst (dOp drEq (dOp drIx (dVar 1) (dC (dI 0))) (dC (dS "takes")))) (dAnd (dTst (dOp drIn (dOp drIx (dVar 1) (dC (dI 1))) (dTup (dCons (dVar 3) (dCons (dVar 4) (dNil)))))) (dTst (dOp drNIn (dOp drIx (dVar 1) (dC (dI 2))) (dTup (dCons (dVar 3) (dCons (dVar 4) (dNil)))))))) (dSeq (dAsg (dIf (dTst (dOp drEq (dOp drIx (dVar 1) (dC (dI 1))) (dVar 3))) (dVar 4) (dVar 3)) (.nm 7)) (dAsg (dOp drEq (dOp drIx (dOp drIx (dVar 1) (dC (dI 3))) (dOp drPlus (dIf (dTst (dVar 5)) (dC (dI 2)) (dC (dI 0))) (dIf (dTst (dCall T_law_knows (dCons (dVar 0) (dCons (dOp drIx (dVar 1) (dC (dI 2))) (dCons (dVar 7) (dNil)))))) (dC (dI 1)) (dC (dI 0))))) (dC (dI 1))) (.nm 5))) (dIfS (dAnd (dTst (dOp drEq (dOp drIx (dVar 1) (dC (dI 0))) (dC (dS "tie")))) (dTst (dOp drEq (dCall T_law_two (dCons (dOp drIx (dVar 1) (dC (dI 1))) (dCons (dOp drIx (dVar 1) (dC (dI 2))) (dNil)))) (dTup (dCons (dVar 3) (dCons (dVar 4) (dNil))))))) (dAsg (dWord "know" "part" "turn" (dC (dB true)) (dC (dB false)) (dNotV (dVar 5)) (dOp drIx (dVar 1) (dC (dI 3)))) (.nm 5)) (dNext)))
def B3_law_behind : DTS := dRet (dTup (dCons (dOp drIx (dVar 0) (dC (dI 0))) (dCons (dCall drTuple (dCons (dVar 2) (dNil))) (dNil))))
def L_law_behind (P : Program) (w : World) (K : PySem.W.Frag) : TS := tSeq (L2.tAsg (tLst tNil) (gName 2)) (tSeq (tFor (liftI P w BI_law_behind) ((Tgt.two (.nm 3) (.nm 4)).g K) (tSeq (liftS P w B1_law_behind) (tSeq (liftS P w B2_law_behind) (tIfS (tB (tVar 5)) (tApp 2 3 4) tNext)))) (liftS P w B3_law_behind))
theorem S_law_behind : FnScope ["_law_company_here", "_law_deed_here", "_law_found", "_law_one", "_law_other", "_law_know", "_law_many", "_law_third", "_law_person"] ["_law_company_here", "_law_deed_here"] (defScope (top 52)) := ⟨rfl, rfl, rfl, by decide +kernel, rfl, by decide +kernel, by decide +kernel⟩
theorem D_law_behind {P : Program} {w : World} {K : PySem.W.Frag} {mg : Str → Option Value} {base : Heap} (F : Fc K mg) (o_law_pairs : Ok P w K mg base "_law_pairs" ["_law_people"] 1 T_law_pairs) (o_law_knows : Ok P w K mg base "_law_knows" ["_law_company_here", "_law_one", "_law_other"] 2 T_law_knows) (o_law_two : Ok P w K mg base "_law_two" ["_law_one", "_law_other"] 1 T_law_two) (hlen : ∀ ds Q, T_law_behind ds Q → ds.length = 2) (hT : ∀ C vs ds H R k, RepAll P w C H vs ds → CellsOk C H → T_law_behind ds R → (∀ v H' d, RepD P w C H' v d → CellsOk C H' → Keep C H H' → R d → k v H') → (L_law_behind P w K) { nx := fun _ H' => k .non H', rt := k } (L2.start ["_law_company_here", "_law_deed_here", "_law_found", "_law_one", "_law_other", "_law_know", "_law_many", "_law_third", "_law_person"] vs) H) : Ok P w K mg base "_law_behind" ["_law_company_here", "_law_deed_here"] (2 + 1) T_law_behind :=
  ok_hand F 33 (j := 52) rfl S_law_behind T_law_behind (L_law_behind P w K) hlen hT (fun _ _ _ _ _ _ us hl => match us, hl with | [_, _], _ => rfl) fun f cdv A outer s H E hr => pss_cons (ps_set (i := 2) S_law_behind.nd rfl (.inl rfl) (pe_lst pa_nil)) (pss_cons (ps_for PassesOwn.never rfl (di_list (ok_call o_law_pairs hr (by decide) rfl (da_cons (de_ix (xd_ix hr.units) (dv 0) (de_int) (fun _ _ => rfl)) (da_nil)))) (pg_two rfl (pg_nm (i := 3) S_law_behind.nd rfl (by first | exact .inl rfl | exact .inr rfl)) (pg_nm (i := 4) S_law_behind.nd rfl (by first | exact .inl rfl | exact .inr rfl))) (pss_cons (ds_set (i := 5) S_law_behind.nd rfl (by first | exact .inl rfl | exact .inr rfl) (ok_call o_law_knows hr (by decide) rfl (da_cons (dv 0) (da_cons (dv 3) (da_cons (dv 4) (da_nil)))))) (pss_cons (ds_if (dt_w (dw_and (dt_cmp (od_eq hr.units) (de_ix (xd_ix hr.units) (dv 1) (de_int) (fun _ _ => rfl)) (de_str) (nomark _)) (dw_and1 (dt_cmp (od_nin (r65 hr)) (de_ix (xd_ix hr.units) (dv 1) (de_int) (fun _ _ => rfl)) (de_tup (da_cons (dv 3) (da_cons (dv 4) (da_nil)))) (by with_unfolding_all rfl))))) (dss_cons (ds_set (i := 6) S_law_behind.nd rfl (by first | exact .inl rfl | exact .inr rfl) (de_count (r65 hr) (de_lc rfl S_law_behind.nd (di_tup (de_tup (da_cons (dv 3) (da_cons (dv 4) (da_nil))))) (own := [("_law_person", 8)]) (blkOk_by (by kernel_rfl)) (fun _ _ _ _ _ => pg_nm (i := 8) S_law_behind.nd rfl (by first | exact .inl rfl | exact .inr rfl)) (fun _ _ _ _ _ => dts_nil) (fun _ _ _ _ _ => ok_call o_law_knows hr (by decide) rfl (da_cons (dv 0) (da_cons (de_ix (xd_ix hr.units) (dv 1) (de_int) (fun _ _ => rfl)) (da_cons (dv 8) (da_nil)))))) (de_bl))) (dss_one (ds_set (i := 5) S_law_behind.nd rfl (by first | exact .inl rfl | exact .inr rfl) (de_cmp (od_eq hr.units) (de_ix (xd_ix hr.units) (de_ix (xd_ix hr.units) (dv 1) (de_int) (fun _ _ => rfl)) (de_bin od_plus (de_if (dt_val (dv 5)) (de_int) (de_int)) (dv 6)) (fun _ _ => rfl)) (de_int) (nomark _))))) (dss_one (ds_if (dt_w (dw_and (dt_cmp (od_eq hr.units) (de_ix (xd_ix hr.units) (dv 1) (de_int) (fun _ _ => rfl)) (de_str) (nomark _)) (dw_and (dt_cmp (od_in (r65 hr)) (de_ix (xd_ix hr.units) (dv 1) (de_int) (fun _ _ => rfl)) (de_tup (da_cons (dv 3) (da_cons (dv 4) (da_nil)))) (by with_unfolding_all rfl)) (dw_and1 (dt_cmp (od_nin (r65 hr)) (de_ix (xd_ix hr.units) (dv 1) (de_int) (fun _ _ => rfl)) (de_tup (da_cons (dv 3) (da_cons (dv 4) (da_nil)))) (by with_unfolding_all rfl)))))) (dss_cons (ds_set (i := 7) S_law_behind.nd rfl (by first | exact .inl rfl | exact .inr rfl) (de_if (dt_cmp (od_eq hr.units) (de_ix (xd_ix hr.units) (dv 1) (de_int) (fun _ _ => rfl)) (dv 3) (nomark _)) (dv 4) (dv 3))) (dss_one (ds_set (i := 5) S_law_behind.nd rfl (by first | exact .inl rfl | exact .inr rfl) (de_cmp (od_eq hr.units) (de_ix (xd_ix hr.units) (de_ix (xd_ix hr.units) (dv 1) (de_int) (fun _ _ => rfl)) (de_bin od_plus (de_if (dt_val (dv 5)) (de_int) (de_int)) (de_if (dt_val (ok_call o_law_knows hr (by decide) rfl (da_cons (dv 0) (da_cons (de_ix (xd_ix hr.units) (dv 1) (de_int) (fun _ _ => rfl)) (da_cons (dv 7) (da_nil)))))) (de_int) (de_int))) (fun _ _ => rfl)) (de_int) (nomark _))))) (dss_one (ds_if (dt_w (dw_and (dt_cmp (od_eq hr.units) (de_ix (xd_ix hr.units) (dv 1) (de_int) (fun _ _ => rfl)) (de_str) (nomark _)) (dw_and1 (dt_cmp (od_eq hr.units) (ok_call o_law_two hr (by decide) rfl (da_cons (de_ix (xd_ix hr.units) (dv 1) (de_int) (fun _ _ => rfl)) (da_cons (de_ix (xd_ix hr.units) (dv 1) (de_int) (fun _ _ => rfl)) (da_nil)))) (de_tup (da_cons (dv 3) (da_cons (dv 4) (da_nil)))) (nomark _))))) (dss_one (ds_set (i := 5) S_law_behind.nd rfl (by first | exact .inl rfl | exact .inr rfl) (de_word hr.units (de_bl) (de_bl) (de_not (dv 5)) (de_ix (xd_ix hr.units) (dv 1) (de_int) (fun _ _ => rfl)) (fun _ _ => rfl)))) (dss_nil)))))) (pss_one (ps_if (pt_val (pv 5)) (pss_one (ps_app (pv 2) (pv 3) (pv 4))) pss_nil))))) (pss_one (ds_ret (de_tup (da_cons (de_ix (xd_ix hr.units) (dv 0) (de_int) (fun _ _ => rfl)) (da_cons (de_callTy cd_tuple rfl F.free_tuple boot_tuple (da_cons (dv 2) (da_nil))) (da_nil)))))))
end TW
namespace TW
open PySem PySem.Spec PyProof.Rows L2 FL
theorem mm_lt {a b : Nat} (h : a < b) : mm a b = (a, b) := by
  unfold mm
  rw [if_pos (by omega)]
theorem kn_lt {ts : List Pr} {a b : Nat} (h : a < b) : kn ts a b = decide ((a, b) ∈ ts) := by
  unfold kn
  rw [mm_lt h]
theorem b2_law {n a b : Nat} {ts : List Pr} {d : Deed} {p : Addr} {x6 x7 x8 : Option FL.D} (hp : (a, b) ∈ prs n) (hd : DeedOk n d) (N : DEnv → Prop)
    (hN : ∀ x6 x7, N [some (.d (eCo (n, ts))), some (.d (eDeed d)), some (.adr p), some (.d (eN a)), some (.d (eN b)), some (dB (ans ts d (a, b))), x6, x7, x8]) :
    B2_law_behind { nx := N, rt := fun _ => False } [some (.d (eCo (n, ts))), some (.d (eDeed d)), some (.adr p), some (.d (eN a)), some (.d (eN b)), some (dB (decide ((a, b) ∈ ts))), x6, x7, x8] := by
  have hm := mem_prs.mp hp
  have hab : a < b := hm.1
  have hbn : b < n := hm.2
  cases d with
  | pairs d l =>
    have hdn : d < n := hd.1
    have hl : l.length = 6 := hd.2
    simp [B2_law_behind, eDeed, eN, dstart, dSeq, dRet, dAsg, dPar, dIfS, dDrop, dNext, dVar, dC, dOp, dTst, dAnd, dOr, dNot, dIf, dAndV, dOrV, dNotV, dChain, dNil, dCons, dTup, dLst, dCall, plains, dIsi, isaP, drI, drI0, drPlus, drIx, drEq, drNe, drIn, drNIn, drIsN, drNotN, drLen, drAll, drSum, drMin, drMax, drTuple, drList, drDict, drInt, drAbs, dIterL, dIterT, dRng1, dRng2, dEnum, Tgt.put, dLc, dLc2, dYes, dInW, dTail, dHead, dRev, dMerge, dNew, dCount, dFor, List.getElem?_cons_zero, List.getElem?_cons_succ, List.map, List.length, List.replicate, List.append, List.cons_append, List.nil_append, List.append_nil, List.set, Option.map, Nat.sub_self, ne_pt, ne_pi, ne_pa, ne_tp, ne_ti, ne_ta, ne_ip, ne_it, ne_ia, ne_ap, ne_at, ne_ai, ne_kt, ne_kp, ne_pk, ne_pu, ne_uk, ne_up, okd_int, okd_bl, okd_pairs, okd_takes, okd_tie, okd_ask, okd_know, okd_part, okd_turn, tkey_ii, eqv_int, eqv_str, atI_0, atI_1, atI_2, atI_3, atI_4, ci, eqv_bl, lay_ii, atI_5]
    simp only [eDeed, eN] at hN
    by_cases e : ¬ a = d ∧ ¬ b = d
    · rw [if_pos e]
      have e' : ¬ (d = a ∨ d = b) := by omega
      refine dGo_map (fun x : Nat => .d (eN x)) (fun x => .bool (kn ts d x)) [a, b] [] _ (Nat.le_trans (by simp) big_line) (fun x hx acc R ha hR => ?_) ?_
      · simp [dStep, dwipe, eN, dstart, dSeq, dRet, dAsg, dPar, dIfS, dDrop, dNext, dVar, dC, dOp, dTst, dAnd, dOr, dNot, dIf, dAndV, dOrV, dNotV, dChain, dNil, dCons, dTup, dLst, dCall, plains, dIsi, isaP, drI, drI0, drPlus, drIx, drEq, drNe, drIn, drNIn, drIsN, drNotN, drLen, drAll, drSum, drMin, drMax, drTuple, drList, drDict, drInt, drAbs, dIterL, dIterT, dRng1, dRng2, dEnum, Tgt.put, dLc, dLc2, dYes, dInW, dTail, dHead, dRev, dMerge, dNew, dCount, dFor, List.getElem?_cons_zero, List.getElem?_cons_succ, List.map, List.length, List.replicate, List.append, List.cons_append, List.nil_append, List.append_nil, List.set, Option.map, Nat.sub_self, ne_pt, ne_pi, ne_pa, ne_tp, ne_ti, ne_ta, ne_ip, ne_it, ne_ia, ne_ap, ne_at, ne_ai, ne_kt, ne_kp, ne_pk, ne_pu, ne_uk, ne_up, okd_int, okd_bl, okd_pairs, okd_takes, okd_tie, okd_ask, okd_know, okd_part, okd_turn, tkey_ii, eqv_int, eqv_str, atI_0, atI_1, atI_2, atI_3, atI_4, ci, eqv_bl, lay_ii, atI_5]
        exact ⟨(n, ts), d, x, rfl, ha, hR⟩
      · match l, hl with
        | [x0, x1, x2, x3, x4, x5], _ =>
          simp [ans, e'] at hN
          have lay2 : ∀ u v : Bool, PyData.canLayAll0 [.bool u, .bool v] = true := fun _ _ => rfl
          by_cases z : (a, b) ∈ ts <;> cases z1 : kn ts d a <;> cases z2 : kn ts d b <;> simp [z, z1, z2] at hN <;>
            simp [z, z1, z2, lay2, List.countP_cons, eBits, atI_0, atI_1, atI_2, atI_3, atI_4, atI_5, eqv_bit, eqv_bl, okd_bit] <;> exact hN _ _
    · rw [if_neg e]
      have e' : (d = a ∨ d = b) := by omega
      simp [ans, e'] at hN
      exact hN _ _
  | takes d o l =>
    have hl : l.length = 4 := hd.2.2.2
    simp [B2_law_behind, eDeed, eN, dstart, dSeq, dRet, dAsg, dPar, dIfS, dDrop, dNext, dVar, dC, dOp, dTst, dAnd, dOr, dNot, dIf, dAndV, dOrV, dNotV, dChain, dNil, dCons, dTup, dLst, dCall, plains, dIsi, isaP, drI, drI0, drPlus, drIx, drEq, drNe, drIn, drNIn, drIsN, drNotN, drLen, drAll, drSum, drMin, drMax, drTuple, drList, drDict, drInt, drAbs, dIterL, dIterT, dRng1, dRng2, dEnum, Tgt.put, dLc, dLc2, dYes, dInW, dTail, dHead, dRev, dMerge, dNew, dCount, dFor, List.getElem?_cons_zero, List.getElem?_cons_succ, List.map, List.length, List.replicate, List.append, List.cons_append, List.nil_append, List.append_nil, List.set, Option.map, Nat.sub_self, ne_pt, ne_pi, ne_pa, ne_tp, ne_ti, ne_ta, ne_ip, ne_it, ne_ia, ne_ap, ne_at, ne_ai, ne_kt, ne_kp, ne_pk, ne_pu, ne_uk, ne_up, okd_int, okd_bl, okd_pairs, okd_takes, okd_tie, okd_ask, okd_know, okd_part, okd_turn, tkey_ii, eqv_int, eqv_str, atI_0, atI_1, atI_2, atI_3, atI_4, ci, eqv_bl, lay_ii, atI_5]
    simp only [eDeed, eN] at hN
    by_cases e1 : a = d ∨ b = d
    · rw [if_pos e1]
      by_cases e2 : ¬ a = o ∧ ¬ b = o
      · rw [if_pos e2]
        have e4 : (d = a ∨ d = b) ∧ ¬ (o = a ∨ o = b) := by omega
        by_cases e3 : d = a
        · rw [if_pos e3]
          have e5 : a + b - d = b := by omega
          simp only [ans, if_pos e4, e5] at hN
          match l, hl with
          | [x0, x1, x2, x3], _ =>
            by_cases z : (a, b) ∈ ts
            · rw [if_pos z]
              refine ⟨(n, ts), o, b, rfl, ?_⟩
              cases z1 : kn ts o b <;> simp [z, z1] at hN <;> simp [z1, eBits, atI_2, atI_3, eqv_bit, okd_bit] <;> exact hN _ _
            · rw [if_neg z]
              refine ⟨(n, ts), o, b, rfl, ?_⟩
              cases z1 : kn ts o b <;> simp [z, z1] at hN <;> simp [z1, eBits, atI_0, atI_1, eqv_bit, okd_bit] <;> exact hN _ _
        · rw [if_neg e3]
          have e5 : a + b - d = a := by omega
          simp only [ans, if_pos e4, e5] at hN
          match l, hl with
          | [x0, x1, x2, x3], _ =>
            by_cases z : (a, b) ∈ ts
            · rw [if_pos z]
              refine ⟨(n, ts), o, a, rfl, ?_⟩
              cases z1 : kn ts o a <;> simp [z, z1] at hN <;> simp [z1, eBits, atI_2, atI_3, eqv_bit, okd_bit] <;> exact hN _ _
            · rw [if_neg z]
              refine ⟨(n, ts), o, a, rfl, ?_⟩
              cases z1 : kn ts o a <;> simp [z, z1] at hN <;> simp [z1, eBits, atI_0, atI_1, eqv_bit, okd_bit] <;> exact hN _ _
      · rw [if_neg e2]
        have e4 : ¬ ((d = a ∨ d = b) ∧ ¬ (o = a ∨ o = b)) := by omega
        simp only [ans, if_neg e4] at hN
        exact hN _ _
    · rw [if_neg e1]
      have e4 : ¬ ((d = a ∨ d = b) ∧ ¬ (o = a ∨ o = b)) := by omega
      simp only [ans, if_neg e4] at hN
      exact hN _ _
  | tie d o w =>
    simp [B2_law_behind, eDeed, eN, dstart, dSeq, dRet, dAsg, dPar, dIfS, dDrop, dNext, dVar, dC, dOp, dTst, dAnd, dOr, dNot, dIf, dAndV, dOrV, dNotV, dChain, dNil, dCons, dTup, dLst, dCall, plains, dIsi, isaP, drI, drI0, drPlus, drIx, drEq, drNe, drIn, drNIn, drIsN, drNotN, drLen, drAll, drSum, drMin, drMax, drTuple, drList, drDict, drInt, drAbs, dIterL, dIterT, dRng1, dRng2, dEnum, Tgt.put, dLc, dLc2, dYes, dInW, dTail, dHead, dRev, dMerge, dNew, dCount, dFor, List.getElem?_cons_zero, List.getElem?_cons_succ, List.map, List.length, List.replicate, List.append, List.cons_append, List.nil_append, List.append_nil, List.set, Option.map, Nat.sub_self, ne_pt, ne_pi, ne_pa, ne_tp, ne_ti, ne_ta, ne_ip, ne_it, ne_ia, ne_ap, ne_at, ne_ai, ne_kt, ne_kp, ne_pk, ne_pu, ne_uk, ne_up, okd_int, okd_bl, okd_pairs, okd_takes, okd_tie, okd_ask, okd_know, okd_part, okd_turn, tkey_ii, eqv_int, eqv_str, atI_0, atI_1, atI_2, atI_3, atI_4, ci, eqv_bl, lay_ii, atI_5]
    simp only [eDeed, eN] at hN
    refine ⟨d, o, rfl, ?_⟩
    have ok2 : okd (PyData.tuple [PyData.int a, PyData.int b]) := (sh_pr (a, b)).okd
    have q : PyData.eqv (ePr (mm d o)) (PyData.tuple [PyData.int a, PyData.int b]) = decide (mm d o = (a, b)) := eqv_pr _ (a, b)
    simp [q, ok2, (sh_pr (mm d o)).okd]
    by_cases e : mm d o = (a, b)
    · rw [if_pos e]
      simp [ans, e] at hN
      cases w <;> simp [dWord, Wd.nm, dstart, dSeq, dRet, dAsg, dPar, dIfS, dDrop, dNext, dVar, dC, dOp, dTst, dAnd, dOr, dNot, dIf, dAndV, dOrV, dNotV, dChain, dNil, dCons, dTup, dLst, dCall, plains, dIsi, isaP, drI, drI0, drPlus, drIx, drEq, drNe, drIn, drNIn, drIsN, drNotN, drLen, drAll, drSum, drMin, drMax, drTuple, drList, drDict, drInt, drAbs, dIterL, dIterT, dRng1, dRng2, dEnum, Tgt.put, dLc, dLc2, dYes, dInW, dTail, dHead, dRev, dMerge, dNew, dCount, dFor, List.getElem?_cons_zero, List.getElem?_cons_succ, List.map, List.length, List.replicate, List.append, List.cons_append, List.nil_append, List.append_nil, List.set, Option.map, Nat.sub_self, ne_pt, ne_pi, ne_pa, ne_tp, ne_ti, ne_ta, ne_ip, ne_it, ne_ia, ne_ap, ne_at, ne_ai, ne_kt, ne_kp, ne_pk, ne_pu, ne_uk, ne_up, okd_int, okd_bl, okd_pairs, okd_takes, okd_tie, okd_ask, okd_know, okd_part, okd_turn, tkey_ii, eqv_int, eqv_str, atI_0, atI_1, atI_2, atI_3, atI_4, ci, eqv_bl, lay_ii, atI_5] at hN ⊢ <;> exact hN _ _
    · rw [if_neg e]
      simp [ans, e] at hN
      exact hN _ _
end TW
namespace TW
open PySem PySem.Spec PyProof.Rows L2 FL
def Ibeh (C0 : Cells) (p : Addr) (c : Co) (d : Deed) (i : Nat) (δ : DEnv) (o : HO) (H : Hp) : Prop := ∃ (av : List V) (x3 x4 x5 x6 x7 x8 : Option FL.D), o = .lst av ∧ δ = [some (.d (eCo c)), some (.d (eDeed d)), some (.adr p), x3, x4, x5, x6, x7, x8] ∧
  RpAll (withC C0 p o) H av ((((prs c.1).take i).filter (ans c.2 d)).map ePr)
theorem take_filter {α : Type} (g : α → Bool) {l : List α} {i : Nat} {x : α} (h : l[i]? = some x) : (l.take (i + 1)).filter g = (l.take i).filter g ++ (if g x = true then [x] else []) := by
  rw [List.take_succ, h, List.filter_append]
  by_cases e : g x = true <;> simp [e]
section
variable {P : Program} {w : World} {K : PySem.W.Frag} {mg : Str → Option Value} {base : Heap} (F : Fc K mg)
theorem pure_behind (P : Program) (w : World) (K : PySem.W.Frag) (C : Cells) (vs : List V) (ds : List FL.D) (H : Hp) (R : FL.D → Prop) (k : VK) (r : RepAll P w C H vs ds) (c : CellsOk C H) (t : T_law_behind ds R) (hk : ∀ v H' d, RepD P w C H' v d → CellsOk C H' → Keep C H H' → R d → k v H') :
    (L_law_behind P w K) { nx := fun _ H' => k .non H', rt := k } (L2.start ["_law_company_here", "_law_deed_here", "_law_found", "_law_one", "_law_other", "_law_know", "_law_many", "_law_third", "_law_person"] vs) H := by
  obtain ⟨⟨n, ts⟩, d, rfl, hn, hd, hR⟩ := t
  have hn' : n ≤ 100 := hn
  have hbig := big_line
  have hpl := prs_small hn'
  have h0 := start_here (N := ["_law_company_here", "_law_deed_here", "_law_found", "_law_one", "_law_other", "_law_know", "_law_many", "_law_third", "_law_person"]) r c
  -- found = []
  refine ⟨Nat.zero_le _, fun p hp => ?_⟩
  have nC := c.free hp
  have x1 : Ext C H (withC C p (.lst [])) (upd H p (.lst [])) := Ext.made c hp
  have h1 := (h0.ext (c.made (o := .lst []) hp) x1).set (i := 2) (v := .ref p) (d := .adr p) rfl
  refine tFor_cell (C0 := C) (p := p) (o0 := .lst []) (xs := prs n) (enc := fun q : Pr => .d (ePr q)) (Ibeh C p (n, ts) d) ?st h1 ?hI ⟨[], none, none, none, none, none, none, rfl, rfl, .nil⟩ ?hb ?he
  case st =>
    rintro i δ o H H' ⟨av, x3, x4, x5, x6, x7, x8, rfl, rfl, ra⟩ kp
    exact ⟨av, x3, x4, x5, x6, x7, x8, rfl, rfl, ra.keep kp⟩
  case hI =>
    simp [BI_law_behind, eCo, dstart, dSeq, dRet, dAsg, dPar, dIfS, dDrop, dNext, dVar, dC, dOp, dTst, dAnd, dOr, dNot, dIf, dAndV, dOrV, dNotV, dChain, dNil, dCons, dTup, dLst, dCall, plains, dIsi, isaP, drI, drI0, drPlus, drIx, drEq, drNe, drIn, drNIn, drIsN, drNotN, drLen, drAll, drSum, drMin, drMax, drTuple, drList, drDict, drInt, drAbs, dIterL, dIterT, dRng1, dRng2, dEnum, Tgt.put, dLc, dLc2, dYes, dInW, dTail, dHead, dRev, dMerge, dNew, dCount, dFor, List.getElem?_cons_zero, List.getElem?_cons_succ, List.map, List.length, List.replicate, List.append, List.cons_append, List.nil_append, List.append_nil, List.set, Option.map, Nat.sub_self, ne_pt, ne_pi, ne_pa, ne_tp, ne_ti, ne_ta, ne_ip, ne_it, ne_ia, ne_ap, ne_at, ne_ai, ne_kt, ne_kp, ne_pk, ne_pu, ne_uk, ne_up, okd_int, okd_bl, okd_pairs, okd_takes, okd_tie, okd_ask, okd_know, okd_part, okd_turn, tkey_ii, eqv_int, eqv_str, atI_0, atI_1, atI_2, atI_3, atI_4, ci, eqv_bl, lay_ii, atI_5]
    exact ⟨n, rfl, hn', by simp [Function.comp_def]⟩
  case hb =>
    rintro i ⟨a, b⟩ o σ H1 δ hx hh ex ⟨av, x3, x4, x5, x6, x7, x8, rfl, rfl, ra⟩ N hN v rv
    have hp2 : (a, b) ∈ prs n := List.mem_of_getElem? hx
    have hab := (mem_prs.mp hp2).1
    refine Tgt.go (t := .two (.nm 3) (.nm 4)) (d := .d (ePr (a, b))) (Q := fun δ' => δ' = [some (.d (eCo (n, ts))), some (.d (eDeed d)), some (.adr p), some (.d (eN a)), some (.d (eN b)), x5, x6, x7, x8]) hh rv rfl fun σ2 δ2 h2 _ e2 => ?_
    subst e2
    refine liftS_then (fun δ' => δ' = [some (.d (eCo (n, ts))), some (.d (eDeed d)), some (.adr p), some (.d (eN a)), some (.d (eN b)), some (dB (decide ((a, b) ∈ ts))), x6, x7, x8]) h2 ?_ fun σ3 H3 δ3 h3 k3 e3 => ?_
    · simp [B1_law_behind, dstart, dSeq, dRet, dAsg, dPar, dIfS, dDrop, dNext, dVar, dC, dOp, dTst, dAnd, dOr, dNot, dIf, dAndV, dOrV, dNotV, dChain, dNil, dCons, dTup, dLst, dCall, plains, dIsi, isaP, drI, drI0, drPlus, drIx, drEq, drNe, drIn, drNIn, drIsN, drNotN, drLen, drAll, drSum, drMin, drMax, drTuple, drList, drDict, drInt, drAbs, dIterL, dIterT, dRng1, dRng2, dEnum, Tgt.put, dLc, dLc2, dYes, dInW, dTail, dHead, dRev, dMerge, dNew, dCount, dFor, List.getElem?_cons_zero, List.getElem?_cons_succ, List.map, List.length, List.replicate, List.append, List.cons_append, List.nil_append, List.append_nil, List.set, Option.map, Nat.sub_self, ne_pt, ne_pi, ne_pa, ne_tp, ne_ti, ne_ta, ne_ip, ne_it, ne_ia, ne_ap, ne_at, ne_ai, ne_kt, ne_kp, ne_pk, ne_pu, ne_uk, ne_up, okd_int, okd_bl, okd_pairs, okd_takes, okd_tie, okd_ask, okd_know, okd_part, okd_turn, tkey_ii, eqv_int, eqv_str, atI_0, atI_1, atI_2, atI_3, atI_4, ci, eqv_bl, lay_ii, atI_5]
      exact ⟨(n, ts), a, b, rfl, by rw [kn_lt hab]⟩
    subst e3
    refine liftS_then (fun δ' => ∃ x6 x7, δ' = [some (.d (eCo (n, ts))), some (.d (eDeed d)), some (.adr p), some (.d (eN a)), some (.d (eN b)), some (dB (ans ts d (a, b))), x6, x7, x8]) h3 (b2_law hp2 hd _ fun x6 x7 => ⟨x6, x7, rfl⟩) fun σ4 H4 δ4 h4 k4 ⟨y6, y7, e4⟩ => ?_
    subst e4
    obtain ⟨v5, s5, r5⟩ := h4.rep 5 _ rfl
    obtain rfl := Rp.bl_inv r5
    refine ⟨_, s5, _, rfl, ?_⟩
    have ra4 := ra.keep (k3.trans k4)
    have etf := take_filter (ans ts d) hx
    cases hg : ans ts d (a, b) with
    | false =>
      show N σ4 H4
      refine hN (.lst av) σ4 H4 _ h4 (Ext.of (k3.trans k4)) ⟨av, _, _, _, _, _, _, rfl, rfl, ?_⟩
      rw [etf]
      simp [hg]
      exact ra4
    | true =>
      show tApp 2 3 4 _ σ4 H4
      obtain ⟨v2, s2, r2⟩ := h4.rep 2 _ rfl
      obtain rfl : v2 = .ref p := r2
      obtain ⟨va, sa, rva⟩ := h4.rep 3 _ rfl
      obtain ⟨vb, sb, rvb⟩ := h4.rep 4 _ rfl
      have hal : av.length < sizeLine := by
        have e1 := ra.length
        rw [List.length_map] at e1
        have e2 := List.length_filter_le (ans ts d) ((prs n).take i)
        have e3 : (List.take i (prs n)).length ≤ (prs n).length := by rw [List.length_take]; omega
        have e4 : (List.filter (ans (n, ts).2 d) (List.take i (prs (n, ts).1))).length = (List.filter (ans ts d) (List.take i (prs n))).length := rfl
        omega
      refine ⟨va, vb, p, av, s2, sa, sb, h4.cells.at_, hal, fun q hq => ?_⟩
      have kq : Keep (withC C p (.lst av)) H4 (upd H4 q (.tup [va, vb])) := Keep.new hq
      have cq := h4.cells.new (o := .tup [va, vb]) hq
      have rq : Rp (withC C p (.lst av)) (upd H4 q (.tup [va, vb])) (.ref q) (ePr (a, b)) := rp_new_tup h4.cells hq (.cons rva (.cons rvb .nil))
      have tn : Ext (withC C p (.lst av)) (upd H4 q (.tup [va, vb])) (withC C p (.lst (av ++ [.ref q]))) (upd (upd H4 q (.tup [va, vb])) p (.lst (av ++ [.ref q]))) := Ext.turn
      refine hN (.lst (av ++ [.ref q])) σ4 _ _ ((h4.go cq kq).ext cq.turn tn) ((Ext.of (k3.trans (k4.trans kq))).trans tn) ⟨av ++ [.ref q], _, _, _, _, _, _, rfl, rfl, ?_⟩
      rw [etf]
      simp only [hg, if_true, List.map_append]
      exact ((ra4.keep kq).append (.cons rq .nil)).ext tn
  case he =>
    rintro o σ H1 δ hh ex ⟨av, x3, x4, x5, x6, x7, x8, rfl, rfl, ra⟩
    rw [List.take_length] at ra
    have xd : Ext (withC C p (.lst av)) H1 C H1 := Ext.done nC
    have cd := hh.cells.done nC
    have hh2 := hh.ext cd xd
    obtain ⟨v2, s2, r2⟩ := hh2.rep 2 _ rfl
    obtain rfl : v2 = .ref p := r2
    have rl : Rp C H1 (.ref p) (.list (((prs n).filter (ans ts d)).map ePr)) := .lst nC hh.cells.at_ (ra.ext xd)
    have hh3 : Here P w C H1 σ [some (.d (eCo (n, ts))), some (.d (eDeed d)), some (.d (.list (((prs n).filter (ans ts d)).map ePr))), x3, x4, x5, x6, x7, x8] := by
      refine ⟨fun j dj hj => ?_, cd, hh2.len⟩
      match j, hj with
      | 2, hj =>
        cases hj
        exact ⟨_, s2, rl⟩
      | 0, hj => exact hh2.rep 0 dj hj
      | 1, hj => exact hh2.rep 1 dj hj
      | j + 3, hj => exact hh2.rep (j + 3) dj hj
    refine liftS_ret R hh3 ?_ fun v H' dd rd cc kk q => hk v H' dd rd cc (((x1.trans ex).trans xd).keep.trans kk) q
    simp [B3_law_behind, eCo, dstart, dSeq, dRet, dAsg, dPar, dIfS, dDrop, dNext, dVar, dC, dOp, dTst, dAnd, dOr, dNot, dIf, dAndV, dOrV, dNotV, dChain, dNil, dCons, dTup, dLst, dCall, plains, dIsi, isaP, drI, drI0, drPlus, drIx, drEq, drNe, drIn, drNIn, drIsN, drNotN, drLen, drAll, drSum, drMin, drMax, drTuple, drList, drDict, drInt, drAbs, dIterL, dIterT, dRng1, dRng2, dEnum, Tgt.put, dLc, dLc2, dYes, dInW, dTail, dHead, dRev, dMerge, dNew, dCount, dFor, List.getElem?_cons_zero, List.getElem?_cons_succ, List.map, List.length, List.replicate, List.append, List.cons_append, List.nil_append, List.append_nil, List.set, Option.map, Nat.sub_self, ne_pt, ne_pi, ne_pa, ne_tp, ne_ti, ne_ta, ne_ip, ne_it, ne_ia, ne_ap, ne_at, ne_ai, ne_kt, ne_kp, ne_pk, ne_pu, ne_uk, ne_up, okd_int, okd_bl, okd_pairs, okd_takes, okd_tie, okd_ask, okd_know, okd_part, okd_turn, tkey_ii, eqv_int, eqv_str, atI_0, atI_1, atI_2, atI_3, atI_4, ci, eqv_bl, lay_ii, atI_5]
    exact hR
include F
theorem ok_law_behind : Ok P w K mg base "_law_behind" ["_law_company_here", "_law_deed_here"] 3 T_law_behind := by
  refine D_law_behind F (ok_law_pairs F) (ok_law_knows F) (ok_law_two F) (fun ds Q h => ?_) (fun C vs ds H R k r c t hk => pure_behind P w K C vs ds H R k r c t hk)
  obtain ⟨c, d, rfl, _⟩ := h
  rfl
end
end TW
namespace TW
open PySem PySem.Spec PyProof.Rows L2 FL
def T_law_done0 : DRs := fun ds Q => ∃ (c : Co) (s : List Deed), ds = [.d (eCo c), .d (eDs s)] ∧ c.1 ≤ 100 ∧ (∀ i ∈ s, DeedOk c.1 i) ∧ Q (.d (eCo (s.foldl beh c)))
def T_law_done : DRs := fun ds Q => ∃ (c : Co) (s : List It1), ds = [.d (eCo c), .d (eScr s)] ∧ c.1 ≤ 100 ∧ (∀ i ∈ s, ItOk c.1 i) ∧ Q (.d (eCo (run1 c s)))
def T_law_table : DRs := Ttable_by
def B_law_done (R : DRs) : DTS := dSeq (dFor (dIterT (dVar 1)) (.nm 2) (dIfS (dTst (dOp drEq (dOp drIx (dVar 2) (dC (dI 0))) (dC (dS "ask")))) (dAsg (dCall R (dCons (dVar 0) (dCons (dIf (dTst (dCall T_law_knows (dCons (dVar 0) (dCons (dOp drIx (dVar 2) (dC (dI 1))) (dCons (dOp drIx (dVar 2) (dC (dI 2))) (dNil)))))) (dOp drIx (dVar 2) (dC (dI 3))) (dOp drIx (dVar 2) (dC (dI 4)))) (dNil)))) (.nm 0)) (dAsg (dCall T_law_behind (dCons (dVar 0) (dCons (dVar 2) (dNil)))) (.nm 0)))) (dRet (dVar 0))
theorem S_law_done : FnScope ["_law_company_here", "_law_script_here", "_law_item"] ["_law_company_here", "_law_script_here"] (defScope (top 53)) := ⟨rfl, rfl, rfl, by decide +kernel, rfl, by decide +kernel, by decide +kernel⟩
theorem D_law_done {P : Program} {w : World} {K : PySem.W.Frag} {mg : Str → Option Value} {base : Heap} (F : Fc K mg) {R : DRs} (o_law_knows : Ok P w K mg base "_law_knows" ["_law_company_here", "_law_one", "_law_other"] 2 T_law_knows) (o_law_behind : Ok P w K mg base "_law_behind" ["_law_company_here", "_law_deed_here"] 3 T_law_behind) {k0 : Nat} (o_law_done : Ok P w K mg base "_law_done" ["_law_company_here", "_law_script_here"] k0 R) (hk : ∀ j, j = 0 ∨ j = 2 ∨ j = 3 → j ≤ k0) {T : DRs} (hlen : ∀ ds Q, T ds Q → ds.length = 2) (hT : ∀ ds Q, T ds Q → B_law_done R { nx := fun _ => Q dN, rt := Q } (dstart ["_law_company_here", "_law_script_here", "_law_item"] ds)) : Ok P w K mg base "_law_done" ["_law_company_here", "_law_script_here"] (k0 + 1) T :=
  ok_fn F 34 (j := 53) rfl S_law_done T (B_law_done R) hlen hT (fun _ _ _ _ _ _ us hl => match us, hl with | [_, _], _ => rfl) fun f cdv A outer s H E hr => dss_cons (ds_for PassesOwn.never rfl (di_tup (dv 1)) (pg_nm (i := 2) S_law_done.nd rfl (by first | exact .inl rfl | exact .inr rfl)) (dss_one (ds_if (dt_cmp (od_eq hr.units) (de_ix (xd_ix hr.units) (dv 2) (de_int) (fun _ _ => rfl)) (de_str) (nomark _)) (dss_one (ds_set (i := 0) S_law_done.nd rfl (by first | exact .inl rfl | exact .inr rfl) (ok_call o_law_done hr (Nat.le_refl _) rfl (da_cons (dv 0) (da_cons (de_if (dt_val (ok_call o_law_knows hr (hk _ (by decide)) rfl (da_cons (dv 0) (da_cons (de_ix (xd_ix hr.units) (dv 2) (de_int) (fun _ _ => rfl)) (da_cons (de_ix (xd_ix hr.units) (dv 2) (de_int) (fun _ _ => rfl)) (da_nil)))))) (de_ix (xd_ix hr.units) (dv 2) (de_int) (fun _ _ => rfl)) (de_ix (xd_ix hr.units) (dv 2) (de_int) (fun _ _ => rfl))) (da_nil)))))) (dss_one (ds_set (i := 0) S_law_done.nd rfl (by first | exact .inl rfl | exact .inr rfl) (ok_call o_law_behind hr (hk _ (by decide)) rfl (da_cons (dv 0) (da_cons (dv 2) (da_nil))))))))) (dss_one (ds_ret (dv 0)))
def B_law_table : DTS := dSeq (dAsg (dCall T_law_views (dCons (dVar 0) (dNil))) (.nm 2)) (dSeq (dAsg (dCall drDict (dCons (dLc (dEnum (dVar 2)) (.two (.nm 4) (.nm 5)) (dYes) (dTup (dCons (dVar 5) (dCons (dVar 4) (dNil)))) [4, 5]) (dNil))) (.nm 3)) (dRet (dCall drTuple (dCons (dLc (dIterL (dVar 2)) (.nm 5) (dYes) (dOp drIx (dVar 3) (dCall T_law_done (dCons (dVar 5) (dCons (dVar 1) (dNil))))) [5]) (dNil)))))
theorem S_law_table : FnScope ["_law_named", "_law_script_here", "_law_views_here", "_law_numbers", "_law_at", "_law_view"] ["_law_named", "_law_script_here"] (defScope (top 61)) := ⟨rfl, rfl, rfl, by decide +kernel, rfl, by decide +kernel, by decide +kernel⟩
theorem D_law_table {P : Program} {w : World} {K : PySem.W.Frag} {mg : Str → Option Value} {base : Heap} (F : Fc K mg) (o_law_views : Ok P w K mg base "_law_views" ["_law_named"] 2 T_law_views) (o_law_done : Ok P w K mg base "_law_done" ["_law_company_here", "_law_script_here"] 5 T_law_done) {T : DRs} (hlen : ∀ ds Q, T ds Q → ds.length = 2) (hT : ∀ ds Q, T ds Q → B_law_table { nx := fun _ => Q dN, rt := Q } (dstart ["_law_named", "_law_script_here", "_law_views_here", "_law_numbers", "_law_at", "_law_view"] ds)) : Ok P w K mg base "_law_table" ["_law_named", "_law_script_here"] (5 + 1) T :=
  ok_fn F 41 (j := 61) rfl S_law_table T (B_law_table) hlen hT (fun _ _ _ _ _ _ us hl => match us, hl with | [_, _], _ => rfl) fun f cdv A outer s H E hr => dss_cons (ds_set (i := 2) S_law_table.nd rfl (by first | exact .inl rfl | exact .inr rfl) (ok_call o_law_views hr (by decide) rfl (da_cons (dv 0) (da_nil)))) (dss_cons (ds_set (i := 3) S_law_table.nd rfl (by first | exact .inl rfl | exact .inr rfl) (de_callTy (cd_dict rfl hr.units) rfl F.free_dict boot_dict (da_cons (de_lc rfl S_law_table.nd (di_enum rfl F.free_enumerate (dv 2)) (own := [("_law_at", 4), ("_law_view", 5)]) (blkOk_by (by kernel_rfl)) (fun _ _ _ _ _ => pg_two rfl (pg_nm (i := 4) S_law_table.nd rfl (by first | exact .inl rfl | exact .inr rfl)) (pg_nm (i := 5) S_law_table.nd rfl (by first | exact .inl rfl | exact .inr rfl))) (fun _ _ _ _ _ => dts_nil) (fun _ _ _ _ _ => de_tup (da_cons (dv 5) (da_cons (dv 4) (da_nil))))) (da_nil)))) (dss_one (ds_ret (de_callTy cd_tuple rfl F.free_tuple boot_tuple (da_cons (de_lc rfl S_law_table.nd (di_list (dv 2)) (own := [("_law_view", 5)]) (blkOk_by (by kernel_rfl)) (fun _ _ _ _ _ => pg_nm (i := 5) S_law_table.nd rfl (by first | exact .inl rfl | exact .inr rfl)) (fun _ _ _ _ _ => dts_nil) (fun _ _ _ _ _ => de_ix (xd_ix hr.units) (dv 3) (ok_call o_law_done hr (by decide) rfl (da_cons (dv 5) (da_cons (dv 1) (da_nil)))) (fun _ _ => rfl))) (da_nil))))))
theorem beh_fst (c : Co) (d : Deed) : (beh c d).1 = c.1 := rfl
theorem fold_fst : ∀ (ds : List Deed) (c : Co), (ds.foldl beh c).1 = c.1
  | [], _ => rfl
  | d :: ds, c => (fold_fst ds (beh c d)).trans (beh_fst c d)
def Idn0 (n : Nat) (s : List Deed) (z : Co) (r : List Deed) (δ : DEnv) : Prop := ∃ (c : Co) (x : Option FL.D), δ = [some (.d (eCo c)), some (.d (eDs s)), x] ∧ c.1 = n ∧ r.foldl beh c = z
def Idn1 (n : Nat) (s : List It1) (z : Co) (r : List It1) (δ : DEnv) : Prop := ∃ (c : Co) (x : Option FL.D), δ = [some (.d (eCo c)), some (.d (eScr s)), x] ∧ c.1 = n ∧ run1 c r = z
section
variable {P : Program} {w : World} {K : PySem.W.Frag} {mg : Str → Option Value} {base : Heap} (F : Fc K mg)
include F
theorem ok_law_done0 : Ok P w K mg base "_law_done" ["_law_company_here", "_law_script_here"] 4 T_law_done0 := by
  refine D_law_done F (k0 := 3) (ok_law_knows F) (ok_law_behind F) (R := fun _ _ => False) (ok_none F 34 (j := 53) rfl (fun _ _ _ _ _ _ us hl => match us, hl with | [_, _], _ => rfl)) (by omega) (fun ds Q h => ?_) (fun ds Q h => ?_)
  · obtain ⟨c, d, rfl, _⟩ := h
    rfl
  · obtain ⟨c, s, rfl, hc, hs, h⟩ := h
    simp [B_law_done, eDs, dstart, dSeq, dRet, dAsg, dPar, dIfS, dDrop, dNext, dVar, dC, dOp, dTst, dAnd, dOr, dNot, dIf, dAndV, dOrV, dNotV, dChain, dNil, dCons, dTup, dLst, dCall, plains, dIsi, isaP, drI, drI0, drPlus, drIx, drEq, drNe, drIn, drNIn, drIsN, drNotN, drLen, drAll, drSum, drMin, drMax, drTuple, drList, drDict, drInt, drAbs, dIterL, dIterT, dRng1, dRng2, dEnum, Tgt.put, dLc, dLc2, dYes, dInW, dTail, dHead, dRev, dMerge, dNew, dCount, dFor, List.getElem?_cons_zero, List.getElem?_cons_succ, List.map, List.length, List.replicate, List.append, List.cons_append, List.nil_append, List.append_nil, List.set, Option.map, Nat.sub_self, ne_pt, ne_pi, ne_pa, ne_tp, ne_ti, ne_ta, ne_ip, ne_it, ne_ia, ne_ap, ne_at, ne_ai, ne_kt, ne_kp, ne_pk, ne_pu, ne_uk, ne_up, okd_int, okd_bl, okd_pairs, okd_takes, okd_tie, okd_ask, okd_know, okd_part, okd_turn, tkey_ii, eqv_int, eqv_str, atI_0, atI_1, atI_2, atI_3, atI_4, ci, eqv_bl, lay_ii, atI_5]
    refine dLoop_inv (fun d : Deed => .d (eDeed d)) (Idn0 c.1 s (s.foldl beh c)) s _ ⟨c, none, rfl, rfl, rfl⟩ ?_ ?_
    · rintro d r _ ⟨pre, hpre⟩ ⟨c', x, rfl, hc', hr⟩ N hN
      have hd : DeedOk c.1 d := hs d (by rw [hpre]; simp)
      obtain ⟨x0, r0, e0, ok0, ne0⟩ := deed_head d
      simp [e0, ok0, ne0, dstart, dSeq, dRet, dAsg, dPar, dIfS, dDrop, dNext, dVar, dC, dOp, dTst, dAnd, dOr, dNot, dIf, dAndV, dOrV, dNotV, dChain, dNil, dCons, dTup, dLst, dCall, plains, dIsi, isaP, drI, drI0, drPlus, drIx, drEq, drNe, drIn, drNIn, drIsN, drNotN, drLen, drAll, drSum, drMin, drMax, drTuple, drList, drDict, drInt, drAbs, dIterL, dIterT, dRng1, dRng2, dEnum, Tgt.put, dLc, dLc2, dYes, dInW, dTail, dHead, dRev, dMerge, dNew, dCount, dFor, List.getElem?_cons_zero, List.getElem?_cons_succ, List.map, List.length, List.replicate, List.append, List.cons_append, List.nil_append, List.append_nil, List.set, Option.map, Nat.sub_self, ne_pt, ne_pi, ne_pa, ne_tp, ne_ti, ne_ta, ne_ip, ne_it, ne_ia, ne_ap, ne_at, ne_ai, ne_kt, ne_kp, ne_pk, ne_pu, ne_uk, ne_up, okd_int, okd_bl, okd_pairs, okd_takes, okd_tie, okd_ask, okd_know, okd_part, okd_turn, tkey_ii, eqv_int, eqv_str, atI_0, atI_1, atI_2, atI_3, atI_4, ci, eqv_bl, lay_ii, atI_5]
      rw [← e0]
      exact ⟨c', d, rfl, by omega, by rw [hc']; exact hd, hN _ ⟨beh c' d, _, rfl, hc', hr⟩⟩
    · rintro _ ⟨c', x, rfl, hc', hr⟩
      have : c' = s.foldl beh c := hr
      rw [this]
      exact h
theorem ok_law_done : Ok P w K mg base "_law_done" ["_law_company_here", "_law_script_here"] 5 T_law_done := by
  refine D_law_done F (k0 := 4) (ok_law_knows F) (ok_law_behind F) (R := T_law_done0) (ok_law_done0 F) (by omega) (fun ds Q h => ?_) (fun ds Q h => ?_)
  · obtain ⟨c, d, rfl, _⟩ := h
    rfl
  · obtain ⟨c, s, rfl, hc, hs, h⟩ := h
    simp [B_law_done, eScr, dstart, dSeq, dRet, dAsg, dPar, dIfS, dDrop, dNext, dVar, dC, dOp, dTst, dAnd, dOr, dNot, dIf, dAndV, dOrV, dNotV, dChain, dNil, dCons, dTup, dLst, dCall, plains, dIsi, isaP, drI, drI0, drPlus, drIx, drEq, drNe, drIn, drNIn, drIsN, drNotN, drLen, drAll, drSum, drMin, drMax, drTuple, drList, drDict, drInt, drAbs, dIterL, dIterT, dRng1, dRng2, dEnum, Tgt.put, dLc, dLc2, dYes, dInW, dTail, dHead, dRev, dMerge, dNew, dCount, dFor, List.getElem?_cons_zero, List.getElem?_cons_succ, List.map, List.length, List.replicate, List.append, List.cons_append, List.nil_append, List.append_nil, List.set, Option.map, Nat.sub_self, ne_pt, ne_pi, ne_pa, ne_tp, ne_ti, ne_ta, ne_ip, ne_it, ne_ia, ne_ap, ne_at, ne_ai, ne_kt, ne_kp, ne_pk, ne_pu, ne_uk, ne_up, okd_int, okd_bl, okd_pairs, okd_takes, okd_tie, okd_ask, okd_know, okd_part, okd_turn, tkey_ii, eqv_int, eqv_str, atI_0, atI_1, atI_2, atI_3, atI_4, ci, eqv_bl, lay_ii, atI_5]
    refine dLoop_inv (fun d : It1 => .d (eIt d)) (Idn1 c.1 s (run1 c s)) s _ ⟨c, none, rfl, rfl, rfl⟩ ?_ ?_
    · rintro i r _ ⟨pre, hpre⟩ ⟨c', x, rfl, hc', hr⟩ N hN
      have hi : ItOk c.1 i := hs i (by rw [hpre]; simp)
      cases i with
      | deed d =>
        obtain ⟨x0, r0, e0, ok0, ne0⟩ := deed_head d
        simp [eIt, e0, ok0, ne0, dstart, dSeq, dRet, dAsg, dPar, dIfS, dDrop, dNext, dVar, dC, dOp, dTst, dAnd, dOr, dNot, dIf, dAndV, dOrV, dNotV, dChain, dNil, dCons, dTup, dLst, dCall, plains, dIsi, isaP, drI, drI0, drPlus, drIx, drEq, drNe, drIn, drNIn, drIsN, drNotN, drLen, drAll, drSum, drMin, drMax, drTuple, drList, drDict, drInt, drAbs, dIterL, dIterT, dRng1, dRng2, dEnum, Tgt.put, dLc, dLc2, dYes, dInW, dTail, dHead, dRev, dMerge, dNew, dCount, dFor, List.getElem?_cons_zero, List.getElem?_cons_succ, List.map, List.length, List.replicate, List.append, List.cons_append, List.nil_append, List.append_nil, List.set, Option.map, Nat.sub_self, ne_pt, ne_pi, ne_pa, ne_tp, ne_ti, ne_ta, ne_ip, ne_it, ne_ia, ne_ap, ne_at, ne_ai, ne_kt, ne_kp, ne_pk, ne_pu, ne_uk, ne_up, okd_int, okd_bl, okd_pairs, okd_takes, okd_tie, okd_ask, okd_know, okd_part, okd_turn, tkey_ii, eqv_int, eqv_str, atI_0, atI_1, atI_2, atI_3, atI_4, ci, eqv_bl, lay_ii, atI_5]
        rw [← e0]
        exact ⟨c', d, rfl, by omega, by rw [hc']; exact hi, hN _ ⟨beh c' d, _, rfl, hc', hr⟩⟩
      | ask a b y n =>
        simp [eIt, dstart, dSeq, dRet, dAsg, dPar, dIfS, dDrop, dNext, dVar, dC, dOp, dTst, dAnd, dOr, dNot, dIf, dAndV, dOrV, dNotV, dChain, dNil, dCons, dTup, dLst, dCall, plains, dIsi, isaP, drI, drI0, drPlus, drIx, drEq, drNe, drIn, drNIn, drIsN, drNotN, drLen, drAll, drSum, drMin, drMax, drTuple, drList, drDict, drInt, drAbs, dIterL, dIterT, dRng1, dRng2, dEnum, Tgt.put, dLc, dLc2, dYes, dInW, dTail, dHead, dRev, dMerge, dNew, dCount, dFor, List.getElem?_cons_zero, List.getElem?_cons_succ, List.map, List.length, List.replicate, List.append, List.cons_append, List.nil_append, List.append_nil, List.set, Option.map, Nat.sub_self, ne_pt, ne_pi, ne_pa, ne_tp, ne_ti, ne_ta, ne_ip, ne_it, ne_ia, ne_ap, ne_at, ne_ai, ne_kt, ne_kp, ne_pk, ne_pu, ne_uk, ne_up, okd_int, okd_bl, okd_pairs, okd_takes, okd_tie, okd_ask, okd_know, okd_part, okd_turn, tkey_ii, eqv_int, eqv_str, atI_0, atI_1, atI_2, atI_3, atI_4, ci, eqv_bl, lay_ii, atI_5]
        refine ⟨c', a, b, rfl, ?_⟩
        have e9 : step1 c' (.ask a b y n) = (if kn c'.2 a b = true then y else n).foldl beh c' := rfl
        have hr' : run1 (step1 c' (.ask a b y n)) r = run1 c s := hr
        rw [e9] at hr'
        cases z : kn c'.2 a b with
        | true =>
          rw [z, if_pos rfl] at hr'
          simp
          exact ⟨c', y, rfl, by omega, by rw [hc']; exact hi.2.2.2.1, hN _ ⟨_, _, rfl, (fold_fst y c').trans hc', hr'⟩⟩
        | false =>
          rw [z, if_neg (by simp)] at hr'
          simp
          exact ⟨c', n, rfl, by omega, by rw [hc']; exact hi.2.2.2.2, hN _ ⟨_, _, rfl, (fold_fst n c').trans hc', hr'⟩⟩
    · rintro _ ⟨c', x, rfl, hc', hr⟩
      have : c' = run1 c s := hr
      rw [this]
      exact h
theorem ok_law_table : Ok P w K mg base "_law_table" ["_law_named", "_law_script_here"] 6 T_law_table := by
  refine D_law_table F (ok_law_views F) (ok_law_done F) (fun ds Q h => ?_) (fun ds Q h => ?_)
  · obtain ⟨c, s, rfl, h⟩ := h
    rfl
  · obtain ⟨k, s, rfl, hk, hs, hz, h⟩ := h
    have hbig := big_line
    have h64 := vw_length hk
    simp [B_law_table, dstart, dSeq, dRet, dAsg, dPar, dIfS, dDrop, dNext, dVar, dC, dOp, dTst, dAnd, dOr, dNot, dIf, dAndV, dOrV, dNotV, dChain, dNil, dCons, dTup, dLst, dCall, plains, dIsi, isaP, drI, drI0, drPlus, drIx, drEq, drNe, drIn, drNIn, drIsN, drNotN, drLen, drAll, drSum, drMin, drMax, drTuple, drList, drDict, drInt, drAbs, dIterL, dIterT, dRng1, dRng2, dEnum, Tgt.put, dLc, dLc2, dYes, dInW, dTail, dHead, dRev, dMerge, dNew, dCount, dFor, List.getElem?_cons_zero, List.getElem?_cons_succ, List.map, List.length, List.replicate, List.append, List.cons_append, List.nil_append, List.append_nil, List.set, Option.map, Nat.sub_self, ne_pt, ne_pi, ne_pa, ne_tp, ne_ti, ne_ta, ne_ip, ne_it, ne_ia, ne_ap, ne_at, ne_ai, ne_kt, ne_kp, ne_pk, ne_pu, ne_uk, ne_up, okd_int, okd_bl, okd_pairs, okd_takes, okd_tie, okd_ask, okd_know, okd_part, okd_turn, tkey_ii, eqv_int, eqv_str, atI_0, atI_1, atI_2, atI_3, atI_4, ci, eqv_bl, lay_ii, atI_5]
    refine ⟨k, rfl, hk, ?_⟩
    simp [dstart, dSeq, dRet, dAsg, dPar, dIfS, dDrop, dNext, dVar, dC, dOp, dTst, dAnd, dOr, dNot, dIf, dAndV, dOrV, dNotV, dChain, dNil, dCons, dTup, dLst, dCall, plains, dIsi, isaP, drI, drI0, drPlus, drIx, drEq, drNe, drIn, drNIn, drIsN, drNotN, drLen, drAll, drSum, drMin, drMax, drTuple, drList, drDict, drInt, drAbs, dIterL, dIterT, dRng1, dRng2, dEnum, Tgt.put, dLc, dLc2, dYes, dInW, dTail, dHead, dRev, dMerge, dNew, dCount, dFor, List.getElem?_cons_zero, List.getElem?_cons_succ, List.map, List.length, List.replicate, List.append, List.cons_append, List.nil_append, List.append_nil, List.set, Option.map, Nat.sub_self, ne_pt, ne_pi, ne_pa, ne_tp, ne_ti, ne_ta, ne_ip, ne_it, ne_ia, ne_ap, ne_at, ne_ai, ne_kt, ne_kp, ne_pk, ne_pu, ne_uk, ne_up, okd_int, okd_bl, okd_pairs, okd_takes, okd_tie, okd_ask, okd_know, okd_part, okd_turn, tkey_ii, eqv_int, eqv_str, atI_0, atI_1, atI_2, atI_3, atI_4, ci, eqv_bl, lay_ii, atI_5]
    refine dGo_enum (vw k) 0 [] _ (by simp; omega) (fun v i acc R ha hR => ?_) ?_
    · simp [dStep, dwipe, dstart, dSeq, dRet, dAsg, dPar, dIfS, dDrop, dNext, dVar, dC, dOp, dTst, dAnd, dOr, dNot, dIf, dAndV, dOrV, dNotV, dChain, dNil, dCons, dTup, dLst, dCall, plains, dIsi, isaP, drI, drI0, drPlus, drIx, drEq, drNe, drIn, drNIn, drIsN, drNotN, drLen, drAll, drSum, drMin, drMax, drTuple, drList, drDict, drInt, drAbs, dIterL, dIterT, dRng1, dRng2, dEnum, Tgt.put, dLc, dLc2, dYes, dInW, dTail, dHead, dRev, dMerge, dNew, dCount, dFor, List.getElem?_cons_zero, List.getElem?_cons_succ, List.map, List.length, List.replicate, List.append, List.cons_append, List.nil_append, List.append_nil, List.set, Option.map, Nat.sub_self, ne_pt, ne_pi, ne_pa, ne_tp, ne_ti, ne_ta, ne_ip, ne_it, ne_ia, ne_ap, ne_at, ne_ai, ne_kt, ne_kp, ne_pk, ne_pu, ne_uk, ne_up, okd_int, okd_bl, okd_pairs, okd_takes, okd_tie, okd_ask, okd_know, okd_part, okd_turn, tkey_ii, eqv_int, eqv_str, atI_0, atI_1, atI_2, atI_3, atI_4, ci, eqv_bl, lay_ii, atI_5]
      exact ⟨ha, hR⟩
    · rw [List.nil_append, pairsOf_numb]
      refine ⟨numb_nd (vw_nd hk) 0, ?_⟩
      simp [Function.comp_def, dstart, dSeq, dRet, dAsg, dPar, dIfS, dDrop, dNext, dVar, dC, dOp, dTst, dAnd, dOr, dNot, dIf, dAndV, dOrV, dNotV, dChain, dNil, dCons, dTup, dLst, dCall, plains, dIsi, isaP, drI, drI0, drPlus, drIx, drEq, drNe, drIn, drNIn, drIsN, drNotN, drLen, drAll, drSum, drMin, drMax, drTuple, drList, drDict, drInt, drAbs, dIterL, dIterT, dRng1, dRng2, dEnum, Tgt.put, dLc, dLc2, dYes, dInW, dTail, dHead, dRev, dMerge, dNew, dCount, dFor, List.getElem?_cons_zero, List.getElem?_cons_succ, List.map, List.length, List.replicate, List.append, List.cons_append, List.nil_append, List.append_nil, List.set, Option.map, Nat.sub_self, ne_pt, ne_pi, ne_pa, ne_tp, ne_ti, ne_ta, ne_ip, ne_it, ne_ia, ne_ap, ne_at, ne_ai, ne_kt, ne_kp, ne_pk, ne_pu, ne_uk, ne_up, okd_int, okd_bl, okd_pairs, okd_takes, okd_tie, okd_ask, okd_know, okd_part, okd_turn, tkey_ii, eqv_int, eqv_str, atI_0, atI_1, atI_2, atI_3, atI_4, ci, eqv_bl, lay_ii, atI_5]
      refine dGo_map (fun v : Co => .d (eCo v)) (fun v => eN (place (run1 v s) (vw k))) (vw k) [] _ (by simp; omega) (fun v hv acc R ha hR => ?_) ?_
      · have hv1 := (mem_vw.mp hv).1
        simp [dStep, dwipe, dstart, dSeq, dRet, dAsg, dPar, dIfS, dDrop, dNext, dVar, dC, dOp, dTst, dAnd, dOr, dNot, dIf, dAndV, dOrV, dNotV, dChain, dNil, dCons, dTup, dLst, dCall, plains, dIsi, isaP, drI, drI0, drPlus, drIx, drEq, drNe, drIn, drNIn, drIsN, drNotN, drLen, drAll, drSum, drMin, drMax, drTuple, drList, drDict, drInt, drAbs, dIterL, dIterT, dRng1, dRng2, dEnum, Tgt.put, dLc, dLc2, dYes, dInW, dTail, dHead, dRev, dMerge, dNew, dCount, dFor, List.getElem?_cons_zero, List.getElem?_cons_succ, List.map, List.length, List.replicate, List.append, List.cons_append, List.nil_append, List.append_nil, List.set, Option.map, Nat.sub_self, ne_pt, ne_pi, ne_pa, ne_tp, ne_ti, ne_ta, ne_ip, ne_it, ne_ia, ne_ap, ne_at, ne_ai, ne_kt, ne_kp, ne_pk, ne_pu, ne_uk, ne_up, okd_int, okd_bl, okd_pairs, okd_takes, okd_tie, okd_ask, okd_know, okd_part, okd_turn, tkey_ii, eqv_int, eqv_str, atI_0, atI_1, atI_2, atI_3, atI_4, ci, eqv_bl, lay_ii, atI_5]
        refine ⟨v, s, rfl, by rcases hk with rfl | rfl <;> omega, fun i hi => (hs i hi).mono (by omega), ?_⟩
        have e := look_numb (i := 0) (run_vw s v hv)
        simp [ne_pt, ne_pi, ne_pa, ne_tp, ne_ti, ne_ta, ne_ip, ne_it, ne_ia, ne_ap, ne_at, ne_ai, ne_kt, ne_kp, ne_pk, ne_pu, ne_uk, ne_up, okd_int, okd_bl, okd_pairs, okd_takes, okd_tie, okd_ask, okd_know, okd_part, okd_turn, tkey_ii, eqv_int, eqv_str, atI_0, atI_1, atI_2, atI_3, atI_4, ci, eqv_bl, lay_ii, atI_5, tkey_co, e]
        exact ⟨ha, hR⟩
      · rw [List.nil_append]
        unfold eTab tab at h
        rw [List.map_map] at h
        exact h
end
end TW
namespace TW
open PySem PySem.Spec PyProof.Rows L2 FL
def T_law_roll : DRs := fun ds Q => ∃ m : Nat, ds = [.cup, .d (eN m)] ∧ 1 ≤ m ∧ m ≤ 1000 ∧ ∀ r : Nat, r < m → Q (.d (eN r))
def T_law_some : DRs := fun ds Q => ∃ ps : List PyData, ds = [.cup, .d (.list ps)] ∧ ps ≠ [] ∧ ps.length ≤ 1000 ∧ ∀ p ∈ ps, Q (.d p)
def T_law_answers : DRs := fun ds Q => ∃ m : Nat, ds = [.cup, .d (eN m)] ∧ m ≤ 1000 ∧ ∀ a : List Bool, a.length = m → Q (.d (eBits a))
def T_law_deed : DRs := fun ds Q => ∃ k : Nat, ds = [.cup, .d (eN k)] ∧ (k = 1 ∨ k = 2) ∧ ∀ d, DeedOk k d → Q (.d (eDeed d))
def B_law_roll : DTS := dSeq (dIfS (dTst (dOp drGt (dOp drCup (dVar 0) (dC (dI 0))) (dC (dI 0)))) (dSeq (dAsg (dOp drMod (dCall drInt (dCons (dOp drCup (dVar 0) (dC (dI 0))) (dNil))) (dVar 1)) (.nm 3)) (dSeq (dCupSet 0 0 (dOp drFdiv (dOp drCup (dVar 0) (dC (dI 0))) (dVar 1))) (dRet (dVar 3)))) (dNext)) (dSeq (dCupSet 0 1 (dOp drMod (dCall drInt (dCons (dOp drPlus (dOp drMul (dOp drCup (dVar 0) (dC (dI 1))) (dC (dI 30983))) (dC (dI 7933))) (dNil))) (dC (dI 2147483563)))) (dSeq (dAsg (dOp drMod (dCall drInt (dCons (dOp drMul (dOp drCup (dVar 0) (dC (dI 1))) (dOp drPlus (dOp drCup (dVar 0) (dC (dI 1))) (dC (dI 197)))) (dNil))) (dC (dI 2147483587))) (.nm 2)) (dRet (dOp drMod (dCall drInt (dCons (dOp drFdiv (dVar 2) (dC (dI 773))) (dNil))) (dVar 1)))))
theorem S_law_roll : FnScope ["_law_cup_here", "_law_many", "_law_deep", "_law_found"] ["_law_cup_here", "_law_many"] (defScope (top 47)) := ⟨rfl, rfl, rfl, by decide +kernel, rfl, by decide +kernel, by decide +kernel⟩
theorem D_law_roll {P : Program} {w : World} {K : PySem.W.Frag} {mg : Str → Option Value} {base : Heap} (F : Fc K mg)  {T : DRs} (hlen : ∀ ds Q, T ds Q → ds.length = 2) (hT : ∀ ds Q, T ds Q → B_law_roll { nx := fun _ => Q dN, rt := Q } (dstart ["_law_cup_here", "_law_many", "_law_deep", "_law_found"] ds)) : Ok P w K mg base "_law_roll" ["_law_cup_here", "_law_many"] (0 + 1) T :=
  ok_fn F 28 (j := 47) rfl S_law_roll T (B_law_roll) hlen hT (fun _ _ _ _ _ _ us hl => match us, hl with | [_, _], _ => rfl) fun f cdv A outer s H E hr => dss_cons (ds_if (dt_cmp od_gt (de_ix xd_cup (dv 0) (de_int) (fun _ _ => rfl)) (de_int) (nomark _)) (dss_cons (ds_set (i := 3) S_law_roll.nd rfl (by first | exact .inl rfl | exact .inr rfl) (de_bin od_mod (de_callTy cd_int rfl F.free_int boot_int (da_cons (de_ix xd_cup (dv 0) (de_int) (fun _ _ => rfl)) (da_nil))) (dv 1))) (dss_cons (ds_cup (i := 0) (de_bin od_fdiv (de_ix xd_cup (dv 0) (de_int) (fun _ _ => rfl)) (dv 1)) (pv 0)) (dss_one (ds_ret (dv 3))))) (dss_nil)) (dss_cons (ds_cup (i := 0) (de_bin od_mod (de_callTy cd_int rfl F.free_int boot_int (da_cons (de_bin od_plus (de_bin od_mul (de_ix xd_cup (dv 0) (de_int) (fun _ _ => rfl)) (de_int)) (de_int)) (da_nil))) (de_int)) (pv 0)) (dss_cons (ds_set (i := 2) S_law_roll.nd rfl (by first | exact .inl rfl | exact .inr rfl) (de_bin od_mod (de_callTy cd_int rfl F.free_int boot_int (da_cons (de_bin od_mul (de_ix xd_cup (dv 0) (de_int) (fun _ _ => rfl)) (de_bin od_plus (de_ix xd_cup (dv 0) (de_int) (fun _ _ => rfl)) (de_int))) (da_nil))) (de_int))) (dss_one (ds_ret (de_bin od_mod (de_callTy cd_int rfl F.free_int boot_int (da_cons (de_bin od_fdiv (dv 2) (de_int)) (da_nil))) (dv 1))))))
def B_law_some : DTS := dRet (dOp drIx (dVar 1) (dCall T_law_roll (dCons (dVar 0) (dCons (dCall drLen (dCons (dVar 1) (dNil))) (dNil)))))
theorem S_law_some : FnScope ["_law_cup_here", "_law_things"] ["_law_cup_here", "_law_things"] (defScope (top 48)) := ⟨rfl, rfl, rfl, by decide +kernel, rfl, by decide +kernel, by decide +kernel⟩
theorem D_law_some {P : Program} {w : World} {K : PySem.W.Frag} {mg : Str → Option Value} {base : Heap} (F : Fc K mg) (o_law_roll : Ok P w K mg base "_law_roll" ["_law_cup_here", "_law_many"] 1 T_law_roll) {T : DRs} (hlen : ∀ ds Q, T ds Q → ds.length = 2) (hT : ∀ ds Q, T ds Q → B_law_some { nx := fun _ => Q dN, rt := Q } (dstart ["_law_cup_here", "_law_things"] ds)) : Ok P w K mg base "_law_some" ["_law_cup_here", "_law_things"] (1 + 1) T :=
  ok_fn F 29 (j := 48) rfl S_law_some T (B_law_some) hlen hT (fun _ _ _ _ _ _ us hl => match us, hl with | [_, _], _ => rfl) fun f cdv A outer s H E hr => dss_one (ds_ret (de_ix (xd_ix hr.units) (dv 1) (ok_call o_law_roll hr (by decide) rfl (da_cons (dv 0) (da_cons (de_callB cd_len rfl F.free_len boot_len (da_cons (dv 1) (da_nil))) (da_nil)))) (fun _ _ => rfl)))
def B_law_answers : DTS := dRet (dCall drTuple (dCons (dLc (dRng1 (dVar 1)) (.nm 2) (dYes) (dCall T_law_roll (dCons (dVar 0) (dCons (dC (dI 2)) (dNil)))) [2]) (dNil)))
theorem S_law_answers : FnScope ["_law_cup_here", "_law_many", "_law_answer"] ["_law_cup_here", "_law_many"] (defScope (top 54)) := ⟨rfl, rfl, rfl, by decide +kernel, rfl, by decide +kernel, by decide +kernel⟩
theorem D_law_answers {P : Program} {w : World} {K : PySem.W.Frag} {mg : Str → Option Value} {base : Heap} (F : Fc K mg) (o_law_roll : Ok P w K mg base "_law_roll" ["_law_cup_here", "_law_many"] 1 T_law_roll) {T : DRs} (hlen : ∀ ds Q, T ds Q → ds.length = 2) (hT : ∀ ds Q, T ds Q → B_law_answers { nx := fun _ => Q dN, rt := Q } (dstart ["_law_cup_here", "_law_many", "_law_answer"] ds)) : Ok P w K mg base "_law_answers" ["_law_cup_here", "_law_many"] (1 + 1) T :=
  ok_fn F 35 (j := 54) rfl S_law_answers T (B_law_answers) hlen hT (fun _ _ _ _ _ _ us hl => match us, hl with | [_, _], _ => rfl) fun f cdv A outer s H E hr => dss_one (ds_ret (de_callTy cd_tuple rfl F.free_tuple boot_tuple (da_cons (de_lc rfl S_law_answers.nd (di_range1 rfl F.free_range (dv 1)) (own := [("_law_answer", 2)]) (blkOk_by (by kernel_rfl)) (fun _ _ _ _ _ => pg_nm (i := 2) S_law_answers.nd rfl (by first | exact .inl rfl | exact .inr rfl)) (fun _ _ _ _ _ => dts_nil) (fun _ _ _ _ _ => ok_call o_law_roll hr (by decide) rfl (da_cons (dv 0) (da_cons (de_int) (da_nil))))) (da_nil))))
def B_law_deed : DTS := dSeq (dAsg (dCall T_law_roll (dCons (dVar 0) (dCons (dVar 1) (dNil)))) (.nm 2)) (dSeq (dIfS (dOr (dTst (dOp drEq (dVar 1) (dC (dI 1)))) (dTst (dOp drLt (dCall T_law_roll (dCons (dVar 0) (dCons (dC (dI 5)) (dNil)))) (dC (dI 2))))) (dSeq (dAsg (dLst (dCons (dTup (dCons (dC (dI 0)) (dCons (dC (dI 0)) (dCons (dC (dI 1)) (dCons (dC (dI 1)) (dCons (dC (dI 1)) (dCons (dC (dI 1)) (dNil)))))))) (dCons (dTup (dCons (dC (dI 0)) (dCons (dC (dI 0)) (dCons (dC (dI 0)) (dCons (dC (dI 1)) (dCons (dC (dI 1)) (dCons (dC (dI 0)) (dNil)))))))) (dCons (dTup (dCons (dC (dI 1)) (dCons (dC (dI 0)) (dCons (dC (dI 0)) (dCons (dC (dI 1)) (dCons (dC (dI 1)) (dCons (dC (dI 1)) (dNil)))))))) (dCons (dTup (dCons (dC (dI 0)) (dCons (dC (dI 0)) (dCons (dC (dI 1)) (dCons (dC (dI 1)) (dCons (dC (dI 1)) (dCons (dC (dI 0)) (dNil)))))))) (dCons (dTup (dCons (dC (dI 1)) (dCons (dC (dI 1)) (dCons (dC (dI 1)) (dCons (dC (dI 0)) (dCons (dC (dI 0)) (dCons (dC (dI 0)) (dNil)))))))) (dCons (dTup (dCons (dC (dI 0)) (dCons (dC (dI 0)) (dCons (dC (dI 0)) (dCons (dC (dI 1)) (dCons (dC (dI 1)) (dCons (dC (dI 1)) (dNil)))))))) (dCons (dTup (dCons (dC (dI 0)) (dCons (dC (dI 1)) (dCons (dC (dI 0)) (dCons (dC (dI 0)) (dCons (dC (dI 1)) (dCons (dC (dI 0)) (dNil)))))))) (dNil))))))))) (.nm 4)) (dRet (dTup (dCons (dC (dS "pairs")) (dCons (dVar 2) (dCons (dCall T_law_some (dCons (dVar 0) (dCons (dOp drPlus (dVar 4) (dLst (dCons (dCall T_law_answers (dCons (dVar 0) (dCons (dC (dI 6)) (dNil)))) (dCons (dCall T_law_answers (dCons (dVar 0) (dCons (dC (dI 6)) (dNil)))) (dCons (dCall T_law_answers (dCons (dVar 0) (dCons (dC (dI 6)) (dNil)))) (dNil)))))) (dNil)))) (dNil))))))) (dNext)) (dSeq (dAsg (dCall T_law_some (dCons (dVar 0) (dCons (dLc (dRng1 (dVar 1)) (.nm 5) (dTst (dOp drNe (dVar 5) (dVar 2))) (dVar 5) [5]) (dNil)))) (.nm 3)) (dSeq (dIfS (dTst (dOp drGt (dCall T_law_roll (dCons (dVar 0) (dCons (dC (dI 3)) (dNil)))) (dC (dI 0)))) (dSeq (dAsg (dLst (dCons (dTup (dCons (dC (dI 0)) (dCons (dC (dI 1)) (dCons (dC (dI 0)) (dCons (dC (dI 1)) (dNil)))))) (dCons (dTup (dCons (dC (dI 0)) (dCons (dC (dI 1)) (dCons (dC (dI 1)) (dCons (dC (dI 0)) (dNil)))))) (dCons (dTup (dCons (dC (dI 0)) (dCons (dC (dI 1)) (dCons (dC (dI 1)) (dCons (dC (dI 1)) (dNil)))))) (dCons (dTup (dCons (dC (dI 0)) (dCons (dC (dI 0)) (dCons (dC (dI 0)) (dCons (dC (dI 1)) (dNil)))))) (dCons (dTup (dCons (dC (dI 0)) (dCons (dC (dI 0)) (dCons (dC (dI 1)) (dCons (dC (dI 1)) (dNil)))))) (dCons (dCall T_law_answers (dCons (dVar 0) (dCons (dC (dI 4)) (dNil)))) (dCons (dCall T_law_answers (dCons (dVar 0) (dCons (dC (dI 4)) (dNil)))) (dNil))))))))) (.nm 4)) (dRet (dTup (dCons (dC (dS "takes")) (dCons (dVar 2) (dCons (dVar 3) (dCons (dCall T_law_some (dCons (dVar 0) (dCons (dVar 4) (dNil)))) (dNil)))))))) (dNext)) (dRet (dTup (dCons (dC (dS "tie")) (dCons (dVar 2) (dCons (dVar 3) (dCons (dCall T_law_some (dCons (dVar 0) (dCons (dLst (dCons (dC (dS "know")) (dCons (dC (dS "part")) (dCons (dC (dS "turn")) (dNil))))) (dNil)))) (dNil))))))))))
theorem S_law_deed : FnScope ["_law_cup_here", "_law_named", "_law_doer", "_law_other", "_law_some_here", "_law_person"] ["_law_cup_here", "_law_named"] (defScope (top 55)) := ⟨rfl, rfl, rfl, by decide +kernel, rfl, by decide +kernel, by decide +kernel⟩
theorem D_law_deed {P : Program} {w : World} {K : PySem.W.Frag} {mg : Str → Option Value} {base : Heap} (F : Fc K mg) (o_law_roll : Ok P w K mg base "_law_roll" ["_law_cup_here", "_law_many"] 1 T_law_roll) (o_law_some : Ok P w K mg base "_law_some" ["_law_cup_here", "_law_things"] 2 T_law_some) (o_law_answers : Ok P w K mg base "_law_answers" ["_law_cup_here", "_law_many"] 2 T_law_answers) {T : DRs} (hlen : ∀ ds Q, T ds Q → ds.length = 2) (hT : ∀ ds Q, T ds Q → B_law_deed { nx := fun _ => Q dN, rt := Q } (dstart ["_law_cup_here", "_law_named", "_law_doer", "_law_other", "_law_some_here", "_law_person"] ds)) : Ok P w K mg base "_law_deed" ["_law_cup_here", "_law_named"] (2 + 1) T :=
  ok_fn F 36 (j := 55) rfl S_law_deed T (B_law_deed) hlen hT (fun _ _ _ _ _ _ us hl => match us, hl with | [_, _], _ => rfl) fun f cdv A outer s H E hr => dss_cons (ds_set (i := 2) S_law_deed.nd rfl (by first | exact .inl rfl | exact .inr rfl) (ok_call o_law_roll hr (by decide) rfl (da_cons (dv 0) (da_cons (dv 1) (da_nil))))) (dss_cons (ds_if (dt_w (dw_or (dt_cmp (od_eq hr.units) (dv 1) (de_int) (nomark _)) (dw_or1 (dt_cmp od_lt (ok_call o_law_roll hr (by decide) rfl (da_cons (dv 0) (da_cons (de_int) (da_nil)))) (de_int) (nomark _))))) (dss_cons (ds_set (i := 4) S_law_deed.nd rfl (by first | exact .inl rfl | exact .inr rfl) (de_lst (da_cons (de_tup (da_cons (de_int) (da_cons (de_int) (da_cons (de_int) (da_cons (de_int) (da_cons (de_int) (da_cons (de_int) (da_nil)))))))) (da_cons (de_tup (da_cons (de_int) (da_cons (de_int) (da_cons (de_int) (da_cons (de_int) (da_cons (de_int) (da_cons (de_int) (da_nil)))))))) (da_cons (de_tup (da_cons (de_int) (da_cons (de_int) (da_cons (de_int) (da_cons (de_int) (da_cons (de_int) (da_cons (de_int) (da_nil)))))))) (da_cons (de_tup (da_cons (de_int) (da_cons (de_int) (da_cons (de_int) (da_cons (de_int) (da_cons (de_int) (da_cons (de_int) (da_nil)))))))) (da_cons (de_tup (da_cons (de_int) (da_cons (de_int) (da_cons (de_int) (da_cons (de_int) (da_cons (de_int) (da_cons (de_int) (da_nil)))))))) (da_cons (de_tup (da_cons (de_int) (da_cons (de_int) (da_cons (de_int) (da_cons (de_int) (da_cons (de_int) (da_cons (de_int) (da_nil)))))))) (da_cons (de_tup (da_cons (de_int) (da_cons (de_int) (da_cons (de_int) (da_cons (de_int) (da_cons (de_int) (da_cons (de_int) (da_nil)))))))) (da_nil)))))))))) (dss_one (ds_ret (de_tup (da_cons (de_str) (da_cons (dv 2) (da_cons (ok_call o_law_some hr (by decide) rfl (da_cons (dv 0) (da_cons (de_bin od_plus (dv 4) (de_lst (da_cons (ok_call o_law_answers hr (by decide) rfl (da_cons (dv 0) (da_cons (de_int) (da_nil)))) (da_cons (ok_call o_law_answers hr (by decide) rfl (da_cons (dv 0) (da_cons (de_int) (da_nil)))) (da_cons (ok_call o_law_answers hr (by decide) rfl (da_cons (dv 0) (da_cons (de_int) (da_nil)))) (da_nil)))))) (da_nil)))) (da_nil)))))))) (dss_nil)) (dss_cons (ds_set (i := 3) S_law_deed.nd rfl (by first | exact .inl rfl | exact .inr rfl) (ok_call o_law_some hr (by decide) rfl (da_cons (dv 0) (da_cons (de_lc rfl S_law_deed.nd (di_range1 rfl F.free_range (dv 1)) (own := [("_law_person", 5)]) (blkOk_by (by kernel_rfl)) (fun _ _ _ _ _ => pg_nm (i := 5) S_law_deed.nd rfl (by first | exact .inl rfl | exact .inr rfl)) (fun _ _ _ _ _ => dts_one (dt_cmp (od_ne hr.units) (dv 5) (dv 2) (nomark _))) (fun _ _ _ _ _ => dv 5)) (da_nil))))) (dss_cons (ds_if (dt_cmp od_gt (ok_call o_law_roll hr (by decide) rfl (da_cons (dv 0) (da_cons (de_int) (da_nil)))) (de_int) (nomark _)) (dss_cons (ds_set (i := 4) S_law_deed.nd rfl (by first | exact .inl rfl | exact .inr rfl) (de_lst (da_cons (de_tup (da_cons (de_int) (da_cons (de_int) (da_cons (de_int) (da_cons (de_int) (da_nil)))))) (da_cons (de_tup (da_cons (de_int) (da_cons (de_int) (da_cons (de_int) (da_cons (de_int) (da_nil)))))) (da_cons (de_tup (da_cons (de_int) (da_cons (de_int) (da_cons (de_int) (da_cons (de_int) (da_nil)))))) (da_cons (de_tup (da_cons (de_int) (da_cons (de_int) (da_cons (de_int) (da_cons (de_int) (da_nil)))))) (da_cons (de_tup (da_cons (de_int) (da_cons (de_int) (da_cons (de_int) (da_cons (de_int) (da_nil)))))) (da_cons (ok_call o_law_answers hr (by decide) rfl (da_cons (dv 0) (da_cons (de_int) (da_nil)))) (da_cons (ok_call o_law_answers hr (by decide) rfl (da_cons (dv 0) (da_cons (de_int) (da_nil)))) (da_nil)))))))))) (dss_one (ds_ret (de_tup (da_cons (de_str) (da_cons (dv 2) (da_cons (dv 3) (da_cons (ok_call o_law_some hr (by decide) rfl (da_cons (dv 0) (da_cons (dv 4) (da_nil)))) (da_nil))))))))) (dss_nil)) (dss_one (ds_ret (de_tup (da_cons (de_str) (da_cons (dv 2) (da_cons (dv 3) (da_cons (ok_call o_law_some hr (by decide) rfl (da_cons (dv 0) (da_cons (de_lst (da_cons (de_str) (da_cons (de_str) (da_cons (de_str) (da_nil))))) (da_nil)))) (da_nil)))))))))))
theorem dGo_any {α : Type} {t : Tgt} {tt : DTT} {te : DT} {δ : DEnv} (enc : α → FL.D) (G : PyData → Prop) : ∀ (xs : List α) (acc : List PyData) (Q : List PyData → Prop), acc.length + xs.length ≤ sizeLine →
    (∀ x ∈ xs, ∀ acc R, acc.length < sizeLine → (∀ p, G p → R (acc ++ [p])) → dStep t tt te δ (enc x) acc R) → (∀ ps : List PyData, ps.length = xs.length → (∀ p ∈ ps, G p) → Q (acc ++ ps)) → dGo t tt te δ (xs.map enc) acc Q
  | [], acc, Q, _, _, q => by simpa [dGo] using q [] rfl (by simp)
  | x :: xs, acc, Q, hl, h, q => by
    rw [List.map_cons, dGo_cons]
    have hl' : acc.length + (xs.length + 1) ≤ sizeLine := hl
    refine h x List.mem_cons_self _ _ (by omega) fun p hp => ?_
    refine dGo_any enc G xs _ Q (by simp; omega) (fun y hy => h y (List.mem_cons_of_mem _ hy)) fun ps h1 h2 => ?_
    have := q (p :: ps) (by simp [h1]) (by intro z hz; rcases List.mem_cons.mp hz with e | e; · rw [e]; exact hp
                                           · exact h2 z e)
    simpa using this
theorem bits_of : ∀ {ps : List PyData}, (∀ p ∈ ps, ∃ b, p = eBit b) → ∃ bs : List Bool, ps = bs.map eBit ∧ bs.length = ps.length
  | [], _ => ⟨[], rfl, rfl⟩
  | p :: ps, h => by
    obtain ⟨b, hb⟩ := h p List.mem_cons_self
    obtain ⟨bs, h1, h2⟩ := bits_of fun q hq => h q (List.mem_cons_of_mem _ hq)
    exact ⟨b :: bs, by rw [hb, h1]; rfl, by rw [List.length_cons, List.length_cons, h2]⟩
theorem mod_nat {a : Int} {m : Nat} (h : 1 ≤ m) : ∃ r : Nat, r < m ∧ a % (m : Int) = (r : Int) := by
  have h1 : 0 ≤ a % (m : Int) := Int.emod_nonneg _ (by omega)
  have h2 : a % (m : Int) < m := Int.emod_lt_of_pos _ (by omega)
  exact ⟨(a % (m : Int)).toNat, by omega, by omega⟩
section
variable {P : Program} {w : World} {K : PySem.W.Frag} {mg : Str → Option Value} {base : Heap} (F : Fc K mg)
include F
theorem ok_law_roll : Ok P w K mg base "_law_roll" ["_law_cup_here", "_law_many"] 1 T_law_roll := by
  refine D_law_roll F (fun ds Q h => ?_) (fun ds Q h => ?_)
  · obtain ⟨m, rfl, _⟩ := h
    rfl
  · obtain ⟨m, rfl, h1, h2, h⟩ := h
    simp [B_law_roll, dCupSet, drCup, eN, dstart, dSeq, dRet, dAsg, dPar, dIfS, dDrop, dNext, dVar, dC, dOp, dTst, dAnd, dOr, dNot, dIf, dAndV, dOrV, dNotV, dChain, dNil, dCons, dTup, dLst, dCall, plains, dIsi, isaP, drI, drI0, drPlus, drIx, drEq, drNe, drIn, drNIn, drIsN, drNotN, drLen, drAll, drSum, drMin, drMax, drTuple, drList, drDict, drInt, drAbs, dIterL, dIterT, dRng1, dRng2, dEnum, Tgt.put, dLc, dLc2, dYes, dInW, dTail, dHead, dRev, dMerge, dNew, dCount, dFor, List.getElem?_cons_zero, List.getElem?_cons_succ, List.map, List.length, List.replicate, List.append, List.cons_append, List.nil_append, List.append_nil, List.set, Option.map, Nat.sub_self, ne_pt, ne_pi, ne_pa, ne_tp, ne_ti, ne_ta, ne_ip, ne_it, ne_ia, ne_ap, ne_at, ne_ai, ne_kt, ne_kp, ne_pk, ne_pu, ne_uk, ne_up, okd_int, okd_bl, okd_pairs, okd_takes, okd_tie, okd_ask, okd_know, okd_part, okd_turn, tkey_ii, eqv_int, eqv_str, atI_0, atI_1, atI_2, atI_3, atI_4, ci, eqv_bl, lay_ii, atI_5]
    intro v
    have fin : ∀ a : Int, Q (.d (.int (a % (m : Int)))) := fun a => by
      obtain ⟨r, h3, h4⟩ := mod_nat (a := a) h1
      rw [h4]
      exact h r h3
    have cdiv : ∀ (a : Int) (b : Int), 0 < b → b < 1073741824 → CDiv a b := fun a b x y => ⟨x, y⟩
    by_cases e : 0 < v
    · rw [if_pos e]
      intro v
      exact ⟨by omega, fun u => ⟨cdiv _ _ (by omega) (by omega), fin _⟩⟩
    · rw [if_neg e]
      intro v hv1 hv2
      refine ⟨.inr ⟨by decide, by decide⟩, ⟨by omega, by omega⟩, fun u hu1 hu2 t ht1 ht2 => ⟨.inl ⟨by omega, by omega⟩, cdiv _ _ (by decide) (by decide), by omega, fin _⟩⟩
theorem ok_law_some : Ok P w K mg base "_law_some" ["_law_cup_here", "_law_things"] 2 T_law_some := by
  refine D_law_some F (ok_law_roll F) (fun ds Q h => ?_) (fun ds Q h => ?_)
  · obtain ⟨m, rfl, _⟩ := h
    rfl
  · obtain ⟨ps, rfl, h1, h2, h⟩ := h
    have hpos : 0 < ps.length := List.length_pos_iff.mpr h1
    simp [B_law_some, dstart, dSeq, dRet, dAsg, dPar, dIfS, dDrop, dNext, dVar, dC, dOp, dTst, dAnd, dOr, dNot, dIf, dAndV, dOrV, dNotV, dChain, dNil, dCons, dTup, dLst, dCall, plains, dIsi, isaP, drI, drI0, drPlus, drIx, drEq, drNe, drIn, drNIn, drIsN, drNotN, drLen, drAll, drSum, drMin, drMax, drTuple, drList, drDict, drInt, drAbs, dIterL, dIterT, dRng1, dRng2, dEnum, Tgt.put, dLc, dLc2, dYes, dInW, dTail, dHead, dRev, dMerge, dNew, dCount, dFor, List.getElem?_cons_zero, List.getElem?_cons_succ, List.map, List.length, List.replicate, List.append, List.cons_append, List.nil_append, List.append_nil, List.set, Option.map, Nat.sub_self, ne_pt, ne_pi, ne_pa, ne_tp, ne_ti, ne_ta, ne_ip, ne_it, ne_ia, ne_ap, ne_at, ne_ai, ne_kt, ne_kp, ne_pk, ne_pu, ne_uk, ne_up, okd_int, okd_bl, okd_pairs, okd_takes, okd_tie, okd_ask, okd_know, okd_part, okd_turn, tkey_ii, eqv_int, eqv_str, atI_0, atI_1, atI_2, atI_3, atI_4, ci, eqv_bl, lay_ii, atI_5]
    refine ⟨ps.length, rfl, hpos, h2, fun r hr => ?_⟩
    have e := atI_nat ps r hr
    simp [eN, e]
    exact h _ (List.getElem_mem hr)
theorem ok_law_answers : Ok P w K mg base "_law_answers" ["_law_cup_here", "_law_many"] 2 T_law_answers := by
  refine D_law_answers F (ok_law_roll F) (fun ds Q h => ?_) (fun ds Q h => ?_)
  · obtain ⟨m, rfl, _⟩ := h
    rfl
  · obtain ⟨m, rfl, h1, h⟩ := h
    have hbig := big_line
    simp [B_law_answers, eN, dstart, dSeq, dRet, dAsg, dPar, dIfS, dDrop, dNext, dVar, dC, dOp, dTst, dAnd, dOr, dNot, dIf, dAndV, dOrV, dNotV, dChain, dNil, dCons, dTup, dLst, dCall, plains, dIsi, isaP, drI, drI0, drPlus, drIx, drEq, drNe, drIn, drNIn, drIsN, drNotN, drLen, drAll, drSum, drMin, drMax, drTuple, drList, drDict, drInt, drAbs, dIterL, dIterT, dRng1, dRng2, dEnum, Tgt.put, dLc, dLc2, dYes, dInW, dTail, dHead, dRev, dMerge, dNew, dCount, dFor, List.getElem?_cons_zero, List.getElem?_cons_succ, List.map, List.length, List.replicate, List.append, List.cons_append, List.nil_append, List.append_nil, List.set, Option.map, Nat.sub_self, ne_pt, ne_pi, ne_pa, ne_tp, ne_ti, ne_ta, ne_ip, ne_it, ne_ia, ne_ap, ne_at, ne_ai, ne_kt, ne_kp, ne_pk, ne_pu, ne_uk, ne_up, okd_int, okd_bl, okd_pairs, okd_takes, okd_tie, okd_ask, okd_know, okd_part, okd_turn, tkey_ii, eqv_int, eqv_str, atI_0, atI_1, atI_2, atI_3, atI_4, ci, eqv_bl, lay_ii, atI_5]
    refine ⟨by unfold inI; omega, ?_⟩
    rw [intD_eq]
    refine dGo_any (fun i : Nat => dI (0 + (i : Nat))) (fun p => ∃ b, p = eBit b) (List.range m) [] _ (by simp; omega) (fun x hx acc R ha hR => ?_) (fun ps hl hp => ?_)
    · simp [dStep, dwipe, dstart, dSeq, dRet, dAsg, dPar, dIfS, dDrop, dNext, dVar, dC, dOp, dTst, dAnd, dOr, dNot, dIf, dAndV, dOrV, dNotV, dChain, dNil, dCons, dTup, dLst, dCall, plains, dIsi, isaP, drI, drI0, drPlus, drIx, drEq, drNe, drIn, drNIn, drIsN, drNotN, drLen, drAll, drSum, drMin, drMax, drTuple, drList, drDict, drInt, drAbs, dIterL, dIterT, dRng1, dRng2, dEnum, Tgt.put, dLc, dLc2, dYes, dInW, dTail, dHead, dRev, dMerge, dNew, dCount, dFor, List.getElem?_cons_zero, List.getElem?_cons_succ, List.map, List.length, List.replicate, List.append, List.cons_append, List.nil_append, List.append_nil, List.set, Option.map, Nat.sub_self, ne_pt, ne_pi, ne_pa, ne_tp, ne_ti, ne_ta, ne_ip, ne_it, ne_ia, ne_ap, ne_at, ne_ai, ne_kt, ne_kp, ne_pk, ne_pu, ne_uk, ne_up, okd_int, okd_bl, okd_pairs, okd_takes, okd_tie, okd_ask, okd_know, okd_part, okd_turn, tkey_ii, eqv_int, eqv_str, atI_0, atI_1, atI_2, atI_3, atI_4, ci, eqv_bl, lay_ii, atI_5]
      refine ⟨2, rfl, by decide, by decide, fun r hr => ?_⟩
      have : eN r = eBit (decide (r = 1)) := by
        have : r = 0 ∨ r = 1 := by omega
        rcases this with rfl | rfl <;> rfl
      exact ⟨ha, hR _ ⟨_, this⟩⟩
    · obtain ⟨bs, e1, e2⟩ := bits_of hp
      rw [List.nil_append, e1]
      exact h bs (by rw [e2, hl]; simp)
theorem ok_law_deed : Ok P w K mg base "_law_deed" ["_law_cup_here", "_law_named"] 3 T_law_deed := by
  refine D_law_deed F (ok_law_roll F) (ok_law_some F) (ok_law_answers F) (fun ds Q h => ?_) (fun ds Q h => ?_)
  · obtain ⟨m, rfl, _⟩ := h
    rfl
  · obtain ⟨k, rfl, hk, h⟩ := h
    have hbig := big_line
    simp [B_law_deed, eN, dstart, dSeq, dRet, dAsg, dPar, dIfS, dDrop, dNext, dVar, dC, dOp, dTst, dAnd, dOr, dNot, dIf, dAndV, dOrV, dNotV, dChain, dNil, dCons, dTup, dLst, dCall, plains, dIsi, isaP, drI, drI0, drPlus, drIx, drEq, drNe, drIn, drNIn, drIsN, drNotN, drLen, drAll, drSum, drMin, drMax, drTuple, drList, drDict, drInt, drAbs, dIterL, dIterT, dRng1, dRng2, dEnum, Tgt.put, dLc, dLc2, dYes, dInW, dTail, dHead, dRev, dMerge, dNew, dCount, dFor, List.getElem?_cons_zero, List.getElem?_cons_succ, List.map, List.length, List.replicate, List.append, List.cons_append, List.nil_append, List.append_nil, List.set, Option.map, Nat.sub_self, ne_pt, ne_pi, ne_pa, ne_tp, ne_ti, ne_ta, ne_ip, ne_it, ne_ia, ne_ap, ne_at, ne_ai, ne_kt, ne_kp, ne_pk, ne_pu, ne_uk, ne_up, okd_int, okd_bl, okd_pairs, okd_takes, okd_tie, okd_ask, okd_know, okd_part, okd_turn, tkey_ii, eqv_int, eqv_str, atI_0, atI_1, atI_2, atI_3, atI_4, ci, eqv_bl, lay_ii, atI_5]
    refine ⟨k, rfl, by omega, by omega, fun r hr => ?_⟩
    dsimp only
    by_cases e : (k : Int) = 1
    · rw [if_pos e]
      refine ⟨6, rfl, by decide, fun a1 h1 => ⟨6, rfl, by decide, fun a2 h2 => ⟨6, rfl, by decide, fun a3 h3 => ?_⟩⟩⟩
      simp [dstart, dSeq, dRet, dAsg, dPar, dIfS, dDrop, dNext, dVar, dC, dOp, dTst, dAnd, dOr, dNot, dIf, dAndV, dOrV, dNotV, dChain, dNil, dCons, dTup, dLst, dCall, plains, dIsi, isaP, drI, drI0, drPlus, drIx, drEq, drNe, drIn, drNIn, drIsN, drNotN, drLen, drAll, drSum, drMin, drMax, drTuple, drList, drDict, drInt, drAbs, dIterL, dIterT, dRng1, dRng2, dEnum, Tgt.put, dLc, dLc2, dYes, dInW, dTail, dHead, dRev, dMerge, dNew, dCount, dFor, List.getElem?_cons_zero, List.getElem?_cons_succ, List.map, List.length, List.replicate, List.append, List.cons_append, List.nil_append, List.append_nil, List.set, Option.map, Nat.sub_self]
      refine ⟨by omega, _, rfl, by simp, by simp, fun p hp => ?_⟩
      have hb : ∃ a : List Bool, a.length = 6 ∧ p = eBits a := by
        simp only [List.mem_cons, List.not_mem_nil, or_false] at hp
        rcases hp with rfl | rfl | rfl | rfl | rfl | rfl | rfl | rfl | rfl | rfl
        · exact ⟨[false, false, true, true, true, true], rfl, rfl⟩
        · exact ⟨[false, false, false, true, true, false], rfl, rfl⟩
        · exact ⟨[true, false, false, true, true, true], rfl, rfl⟩
        · exact ⟨[false, false, true, true, true, false], rfl, rfl⟩
        · exact ⟨[true, true, true, false, false, false], rfl, rfl⟩
        · exact ⟨[false, false, false, true, true, true], rfl, rfl⟩
        · exact ⟨[false, true, false, false, true, false], rfl, rfl⟩
        · exact ⟨a1, h1, rfl⟩
        · exact ⟨a2, h2, rfl⟩
        · exact ⟨a3, h3, rfl⟩
      obtain ⟨a, ha, rfl⟩ := hb
      exact h (.pairs r a) ⟨hr, ha⟩
    rw [if_neg e]
    have k2 : k = 2 := by omega
    subst k2
    refine ⟨5, rfl, by decide, by decide, fun q hq => ?_⟩
    simp [eN, dstart, dSeq, dRet, dAsg, dPar, dIfS, dDrop, dNext, dVar, dC, dOp, dTst, dAnd, dOr, dNot, dIf, dAndV, dOrV, dNotV, dChain, dNil, dCons, dTup, dLst, dCall, plains, dIsi, isaP, drI, drI0, drPlus, drIx, drEq, drNe, drIn, drNIn, drIsN, drNotN, drLen, drAll, drSum, drMin, drMax, drTuple, drList, drDict, drInt, drAbs, dIterL, dIterT, dRng1, dRng2, dEnum, Tgt.put, dLc, dLc2, dYes, dInW, dTail, dHead, dRev, dMerge, dNew, dCount, dFor, List.getElem?_cons_zero, List.getElem?_cons_succ, List.map, List.length, List.replicate, List.append, List.cons_append, List.nil_append, List.append_nil, List.set, Option.map, Nat.sub_self]
    by_cases e2 : q < 2
    · have e2' : (q : Int) < 2 := by omega
      simp [e2, e2']
      refine ⟨6, rfl, by decide, fun a1 h1 => ⟨6, rfl, by decide, fun a2 h2 => ⟨6, rfl, by decide, fun a3 h3 => ?_⟩⟩⟩
      simp [dstart, dSeq, dRet, dAsg, dPar, dIfS, dDrop, dNext, dVar, dC, dOp, dTst, dAnd, dOr, dNot, dIf, dAndV, dOrV, dNotV, dChain, dNil, dCons, dTup, dLst, dCall, plains, dIsi, isaP, drI, drI0, drPlus, drIx, drEq, drNe, drIn, drNIn, drIsN, drNotN, drLen, drAll, drSum, drMin, drMax, drTuple, drList, drDict, drInt, drAbs, dIterL, dIterT, dRng1, dRng2, dEnum, Tgt.put, dLc, dLc2, dYes, dInW, dTail, dHead, dRev, dMerge, dNew, dCount, dFor, List.getElem?_cons_zero, List.getElem?_cons_succ, List.map, List.length, List.replicate, List.append, List.cons_append, List.nil_append, List.append_nil, List.set, Option.map, Nat.sub_self]
      refine ⟨by omega, _, rfl, by simp, by simp, fun p hp => ?_⟩
      have hb : ∃ a : List Bool, a.length = 6 ∧ p = eBits a := by
        simp only [List.mem_cons, List.not_mem_nil, or_false] at hp
        rcases hp with rfl | rfl | rfl | rfl | rfl | rfl | rfl | rfl | rfl | rfl
        · exact ⟨[false, false, true, true, true, true], rfl, rfl⟩
        · exact ⟨[false, false, false, true, true, false], rfl, rfl⟩
        · exact ⟨[true, false, false, true, true, true], rfl, rfl⟩
        · exact ⟨[false, false, true, true, true, false], rfl, rfl⟩
        · exact ⟨[true, true, true, false, false, false], rfl, rfl⟩
        · exact ⟨[false, false, false, true, true, true], rfl, rfl⟩
        · exact ⟨[false, true, false, false, true, false], rfl, rfl⟩
        · exact ⟨a1, h1, rfl⟩
        · exact ⟨a2, h2, rfl⟩
        · exact ⟨a3, h3, rfl⟩
      obtain ⟨a, ha, rfl⟩ := hb
      exact h (.pairs r a) ⟨hr, ha⟩
    have e2' : ¬ (q : Int) < 2 := by omega
    simp [e2, e2']
    refine ⟨by unfold inI; omega, ?_⟩
    rw [intD_eq]
    refine dGo_fm (fun i : Nat => dI (0 + (i : Nat))) (fun i => decide (i ≠ r)) (fun i => eN i) (List.range 2) [] _ (Nat.le_trans (by simp) big_line) (fun x hx acc R ha hR => ?_) ?_
    · simp [dStep, dwipe, eN, dstart, dSeq, dRet, dAsg, dPar, dIfS, dDrop, dNext, dVar, dC, dOp, dTst, dAnd, dOr, dNot, dIf, dAndV, dOrV, dNotV, dChain, dNil, dCons, dTup, dLst, dCall, plains, dIsi, isaP, drI, drI0, drPlus, drIx, drEq, drNe, drIn, drNIn, drIsN, drNotN, drLen, drAll, drSum, drMin, drMax, drTuple, drList, drDict, drInt, drAbs, dIterL, dIterT, dRng1, dRng2, dEnum, Tgt.put, dLc, dLc2, dYes, dInW, dTail, dHead, dRev, dMerge, dNew, dCount, dFor, List.getElem?_cons_zero, List.getElem?_cons_succ, List.map, List.length, List.replicate, List.append, List.cons_append, List.nil_append, List.append_nil, List.set, Option.map, Nat.sub_self, ne_pt, ne_pi, ne_pa, ne_tp, ne_ti, ne_ta, ne_ip, ne_it, ne_ia, ne_ap, ne_at, ne_ai, ne_kt, ne_kp, ne_pk, ne_pu, ne_uk, ne_up, okd_int, okd_bl, okd_pairs, okd_takes, okd_tie, okd_ask, okd_know, okd_part, okd_turn, tkey_ii, eqv_int, eqv_str, atI_0, atI_1, atI_2, atI_3, atI_4, ci, eqv_bl, lay_ii, atI_5] at hR ⊢
      by_cases z : x = r
      · simp [z] at hR ⊢
        exact hR
      · simp [z] at hR ⊢
        exact ⟨ha, hR⟩
    · have e : ([] ++ ((List.range 2).filter fun i => decide (i ≠ r)).map fun i => eN i) = [eN (1 - r)] := by
        have : r = 0 ∨ r = 1 := by omega
        rcases this with rfl | rfl <;> rfl
      rw [e]
      have hor : 1 - r < 2 := by omega
      have hro : r ≠ 1 - r := by omega
      refine ⟨_, rfl, by simp, by simp, fun p hp => ?_⟩
      simp at hp
      subst hp
      refine ⟨3, rfl, by decide, by decide, fun q3 hq3 => ?_⟩
      simp only [eN, dstart, dSeq, dRet, dAsg, dPar, dIfS, dDrop, dNext, dVar, dC, dOp, dTst, dAnd, dOr, dNot, dIf, dAndV, dOrV, dNotV, dChain, dNil, dCons, dTup, dLst, dCall, plains, dIsi, isaP, drI, drI0, drPlus, drIx, drEq, drNe, drIn, drNIn, drIsN, drNotN, drLen, drAll, drSum, drMin, drMax, drTuple, drList, drDict, drInt, drAbs, dIterL, dIterT, dRng1, dRng2, dEnum, Tgt.put, dLc, dLc2, dYes, dInW, dTail, dHead, dRev, dMerge, dNew, dCount, dFor, List.getElem?_cons_zero, List.getElem?_cons_succ, List.map, List.length, List.replicate, List.append, List.cons_append, List.nil_append, List.append_nil, List.set, Option.map, Nat.sub_self]
      by_cases e3 : 0 < q3
      · have e3' : 0 < (q3 : Int) := by omega
        simp [e3, e3']
        refine ⟨4, rfl, by decide, fun a1 h1 => ⟨4, rfl, by decide, fun a2 h2 => ?_⟩⟩
        simp [dstart, dSeq, dRet, dAsg, dPar, dIfS, dDrop, dNext, dVar, dC, dOp, dTst, dAnd, dOr, dNot, dIf, dAndV, dOrV, dNotV, dChain, dNil, dCons, dTup, dLst, dCall, plains, dIsi, isaP, drI, drI0, drPlus, drIx, drEq, drNe, drIn, drNIn, drIsN, drNotN, drLen, drAll, drSum, drMin, drMax, drTuple, drList, drDict, drInt, drAbs, dIterL, dIterT, dRng1, dRng2, dEnum, Tgt.put, dLc, dLc2, dYes, dInW, dTail, dHead, dRev, dMerge, dNew, dCount, dFor, List.getElem?_cons_zero, List.getElem?_cons_succ, List.map, List.length, List.replicate, List.append, List.cons_append, List.nil_append, List.append_nil, List.set, Option.map, Nat.sub_self]
        refine ⟨_, rfl, by simp, by simp, fun p hp => ?_⟩
        have hb : ∃ a : List Bool, a.length = 4 ∧ p = eBits a := by
          simp only [List.mem_cons, List.not_mem_nil, or_false] at hp
          rcases hp with rfl | rfl | rfl | rfl | rfl | rfl | rfl
          · exact ⟨[false, true, false, true], rfl, rfl⟩
          · exact ⟨[false, true, true, false], rfl, rfl⟩
          · exact ⟨[false, true, true, true], rfl, rfl⟩
          · exact ⟨[false, false, false, true], rfl, rfl⟩
          · exact ⟨[false, false, true, true], rfl, rfl⟩
          · exact ⟨a1, h1, rfl⟩
          · exact ⟨a2, h2, rfl⟩
        obtain ⟨a, ha, rfl⟩ := hb
        exact h (.takes r (1 - r) a) ⟨hr, hor, hro, ha⟩
      · have e3' : ¬ 0 < (q3 : Int) := by omega
        simp [e3, e3']
        refine ⟨_, rfl, by simp, by simp, fun p hp => ?_⟩
        have hb : ∃ w : Wd, p = .str w.nm := by
          simp only [List.mem_cons, List.not_mem_nil, or_false] at hp
          rcases hp with rfl | rfl | rfl
          · exact ⟨.know, rfl⟩
          · exact ⟨.part, rfl⟩
          · exact ⟨.turn, rfl⟩
        obtain ⟨w, rfl⟩ := hb
        exact h (.tie r (1 - r) w) ⟨hr, hor, hro⟩
end
end TW
namespace TW
open PySem PySem.Spec PyProof.Rows L2 FL
def T_law_items0 : DRs := fun ds Q => ∃ (k m : Nat), ds = [.cup, .d (eN k), .d (eN m), dI 0] ∧ (k = 1 ∨ k = 2) ∧ m ≤ 10 ∧ ∀ s : List Deed, (∀ d ∈ s, DeedOk k d) → s.length ≤ m → Q (.d (eDs s))
def T_law_items : DRs := fun ds Q => ∃ (k : Nat), ds = [.cup, .d (eN k), dI 2, dI 1] ∧ (k = 1 ∨ k = 2) ∧ ∀ s : List It1, (∀ d ∈ s, ItOk k d) → sizes s ≤ 6 → Q (.d (eScr s))
def T_law_count0 : DRs := fun ds Q => ∃ s : List Deed, ds = [.d (eDs s)] ∧ Q (.d (eN s.length))
def T_law_count : DRs := fun ds Q => ∃ s : List It1, ds = [.d (eScr s)] ∧ Q (.d (eN (sizes s)))
def T_law_script : DRs := T_law_items
def T_law_some_stock : DRs := fun ds Q => ∃ (k : Nat), ds = [.cup, .d (eN k)] ∧ (k = 1 ∨ k = 2) ∧ ∀ st, StOk k st → Q (.d (eSt st))
def B_law_items (R : DRs) : DTS := dSeq (dAsg (dTup (dNil)) (.nm 4)) (dSeq (dFor (dRng1 (dCall T_law_roll (dCons (dVar 0) (dCons (dOp drPlus (dVar 2) (dC (dI 1))) (dNil))))) (.nm 5) (dIfS (dAnd (dTst (dOp drGt (dVar 1) (dC (dI 1)))) (dAnd (dTst (dOp drGt (dVar 3) (dC (dI 0)))) (dTst (dOp drEq (dCall T_law_roll (dCons (dVar 0) (dCons (dC (dI 4)) (dNil)))) (dC (dI 0)))))) (dSeq (dAsg (dCall T_law_roll (dCons (dVar 0) (dCons (dVar 1) (dNil)))) (.nm 6)) (dSeq (dAsg (dCall T_law_some (dCons (dVar 0) (dCons (dLc (dRng1 (dVar 1)) (.nm 10) (dTst (dOp drNe (dVar 10) (dVar 6))) (dVar 10) [10]) (dNil)))) (.nm 7)) (dSeq (dPar 8 9 (dCall R (dCons (dVar 0) (dCons (dVar 1) (dCons (dOp drFdiv (dVar 2) (dC (dI 2))) (dCons (dOp drSub (dVar 3) (dC (dI 1))) (dNil)))))) (dCall R (dCons (dVar 0) (dCons (dVar 1) (dCons (dOp drFdiv (dVar 2) (dC (dI 2))) (dCons (dOp drSub (dVar 3) (dC (dI 1))) (dNil))))))) (dAsg (dOp drPlus (dVar 4) (dTup (dCons (dTup (dCons (dC (dS "ask")) (dCons (dVar 6) (dCons (dVar 7) (dCons (dVar 8) (dCons (dVar 9) (dNil))))))) (dNil)))) (.nm 4))))) (dAsg (dOp drPlus (dVar 4) (dTup (dCons (dCall T_law_deed (dCons (dVar 0) (dCons (dVar 1) (dNil)))) (dNil)))) (.nm 4)))) (dRet (dVar 4)))
theorem S_law_items : FnScope ["_law_cup_here", "_law_named", "_law_most", "_law_deep", "_law_found", "_law_turn", "_law_one", "_law_other", "_law_yes", "_law_no", "_law_person"] ["_law_cup_here", "_law_named", "_law_most", "_law_deep"] (defScope (top 56)) := ⟨rfl, rfl, rfl, by decide +kernel, rfl, by decide +kernel, by decide +kernel⟩
theorem D_law_items {P : Program} {w : World} {K : PySem.W.Frag} {mg : Str → Option Value} {base : Heap} (F : Fc K mg) {R : DRs} (o_law_roll : Ok P w K mg base "_law_roll" ["_law_cup_here", "_law_many"] 1 T_law_roll) (o_law_some : Ok P w K mg base "_law_some" ["_law_cup_here", "_law_things"] 2 T_law_some) (o_law_deed : Ok P w K mg base "_law_deed" ["_law_cup_here", "_law_named"] 3 T_law_deed) {k0 : Nat} (o_law_items : Ok P w K mg base "_law_items" ["_law_cup_here", "_law_named", "_law_most", "_law_deep"] k0 R) (hk : ∀ j, j = 0 ∨ j = 1 ∨ j = 2 ∨ j = 3 → j ≤ k0) {T : DRs} (hlen : ∀ ds Q, T ds Q → ds.length = 4) (hT : ∀ ds Q, T ds Q → B_law_items R { nx := fun _ => Q dN, rt := Q } (dstart ["_law_cup_here", "_law_named", "_law_most", "_law_deep", "_law_found", "_law_turn", "_law_one", "_law_other", "_law_yes", "_law_no", "_law_person"] ds)) : Ok P w K mg base "_law_items" ["_law_cup_here", "_law_named", "_law_most", "_law_deep"] (k0 + 1) T :=
  ok_fn F 37 (j := 56) rfl S_law_items T (B_law_items R) hlen hT (fun _ _ _ _ _ _ us hl => match us, hl with | [_, _, _, _], _ => rfl) fun f cdv A outer s H E hr => dss_cons (ds_set (i := 4) S_law_items.nd rfl (by first | exact .inl rfl | exact .inr rfl) (de_tup (da_nil))) (dss_cons (ds_for PassesOwn.never rfl (di_range1 rfl F.free_range (ok_call o_law_roll hr (hk _ (by decide)) rfl (da_cons (dv 0) (da_cons (de_bin od_plus (dv 2) (de_int)) (da_nil))))) (pg_nm (i := 5) S_law_items.nd rfl (by first | exact .inl rfl | exact .inr rfl)) (dss_one (ds_if (dt_w (dw_and (dt_cmp od_gt (dv 1) (de_int) (nomark _)) (dw_and (dt_cmp od_gt (dv 3) (de_int) (nomark _)) (dw_and1 (dt_cmp (od_eq hr.units) (ok_call o_law_roll hr (hk _ (by decide)) rfl (da_cons (dv 0) (da_cons (de_int) (da_nil)))) (de_int) (nomark _)))))) (dss_cons (ds_set (i := 6) S_law_items.nd rfl (by first | exact .inl rfl | exact .inr rfl) (ok_call o_law_roll hr (hk _ (by decide)) rfl (da_cons (dv 0) (da_cons (dv 1) (da_nil))))) (dss_cons (ds_set (i := 7) S_law_items.nd rfl (by first | exact .inl rfl | exact .inr rfl) (ok_call o_law_some hr (hk _ (by decide)) rfl (da_cons (dv 0) (da_cons (de_lc rfl S_law_items.nd (di_range1 rfl F.free_range (dv 1)) (own := [("_law_person", 10)]) (blkOk_by (by kernel_rfl)) (fun _ _ _ _ _ => pg_nm (i := 10) S_law_items.nd rfl (by first | exact .inl rfl | exact .inr rfl)) (fun _ _ _ _ _ => dts_one (dt_cmp (od_ne hr.units) (dv 10) (dv 6) (nomark _))) (fun _ _ _ _ _ => dv 10)) (da_nil))))) (dss_cons (ds_par (i := 8) (j := 9) rfl S_law_items.nd rfl rfl (by decide) rfl rfl (ok_call o_law_items hr (Nat.le_refl _) rfl (da_cons (dv 0) (da_cons (dv 1) (da_cons (de_bin od_fdiv (dv 2) (de_int)) (da_cons (de_bin od_sub (dv 3) (de_int)) (da_nil)))))) (ok_call o_law_items hr (Nat.le_refl _) rfl (da_cons (dv 0) (da_cons (dv 1) (da_cons (de_bin od_fdiv (dv 2) (de_int)) (da_cons (de_bin od_sub (dv 3) (de_int)) (da_nil)))))) rfl) (dss_one (ds_set (i := 4) S_law_items.nd rfl (by first | exact .inl rfl | exact .inr rfl) (de_bin od_plus (dv 4) (de_tup (da_cons (de_tup (da_cons (de_str) (da_cons (dv 6) (da_cons (dv 7) (da_cons (dv 8) (da_cons (dv 9) (da_nil))))))) (da_nil))))))))) (dss_one (ds_set (i := 4) S_law_items.nd rfl (by first | exact .inl rfl | exact .inr rfl) (de_bin od_plus (dv 4) (de_tup (da_cons (ok_call o_law_deed hr (hk _ (by decide)) rfl (da_cons (dv 0) (da_cons (dv 1) (da_nil)))) (da_nil))))))))) (dss_one (ds_ret (dv 4))))
def B_law_count (R : DRs) : DTS := dSeq (dAsg (dC (dI 0)) (.nm 1)) (dSeq (dFor (dIterT (dVar 0)) (.nm 2) (dAsg (dOp drPlus (dOp drPlus (dVar 1) (dC (dI 1))) (dIf (dTst (dOp drEq (dOp drIx (dVar 2) (dC (dI 0))) (dC (dS "ask")))) (dOp drPlus (dCall R (dCons (dOp drIx (dVar 2) (dC (dI 3))) (dNil))) (dCall R (dCons (dOp drIx (dVar 2) (dC (dI 4))) (dNil)))) (dC (dI 0)))) (.nm 1))) (dRet (dVar 1)))
theorem S_law_count : FnScope ["_law_script_here", "_law_found", "_law_item"] ["_law_script_here"] (defScope (top 57)) := ⟨rfl, rfl, rfl, by decide +kernel, rfl, by decide +kernel, by decide +kernel⟩
theorem D_law_count {P : Program} {w : World} {K : PySem.W.Frag} {mg : Str → Option Value} {base : Heap} (F : Fc K mg) {R : DRs}  {k0 : Nat} (o_law_count : Ok P w K mg base "_law_count" ["_law_script_here"] k0 R) (hk : ∀ j, j = 0 → j ≤ k0) {T : DRs} (hlen : ∀ ds Q, T ds Q → ds.length = 1) (hT : ∀ ds Q, T ds Q → B_law_count R { nx := fun _ => Q dN, rt := Q } (dstart ["_law_script_here", "_law_found", "_law_item"] ds)) : Ok P w K mg base "_law_count" ["_law_script_here"] (k0 + 1) T :=
  ok_fn F 38 (j := 57) rfl S_law_count T (B_law_count R) hlen hT (fun _ _ _ _ _ _ us hl => match us, hl with | [_], _ => rfl) fun f cdv A outer s H E hr => dss_cons (ds_set (i := 1) S_law_count.nd rfl (by first | exact .inl rfl | exact .inr rfl) (de_int)) (dss_cons (ds_for PassesOwn.never rfl (di_tup (dv 0)) (pg_nm (i := 2) S_law_count.nd rfl (by first | exact .inl rfl | exact .inr rfl)) (dss_one (ds_set (i := 1) S_law_count.nd rfl (by first | exact .inl rfl | exact .inr rfl) (de_bin od_plus (de_bin od_plus (dv 1) (de_int)) (de_if (dt_cmp (od_eq hr.units) (de_ix (xd_ix hr.units) (dv 2) (de_int) (fun _ _ => rfl)) (de_str) (nomark _)) (de_bin od_plus (ok_call o_law_count hr (Nat.le_refl _) rfl (da_cons (de_ix (xd_ix hr.units) (dv 2) (de_int) (fun _ _ => rfl)) (da_nil))) (ok_call o_law_count hr (Nat.le_refl _) rfl (da_cons (de_ix (xd_ix hr.units) (dv 2) (de_int) (fun _ _ => rfl)) (da_nil)))) (de_int)))))) (dss_one (ds_ret (dv 1))))
def B_law_script : DTS := dSeq (dAsg (dCall T_law_items (dCons (dVar 0) (dCons (dVar 1) (dCons (dVar 2) (dCons (dVar 3) (dNil)))))) (.nm 4)) (dSeq (dWhile (dTst (dOp drGt (dCall T_law_count (dCons (dVar 4) (dNil))) (dC (dI 30)))) (dNever)) (dRet (dVar 4)))
theorem S_law_script : FnScope ["_law_cup_here", "_law_named", "_law_most", "_law_deep", "_law_found"] ["_law_cup_here", "_law_named", "_law_most", "_law_deep"] (defScope (top 58)) := ⟨rfl, rfl, rfl, by decide +kernel, rfl, by decide +kernel, by decide +kernel⟩
theorem D_law_script {P : Program} {w : World} {K : PySem.W.Frag} {mg : Str → Option Value} {base : Heap} (F : Fc K mg) (o_law_items : Ok P w K mg base "_law_items" ["_law_cup_here", "_law_named", "_law_most", "_law_deep"] 5 T_law_items) (o_law_count : Ok P w K mg base "_law_count" ["_law_script_here"] 2 T_law_count) {T : DRs} (hlen : ∀ ds Q, T ds Q → ds.length = 4) (hT : ∀ ds Q, T ds Q → B_law_script { nx := fun _ => Q dN, rt := Q } (dstart ["_law_cup_here", "_law_named", "_law_most", "_law_deep", "_law_found"] ds)) : Ok P w K mg base "_law_script" ["_law_cup_here", "_law_named", "_law_most", "_law_deep"] (5 + 1) T :=
  ok_fn F 39 (j := 58) rfl S_law_script T (B_law_script) hlen hT (fun _ _ _ _ _ _ us hl => match us, hl with | [_, _, _, _], _ => rfl) fun f cdv A outer s H E hr => dss_cons (ds_set (i := 4) S_law_script.nd rfl (by first | exact .inl rfl | exact .inr rfl) (ok_call o_law_items hr (by decide) rfl (da_cons (dv 0) (da_cons (dv 1) (da_cons (dv 2) (da_cons (dv 3) (da_nil))))))) (dss_cons (ds_while PassesOwn.never (dt_cmp od_gt (ok_call o_law_count hr (by decide) rfl (da_cons (dv 4) (da_nil))) (de_int) (nomark _)) (dss_never)) (dss_one (ds_ret (dv 4))))
def B_law_some_stock : DTS := dSeq (dPar 2 3 (dTup (dCons (dC (dS "pairs")) (dCons (dC (dI 0)) (dCons (dCall T_law_some (dCons (dVar 0) (dCons (dLst (dCons (dTup (dCons (dC (dI 0)) (dCons (dC (dI 0)) (dCons (dC (dI 0)) (dCons (dC (dI 0)) (dCons (dC (dI 0)) (dCons (dC (dI 0)) (dNil)))))))) (dCons (dTup (dCons (dC (dI 1)) (dCons (dC (dI 1)) (dCons (dC (dI 1)) (dCons (dC (dI 1)) (dCons (dC (dI 1)) (dCons (dC (dI 1)) (dNil)))))))) (dCons (dTup (dCons (dC (dI 0)) (dCons (dC (dI 1)) (dCons (dC (dI 0)) (dCons (dC (dI 0)) (dCons (dC (dI 1)) (dCons (dC (dI 0)) (dNil)))))))) (dNil))))) (dNil)))) (dNil))))) (dTup (dCons (dC (dS "tie")) (dCons (dC (dI 0)) (dCons (dC (dI 1)) (dCons (dC (dS "part")) (dNil))))))) (dSeq (dIfS (dOr (dTst (dOp drEq (dVar 1) (dC (dI 1)))) (dTst (dOp drEq (dCall T_law_roll (dCons (dVar 0) (dCons (dC (dI 3)) (dNil)))) (dC (dI 0))))) (dRet (dCall drTuple (dCons (dLc (dRng1 (dOp drPlus (dC (dI 1)) (dCall T_law_roll (dCons (dVar 0) (dCons (dC (dI 2)) (dNil)))))) (.nm 5) (dYes) (dCall T_law_script (dCons (dVar 0) (dCons (dVar 1) (dCons (dC (dI 2)) (dCons (dC (dI 1)) (dNil)))))) [5]) (dNil)))) (dNext)) (dSeq (dAsg (dTup (dCons (dTup (dCons (dC (dS "takes")) (dCons (dC (dI 0)) (dCons (dC (dI 1)) (dCons (dCall T_law_some (dCons (dVar 0) (dCons (dLst (dCons (dTup (dCons (dC (dI 0)) (dCons (dC (dI 0)) (dCons (dC (dI 0)) (dCons (dC (dI 0)) (dNil)))))) (dCons (dTup (dCons (dC (dI 0)) (dCons (dC (dI 1)) (dCons (dC (dI 0)) (dCons (dC (dI 1)) (dNil)))))) (dCons (dTup (dCons (dC (dI 0)) (dCons (dC (dI 0)) (dCons (dC (dI 0)) (dCons (dC (dI 1)) (dNil)))))) (dNil))))) (dNil)))) (dNil)))))) (dNil))) (.nm 4)) (dRet (dCall T_law_some (dCons (dVar 0) (dCons (dLst (dCons (dTup (dCons (dOp drPlus (dVar 4) (dTup (dCons (dTup (dCons (dC (dS "takes")) (dCons (dC (dI 1)) (dCons (dC (dI 0)) (dCons (dTup (dCons (dC (dI 0)) (dCons (dC (dI 0)) (dCons (dC (dI 0)) (dCons (dC (dI 0)) (dNil)))))) (dNil)))))) (dCons (dVar 3) (dNil))))) (dCons (dTup (dCons (dVar 2) (dNil))) (dNil)))) (dCons (dTup (dCons (dVar 4) (dCons (dTup (dCons (dVar 2) (dCons (dVar 3) (dNil)))) (dNil)))) (dCons (dTup (dCons (dTup (dCons (dVar 2) (dNil))) (dCons (dTup (dCons (dTup (dCons (dC (dS "takes")) (dCons (dC (dI 1)) (dCons (dC (dI 0)) (dCons (dTup (dCons (dC (dI 1)) (dCons (dC (dI 1)) (dCons (dC (dI 1)) (dCons (dC (dI 1)) (dNil)))))) (dNil)))))) (dCons (dVar 3) (dNil)))) (dNil)))) (dNil))))) (dNil)))))))
theorem S_law_some_stock : FnScope ["_law_cup_here", "_law_named", "_law_zero", "_law_part_here", "_law_takes", "_law_turn"] ["_law_cup_here", "_law_named"] (defScope (top 67)) := ⟨rfl, rfl, rfl, by decide +kernel, rfl, by decide +kernel, by decide +kernel⟩
theorem D_law_some_stock {P : Program} {w : World} {K : PySem.W.Frag} {mg : Str → Option Value} {base : Heap} (F : Fc K mg) (o_law_some : Ok P w K mg base "_law_some" ["_law_cup_here", "_law_things"] 2 T_law_some) (o_law_roll : Ok P w K mg base "_law_roll" ["_law_cup_here", "_law_many"] 1 T_law_roll) (o_law_script : Ok P w K mg base "_law_script" ["_law_cup_here", "_law_named", "_law_most", "_law_deep"] 6 T_law_script) {T : DRs} (hlen : ∀ ds Q, T ds Q → ds.length = 2) (hT : ∀ ds Q, T ds Q → B_law_some_stock { nx := fun _ => Q dN, rt := Q } (dstart ["_law_cup_here", "_law_named", "_law_zero", "_law_part_here", "_law_takes", "_law_turn"] ds)) : Ok P w K mg base "_law_some_stock" ["_law_cup_here", "_law_named"] (6 + 1) T :=
  ok_fn F 45 (j := 67) rfl S_law_some_stock T (B_law_some_stock) hlen hT (fun _ _ _ _ _ _ us hl => match us, hl with | [_, _], _ => rfl) fun f cdv A outer s H E hr => dss_cons (ds_par (i := 2) (j := 3) rfl S_law_some_stock.nd rfl rfl (by decide) rfl rfl (de_tup (da_cons (de_str) (da_cons (de_int) (da_cons (ok_call o_law_some hr (by decide) rfl (da_cons (dv 0) (da_cons (de_lst (da_cons (de_tup (da_cons (de_int) (da_cons (de_int) (da_cons (de_int) (da_cons (de_int) (da_cons (de_int) (da_cons (de_int) (da_nil)))))))) (da_cons (de_tup (da_cons (de_int) (da_cons (de_int) (da_cons (de_int) (da_cons (de_int) (da_cons (de_int) (da_cons (de_int) (da_nil)))))))) (da_cons (de_tup (da_cons (de_int) (da_cons (de_int) (da_cons (de_int) (da_cons (de_int) (da_cons (de_int) (da_cons (de_int) (da_nil)))))))) (da_nil))))) (da_nil)))) (da_nil))))) (de_tup (da_cons (de_str) (da_cons (de_int) (da_cons (de_int) (da_cons (de_str) (da_nil)))))) rfl) (dss_cons (ds_if (dt_w (dw_or (dt_cmp (od_eq hr.units) (dv 1) (de_int) (nomark _)) (dw_or1 (dt_cmp (od_eq hr.units) (ok_call o_law_roll hr (by decide) rfl (da_cons (dv 0) (da_cons (de_int) (da_nil)))) (de_int) (nomark _))))) (dss_one (ds_ret (de_callTy cd_tuple rfl F.free_tuple boot_tuple (da_cons (de_lc rfl S_law_some_stock.nd (di_range1 rfl F.free_range (de_bin od_plus (de_int) (ok_call o_law_roll hr (by decide) rfl (da_cons (dv 0) (da_cons (de_int) (da_nil)))))) (own := [("_law_turn", 5)]) (blkOk_by (by kernel_rfl)) (fun _ _ _ _ _ => pg_nm (i := 5) S_law_some_stock.nd rfl (by first | exact .inl rfl | exact .inr rfl)) (fun _ _ _ _ _ => dts_nil) (fun _ _ _ _ _ => ok_call o_law_script hr (by decide) rfl (da_cons (dv 0) (da_cons (dv 1) (da_cons (de_int) (da_cons (de_int) (da_nil))))))) (da_nil))))) (dss_nil)) (dss_cons (ds_set (i := 4) S_law_some_stock.nd rfl (by first | exact .inl rfl | exact .inr rfl) (de_tup (da_cons (de_tup (da_cons (de_str) (da_cons (de_int) (da_cons (de_int) (da_cons (ok_call o_law_some hr (by decide) rfl (da_cons (dv 0) (da_cons (de_lst (da_cons (de_tup (da_cons (de_int) (da_cons (de_int) (da_cons (de_int) (da_cons (de_int) (da_nil)))))) (da_cons (de_tup (da_cons (de_int) (da_cons (de_int) (da_cons (de_int) (da_cons (de_int) (da_nil)))))) (da_cons (de_tup (da_cons (de_int) (da_cons (de_int) (da_cons (de_int) (da_cons (de_int) (da_nil)))))) (da_nil))))) (da_nil)))) (da_nil)))))) (da_nil)))) (dss_one (ds_ret (ok_call o_law_some hr (by decide) rfl (da_cons (dv 0) (da_cons (de_lst (da_cons (de_tup (da_cons (de_bin od_plus (dv 4) (de_tup (da_cons (de_tup (da_cons (de_str) (da_cons (de_int) (da_cons (de_int) (da_cons (de_tup (da_cons (de_int) (da_cons (de_int) (da_cons (de_int) (da_cons (de_int) (da_nil)))))) (da_nil)))))) (da_cons (dv 3) (da_nil))))) (da_cons (de_tup (da_cons (dv 2) (da_nil))) (da_nil)))) (da_cons (de_tup (da_cons (dv 4) (da_cons (de_tup (da_cons (dv 2) (da_cons (dv 3) (da_nil)))) (da_nil)))) (da_cons (de_tup (da_cons (de_tup (da_cons (dv 2) (da_nil))) (da_cons (de_tup (da_cons (de_tup (da_cons (de_str) (da_cons (de_int) (da_cons (de_int) (da_cons (de_tup (da_cons (de_int) (da_cons (de_int) (da_cons (de_int) (da_cons (de_int) (da_nil)))))) (da_nil)))))) (da_cons (dv 3) (da_nil)))) (da_nil)))) (da_nil))))) (da_nil))))))))
def Iit0 (k m : Nat) (r : List Nat) (δ : DEnv) : Prop := ∃ (s : List Deed) (x5 x6 x7 x8 x9 x10 : Option FL.D), δ = [some .cup, some (.d (eN k)), some (.d (eN m)), some (dI 0), some (.d (eDs s)), x5, x6, x7, x8, x9, x10] ∧ (∀ d ∈ s, DeedOk k d) ∧ s.length + r.length ≤ m
def Iit1 (k : Nat) (r : List Nat) (δ : DEnv) : Prop := ∃ (s : List It1) (x5 x6 x7 x8 x9 x10 : Option FL.D), δ = [some .cup, some (.d (eN k)), some (dI 2), some (dI 1), some (.d (eScr s)), x5, x6, x7, x8, x9, x10] ∧ (∀ d ∈ s, ItOk k d) ∧ sizes s + 3 * r.length ≤ 6
theorem eDs_snoc (s : List Deed) (d : Deed) : eDs (s ++ [d]) = .tuple (s.map eDeed ++ [eDeed d]) := by
  unfold eDs
  rw [List.map_append]
  rfl
theorem eScr_snoc (s : List It1) (d : It1) : eScr (s ++ [d]) = .tuple (s.map eIt ++ [eIt d]) := by
  unfold eScr
  rw [List.map_append]
  rfl
section
variable {P : Program} {w : World} {K : PySem.W.Frag} {mg : Str → Option Value} {base : Heap} (F : Fc K mg)
include F
theorem ok_law_items0 : Ok P w K mg base "_law_items" ["_law_cup_here", "_law_named", "_law_most", "_law_deep"] 4 T_law_items0 := by
  refine D_law_items F (k0 := 3) (ok_law_roll F) (ok_law_some F) (ok_law_deed F) (R := fun _ _ => False) (ok_none F 37 (j := 56) rfl (fun _ _ _ _ _ _ us hl => match us, hl with | [_, _, _, _], _ => rfl)) (by omega) (fun ds Q h => ?_) (fun ds Q h => ?_)
  · obtain ⟨c, d, rfl, _⟩ := h
    rfl
  · obtain ⟨k, m, rfl, hk, hm, h⟩ := h
    have hbig := big_line
    simp [B_law_items, eN, dstart, dSeq, dRet, dAsg, dPar, dIfS, dDrop, dNext, dVar, dC, dOp, dTst, dAnd, dOr, dNot, dIf, dAndV, dOrV, dNotV, dChain, dNil, dCons, dTup, dLst, dCall, plains, dIsi, isaP, drI, drI0, drPlus, drIx, drEq, drNe, drIn, drNIn, drIsN, drNotN, drLen, drAll, drSum, drMin, drMax, drTuple, drList, drDict, drInt, drAbs, dIterL, dIterT, dRng1, dRng2, dEnum, Tgt.put, dLc, dLc2, dYes, dInW, dTail, dHead, dRev, dMerge, dNew, dCount, dFor, List.getElem?_cons_zero, List.getElem?_cons_succ, List.map, List.length, List.replicate, List.append, List.cons_append, List.nil_append, List.append_nil, List.set, Option.map, Nat.sub_self, ne_pt, ne_pi, ne_pa, ne_tp, ne_ti, ne_ta, ne_ip, ne_it, ne_ia, ne_ap, ne_at, ne_ai, ne_kt, ne_kp, ne_pk, ne_pu, ne_uk, ne_up, okd_int, okd_bl, okd_pairs, okd_takes, okd_tie, okd_ask, okd_know, okd_part, okd_turn, tkey_ii, eqv_int, eqv_str, atI_0, atI_1, atI_2, atI_3, atI_4, ci, eqv_bl, lay_ii, atI_5]
    refine ⟨m + 1, rfl, by omega, by omega, fun r hr => ?_⟩
    simp [eN]
    refine ⟨by unfold inI; omega, ?_⟩
    rw [intD_eq]
    refine dLoop_inv (fun i : Nat => dI (0 + (i : Nat))) (Iit0 k m) (List.range r) _ ⟨[], _, _, _, _, _, _, rfl, by simp, by simp; omega⟩ ?_ ?_
    · rintro i r' _ _ ⟨s, x5, x6, x7, x8, x9, x10, rfl, hs, hl⟩ N hN
      rw [List.length_cons] at hl
      simp [eN, dstart, dSeq, dRet, dAsg, dPar, dIfS, dDrop, dNext, dVar, dC, dOp, dTst, dAnd, dOr, dNot, dIf, dAndV, dOrV, dNotV, dChain, dNil, dCons, dTup, dLst, dCall, plains, dIsi, isaP, drI, drI0, drPlus, drIx, drEq, drNe, drIn, drNIn, drIsN, drNotN, drLen, drAll, drSum, drMin, drMax, drTuple, drList, drDict, drInt, drAbs, dIterL, dIterT, dRng1, dRng2, dEnum, Tgt.put, dLc, dLc2, dYes, dInW, dTail, dHead, dRev, dMerge, dNew, dCount, dFor, List.getElem?_cons_zero, List.getElem?_cons_succ, List.map, List.length, List.replicate, List.append, List.cons_append, List.nil_append, List.append_nil, List.set, Option.map, Nat.sub_self, ne_pt, ne_pi, ne_pa, ne_tp, ne_ti, ne_ta, ne_ip, ne_it, ne_ia, ne_ap, ne_at, ne_ai, ne_kt, ne_kp, ne_pk, ne_pu, ne_uk, ne_up, okd_int, okd_bl, okd_pairs, okd_takes, okd_tie, okd_ask, okd_know, okd_part, okd_turn, tkey_ii, eqv_int, eqv_str, atI_0, atI_1, atI_2, atI_3, atI_4, ci, eqv_bl, lay_ii, atI_5]
      refine ⟨k, rfl, hk, fun d hd => ?_⟩
      have hN' := hN [some .cup, some (.d (eN k)), some (.d (eN m)), some (dI 0), some (.d (eDs (s ++ [d]))), some (dI i), x6, x7, x8, x9, x10] ⟨s ++ [d], _, _, _, _, _, _, rfl, fun e he => by
        rcases List.mem_append.mp he with z | z
        · exact hs e z
        · simp at z
          rw [z]
          exact hd, by simp; omega⟩
      rw [eDs_snoc] at hN'
      simp [eDs, dstart, dSeq, dRet, dAsg, dPar, dIfS, dDrop, dNext, dVar, dC, dOp, dTst, dAnd, dOr, dNot, dIf, dAndV, dOrV, dNotV, dChain, dNil, dCons, dTup, dLst, dCall, plains, dIsi, isaP, drI, drI0, drPlus, drIx, drEq, drNe, drIn, drNIn, drIsN, drNotN, drLen, drAll, drSum, drMin, drMax, drTuple, drList, drDict, drInt, drAbs, dIterL, dIterT, dRng1, dRng2, dEnum, Tgt.put, dLc, dLc2, dYes, dInW, dTail, dHead, dRev, dMerge, dNew, dCount, dFor, List.getElem?_cons_zero, List.getElem?_cons_succ, List.map, List.length, List.replicate, List.append, List.cons_append, List.nil_append, List.append_nil, List.set, Option.map, Nat.sub_self]
      exact ⟨by omega, hN'⟩
    · rintro _ ⟨s, x5, x6, x7, x8, x9, x10, rfl, hs, hl⟩
      exact h s hs (by simpa using hl)
theorem ok_law_items : Ok P w K mg base "_law_items" ["_law_cup_here", "_law_named", "_law_most", "_law_deep"] 5 T_law_items := by
  refine D_law_items F (k0 := 4) (ok_law_roll F) (ok_law_some F) (ok_law_deed F) (R := T_law_items0) (ok_law_items0 F) (by omega) (fun ds Q h => ?_) (fun ds Q h => ?_)
  · obtain ⟨c, rfl, _⟩ := h
    rfl
  · obtain ⟨k, rfl, hk, h⟩ := h
    have hbig := big_line
    simp [B_law_items, eN, dstart, dSeq, dRet, dAsg, dPar, dIfS, dDrop, dNext, dVar, dC, dOp, dTst, dAnd, dOr, dNot, dIf, dAndV, dOrV, dNotV, dChain, dNil, dCons, dTup, dLst, dCall, plains, dIsi, isaP, drI, drI0, drPlus, drIx, drEq, drNe, drIn, drNIn, drIsN, drNotN, drLen, drAll, drSum, drMin, drMax, drTuple, drList, drDict, drInt, drAbs, dIterL, dIterT, dRng1, dRng2, dEnum, Tgt.put, dLc, dLc2, dYes, dInW, dTail, dHead, dRev, dMerge, dNew, dCount, dFor, List.getElem?_cons_zero, List.getElem?_cons_succ, List.map, List.length, List.replicate, List.append, List.cons_append, List.nil_append, List.append_nil, List.set, Option.map, Nat.sub_self, ne_pt, ne_pi, ne_pa, ne_tp, ne_ti, ne_ta, ne_ip, ne_it, ne_ia, ne_ap, ne_at, ne_ai, ne_kt, ne_kp, ne_pk, ne_pu, ne_uk, ne_up, okd_int, okd_bl, okd_pairs, okd_takes, okd_tie, okd_ask, okd_know, okd_part, okd_turn, tkey_ii, eqv_int, eqv_str, atI_0, atI_1, atI_2, atI_3, atI_4, ci, eqv_bl, lay_ii, atI_5]
    refine ⟨3, rfl, by omega, by omega, fun r hr => ?_⟩
    simp [eN]
    refine ⟨by unfold inI; omega, ?_⟩
    rw [intD_eq]
    refine dLoop_inv (fun i : Nat => dI (0 + (i : Nat))) (Iit1 k) (List.range r) _ ⟨[], _, _, _, _, _, _, rfl, by simp, by simp [sizes]; omega⟩ ?_ ?_
    · rintro i r' _ _ ⟨s, x5, x6, x7, x8, x9, x10, rfl, hs, hl⟩ N hN
      rw [List.length_cons] at hl
      have hsl := length_sizes s
      have fin : ∀ (j : It1) (y5 y6 y7 y8 y9 y10 : Option FL.D), ItOk k j → j.siz ≤ 3 → s.length + 1 ≤ sizeLine ∧ N [some .cup, some (.d (.int k)), some (dI 2), some (dI 1), some (.d (.tuple (s.map eIt ++ [eIt j]))), y5, y6, y7, y8, y9, y10] := by
        intro j y5 y6 y7 y8 y9 y10 hj hz
        rw [← eScr_snoc]
        refine ⟨by omega, hN _ ⟨s ++ [j], _, _, _, _, _, _, rfl, fun e he => ?_, ?_⟩⟩
        · rcases List.mem_append.mp he with z | z
          · exact hs e z
          · simp at z
            rw [z]
            exact hj
        · rw [sizes_append, sizes_cons]
          have : sizes ([] : List It1) = 0 := rfl
          omega
      simp [eN, dstart, dSeq, dRet, dAsg, dPar, dIfS, dDrop, dNext, dVar, dC, dOp, dTst, dAnd, dOr, dNot, dIf, dAndV, dOrV, dNotV, dChain, dNil, dCons, dTup, dLst, dCall, plains, dIsi, isaP, drI, drI0, drPlus, drIx, drEq, drNe, drIn, drNIn, drIsN, drNotN, drLen, drAll, drSum, drMin, drMax, drTuple, drList, drDict, drInt, drAbs, dIterL, dIterT, dRng1, dRng2, dEnum, Tgt.put, dLc, dLc2, dYes, dInW, dTail, dHead, dRev, dMerge, dNew, dCount, dFor, List.getElem?_cons_zero, List.getElem?_cons_succ, List.map, List.length, List.replicate, List.append, List.cons_append, List.nil_append, List.append_nil, List.set, Option.map, Nat.sub_self, ne_pt, ne_pi, ne_pa, ne_tp, ne_ti, ne_ta, ne_ip, ne_it, ne_ia, ne_ap, ne_at, ne_ai, ne_kt, ne_kp, ne_pk, ne_pu, ne_uk, ne_up, okd_int, okd_bl, okd_pairs, okd_takes, okd_tie, okd_ask, okd_know, okd_part, okd_turn, tkey_ii, eqv_int, eqv_str, atI_0, atI_1, atI_2, atI_3, atI_4, ci, eqv_bl, lay_ii, atI_5]
      rcases hk with rfl | rfl
      · simp
        refine ⟨1, rfl, .inl rfl, fun d hd => ?_⟩
        have := fin (.deed d) (some (dI i)) x6 x7 x8 x9 x10 hd (by simp [It1.siz])
        simp [eScr, dstart, dSeq, dRet, dAsg, dPar, dIfS, dDrop, dNext, dVar, dC, dOp, dTst, dAnd, dOr, dNot, dIf, dAndV, dOrV, dNotV, dChain, dNil, dCons, dTup, dLst, dCall, plains, dIsi, isaP, drI, drI0, drPlus, drIx, drEq, drNe, drIn, drNIn, drIsN, drNotN, drLen, drAll, drSum, drMin, drMax, drTuple, drList, drDict, drInt, drAbs, dIterL, dIterT, dRng1, dRng2, dEnum, Tgt.put, dLc, dLc2, dYes, dInW, dTail, dHead, dRev, dMerge, dNew, dCount, dFor, List.getElem?_cons_zero, List.getElem?_cons_succ, List.map, List.length, List.replicate, List.append, List.cons_append, List.nil_append, List.append_nil, List.set, Option.map, Nat.sub_self]
        exact this
      · simp
        refine ⟨4, rfl, by decide, by decide, fun q hq => ?_⟩
        simp [eN, dstart, dSeq, dRet, dAsg, dPar, dIfS, dDrop, dNext, dVar, dC, dOp, dTst, dAnd, dOr, dNot, dIf, dAndV, dOrV, dNotV, dChain, dNil, dCons, dTup, dLst, dCall, plains, dIsi, isaP, drI, drI0, drPlus, drIx, drEq, drNe, drIn, drNIn, drIsN, drNotN, drLen, drAll, drSum, drMin, drMax, drTuple, drList, drDict, drInt, drAbs, dIterL, dIterT, dRng1, dRng2, dEnum, Tgt.put, dLc, dLc2, dYes, dInW, dTail, dHead, dRev, dMerge, dNew, dCount, dFor, List.getElem?_cons_zero, List.getElem?_cons_succ, List.map, List.length, List.replicate, List.append, List.cons_append, List.nil_append, List.append_nil, List.set, Option.map, Nat.sub_self, ne_pt, ne_pi, ne_pa, ne_tp, ne_ti, ne_ta, ne_ip, ne_it, ne_ia, ne_ap, ne_at, ne_ai, ne_kt, ne_kp, ne_pk, ne_pu, ne_uk, ne_up, okd_int, okd_bl, okd_pairs, okd_takes, okd_tie, okd_ask, okd_know, okd_part, okd_turn, tkey_ii, eqv_int, eqv_str, atI_0, atI_1, atI_2, atI_3, atI_4, ci, eqv_bl, lay_ii, atI_5]
        by_cases z : q = 0
        · simp [z]
          refine ⟨2, rfl, by decide, by decide, fun o ho => ?_⟩
          simp [eN]
          refine ⟨by unfold inI; omega, ?_⟩
          rw [intD_eq]
          refine dGo_fm (fun i : Nat => dI (0 + (i : Nat))) (fun i => decide (i ≠ o)) (fun i => eN i) (List.range 2) [] _ (Nat.le_trans (by simp) big_line) (fun x hx acc R ha hR => ?_) ?_
          · simp [dStep, dwipe, eN, dstart, dSeq, dRet, dAsg, dPar, dIfS, dDrop, dNext, dVar, dC, dOp, dTst, dAnd, dOr, dNot, dIf, dAndV, dOrV, dNotV, dChain, dNil, dCons, dTup, dLst, dCall, plains, dIsi, isaP, drI, drI0, drPlus, drIx, drEq, drNe, drIn, drNIn, drIsN, drNotN, drLen, drAll, drSum, drMin, drMax, drTuple, drList, drDict, drInt, drAbs, dIterL, dIterT, dRng1, dRng2, dEnum, Tgt.put, dLc, dLc2, dYes, dInW, dTail, dHead, dRev, dMerge, dNew, dCount, dFor, List.getElem?_cons_zero, List.getElem?_cons_succ, List.map, List.length, List.replicate, List.append, List.cons_append, List.nil_append, List.append_nil, List.set, Option.map, Nat.sub_self, ne_pt, ne_pi, ne_pa, ne_tp, ne_ti, ne_ta, ne_ip, ne_it, ne_ia, ne_ap, ne_at, ne_ai, ne_kt, ne_kp, ne_pk, ne_pu, ne_uk, ne_up, okd_int, okd_bl, okd_pairs, okd_takes, okd_tie, okd_ask, okd_know, okd_part, okd_turn, tkey_ii, eqv_int, eqv_str, atI_0, atI_1, atI_2, atI_3, atI_4, ci, eqv_bl, lay_ii, atI_5] at hR ⊢
            by_cases z : x = o
            · simp [z] at hR ⊢
              exact hR
            · simp [z] at hR ⊢
              exact ⟨ha, hR⟩
          · have e : ([] ++ ((List.range 2).filter fun i => decide (i ≠ o)).map fun i => eN i) = [eN (1 - o)] := by
              have : o = 0 ∨ o = 1 := by omega
              rcases this with rfl | rfl <;> rfl
            rw [e]
            have hor : 1 - o < 2 := by omega
            have hro : o ≠ 1 - o := by omega
            refine ⟨_, rfl, by simp, by simp, fun p hp => ?_⟩
            simp at hp
            subst hp
            refine ⟨⟨by decide, by decide⟩, 2, 1, by rfl, .inr rfl, by decide, fun ys hy hy1 => ?_⟩
            refine ⟨⟨by decide, by decide⟩, 2, 1, by rfl, .inr rfl, by decide, fun ns hn hn1 => ?_⟩
            have := fin (.ask o (1 - o) ys ns) (some (dI i)) (some (.d (eN o))) (some (.d (eN (1 - o)))) (some (.d (eDs ys))) (some (.d (eDs ns))) x10 ⟨ho, hor, hro, hy, hn⟩ (by simp [It1.siz]; omega)
            simp [eScr, eN, dstart, dSeq, dRet, dAsg, dPar, dIfS, dDrop, dNext, dVar, dC, dOp, dTst, dAnd, dOr, dNot, dIf, dAndV, dOrV, dNotV, dChain, dNil, dCons, dTup, dLst, dCall, plains, dIsi, isaP, drI, drI0, drPlus, drIx, drEq, drNe, drIn, drNIn, drIsN, drNotN, drLen, drAll, drSum, drMin, drMax, drTuple, drList, drDict, drInt, drAbs, dIterL, dIterT, dRng1, dRng2, dEnum, Tgt.put, dLc, dLc2, dYes, dInW, dTail, dHead, dRev, dMerge, dNew, dCount, dFor, List.getElem?_cons_zero, List.getElem?_cons_succ, List.map, List.length, List.replicate, List.append, List.cons_append, List.nil_append, List.append_nil, List.set, Option.map, Nat.sub_self]
            exact this
        · have z' : ¬ (q : Int) = 0 := by omega
          simp [z, z']
          refine ⟨2, rfl, .inr rfl, fun d hd => ?_⟩
          have := fin (.deed d) (some (dI i)) x6 x7 x8 x9 x10 hd (by simp [It1.siz])
          simp [eScr, dstart, dSeq, dRet, dAsg, dPar, dIfS, dDrop, dNext, dVar, dC, dOp, dTst, dAnd, dOr, dNot, dIf, dAndV, dOrV, dNotV, dChain, dNil, dCons, dTup, dLst, dCall, plains, dIsi, isaP, drI, drI0, drPlus, drIx, drEq, drNe, drIn, drNIn, drIsN, drNotN, drLen, drAll, drSum, drMin, drMax, drTuple, drList, drDict, drInt, drAbs, dIterL, dIterT, dRng1, dRng2, dEnum, Tgt.put, dLc, dLc2, dYes, dInW, dTail, dHead, dRev, dMerge, dNew, dCount, dFor, List.getElem?_cons_zero, List.getElem?_cons_succ, List.map, List.length, List.replicate, List.append, List.cons_append, List.nil_append, List.append_nil, List.set, Option.map, Nat.sub_self]
          exact this
    · rintro _ ⟨s, x5, x6, x7, x8, x9, x10, rfl, hs, hl⟩
      exact h s hs (by simpa using hl)
end
end TW
namespace TW
open PySem PySem.Spec PyProof.Rows L2 FL
/-! ### written displays -/
def Ev (T : DT) (δ : DEnv) (d : FL.D) : Prop := ∀ Q : FL.D → Prop, Q d → T δ Q
def EvP (T : DTA) (δ : DEnv) (ps : List PyData) : Prop := ∀ Q : List FL.D → Prop, Q (ps.map FL.D.d) → T δ Q
theorem plains_map : ∀ ps : List PyData, plains (ps.map FL.D.d) = some ps
  | [] => rfl
  | p :: ps => by
    rw [List.map_cons]
    unfold plains
    rw [plains_map ps]
    rfl
theorem ev_c {δ : DEnv} {d : FL.D} : Ev (dC d) δ d := fun _ q => q
theorem ev_var {δ : DEnv} {i : Nat} {d : FL.D} (h : δ[i]? = some (some d)) : Ev (dVar i) δ d := fun _ q => by
  unfold dVar
  rw [h]
  exact q
theorem ev_tup {δ : DEnv} {t : DTA} {ps : List PyData} (h : EvP t δ ps) : Ev (dTup t) δ (.d (.tuple ps)) := fun Q q => h _ (by
  rw [plains_map]
  exact q)
theorem ev_lst {δ : DEnv} {t : DTA} {ps : List PyData} (h : EvP t δ ps) : Ev (dLst t) δ (.d (.list ps)) := fun Q q => h _ (by
  rw [plains_map]
  exact q)
theorem ev_plusT {δ : DEnv} {a b : DT} {ps qs : List PyData} (ha : Ev a δ (.d (.tuple ps))) (hb : Ev b δ (.d (.tuple qs))) (hl : ps.length + qs.length ≤ sizeLine) : Ev (dOp drPlus a b) δ (.d (.tuple (ps ++ qs))) := fun Q q => ha _ (hb _ ⟨hl, q⟩)
theorem evp_nil {δ : DEnv} : EvP dNil δ [] := fun _ q => q
theorem evp_cons {δ : DEnv} {a : DT} {t : DTA} {p : PyData} {ps : List PyData} (h : Ev a δ (.d p)) (r : EvP t δ ps) : EvP (dCons a t) δ (p :: ps) := fun Q q => h _ (r _ q)
theorem next_seq {t u : DTS} {E : DEnds} {a c : DEnv → Prop} {b : FL.D → Prop} {δ : DEnv} (h : t { E with nx := u E } δ) : dNext { nx := dSeq t u E, rt := b, bk := a, ct := c } δ := h
theorem asg_go {T : DT} {t : Tgt} {E : DEnds} {δ : DEnv} (h : T δ fun d => t.put d δ E.nx) : dAsg T t E δ := h
theorem ret_go {T : DT} {E : DEnds} {δ : DEnv} (h : T δ E.rt) : dRet T E δ := h
theorem put_ret {i : Nat} {d : FL.D} {δ : DEnv} {T : DT} {E : DEnds} {a c : DEnv → Prop} {b : FL.D → Prop} (h : T (δ.set i (some d)) E.rt) : (Tgt.nm i).put d δ ({ nx := dRet T E, rt := b, bk := a, ct := c } : DEnds).nx := h
theorem put_go {i : Nat} {d : FL.D} {δ : DEnv} {Q : DEnv → Prop} (h : Q (δ.set i (some d))) : (Tgt.nm i).put d δ Q := h
def EvG (T : DT) (δ : DEnv) (G : PyData → Prop) : Prop := ∀ Q : FL.D → Prop, (∀ p, G p → Q (.d p)) → T δ Q
def EgP (T : DTA) (δ : DEnv) (G : List PyData → Prop) : Prop := ∀ Q : List FL.D → Prop, (∀ ps, G ps → Q (ps.map FL.D.d)) → T δ Q
theorem eg_c {δ : DEnv} {p : PyData} : EvG (dC (.d p)) δ (fun q => q = p) := fun _ q => q _ rfl
theorem eg_var {δ : DEnv} {i : Nat} {p : PyData} (h : δ[i]? = some (some (.d p))) : EvG (dVar i) δ (fun q => q = p) := fun _ q => by
  unfold dVar
  rw [h]
  exact q _ rfl
theorem eg_tup {δ : DEnv} {t : DTA} {G : List PyData → Prop} (h : EgP t δ G) : EvG (dTup t) δ (fun q => ∃ ps, q = .tuple ps ∧ G ps) := fun Q q => h _ fun ps g => by
  rw [plains_map]
  exact q _ ⟨ps, rfl, g⟩
theorem egp_nil {δ : DEnv} : EgP dNil δ (fun l => l = []) := fun _ q => q [] rfl
theorem egp_cons {δ : DEnv} {a : DT} {t : DTA} {G : PyData → Prop} {G2 : List PyData → Prop} (h : EvG a δ G) (r : EgP t δ G2) : EgP (dCons a t) δ (fun l => ∃ p ps, l = p :: ps ∧ G p ∧ G2 ps) :=
  fun Q q => h _ fun p g => r _ fun ps g2 => q (p :: ps) ⟨p, ps, rfl, g, g2⟩
theorem eg_some {δ : DEnv} {i : Nat} {L : DT} {ps : List PyData} (hc : δ[i]? = some (some .cup)) (hl : Ev L δ (.d (.list ps))) (h1 : ps ≠ []) (h2 : ps.length ≤ 1000) : EvG (dCall T_law_some (dCons (dVar i) (dCons L dNil))) δ (fun p => p ∈ ps) := fun Q q => by
  show dVar i δ _
  unfold dVar
  rw [hc]
  exact hl _ ⟨ps, rfl, h1, h2, q⟩
theorem some_go {δ : DEnv} {i : Nat} {L : DT} {ps : List PyData} {Q : FL.D → Prop} (hc : δ[i]? = some (some .cup)) (hl : Ev L δ (.d (.list ps))) (h1 : ps ≠ []) (h2 : ps.length ≤ 1000) (h : ∀ p ∈ ps, Q (.d p)) : dCall T_law_some (dCons (dVar i) (dCons L dNil)) δ Q := eg_some hc hl h1 h2 Q h
theorem tst_ev {δ : DEnv} {T : DT} {b : Bool} {Q : Bool → Prop} (h : Ev T δ (dB b)) (q : Q b) : dTst T δ Q := h _ q
theorem ev_eq {δ : DEnv} {a b : DT} {p q : PyData} (ha : Ev a δ (.d p)) (hb : Ev b δ (.d q)) (hp : okd p) (hq : okd q) : Ev (dOp drEq a b) δ (dB (PyData.eqv p q)) := fun Q z => ha _ (hb _ ⟨hp, hq, z⟩)
theorem tst_roll {δ : DEnv} {i : Nat} {m : Nat} {j : Int} {T : DT} {Q : Bool → Prop} (hc : δ[i]? = some (some .cup)) (hT : Ev T δ (.d (eN m))) (h1 : 1 ≤ m) (h2 : m ≤ 1000) (q : ∀ b, Q b) : dTst (dOp drEq (dCall T_law_roll (dCons (dVar i) (dCons T dNil))) (dC (dI j))) δ Q := by
  show dVar i δ _
  unfold dVar
  rw [hc]
  refine hT _ ⟨m, rfl, h1, h2, fun r _ => ?_⟩
  exact ⟨(sh_int _ (k := 0)).okd, (sh_int _ (k := 0)).okd, q _⟩
def forgets : List (List It1) := [[.deed (.takes 0 1 [false, false, false, false])], [.deed (.takes 1 0 [false, false, false, false]), .deed (.tie 0 1 .part)], [.deed (.pairs 0 [false, false, false, false, false, false])]]
def T_law_forgets : DRs := fun ds Q => ds = [] ∧ Q (.d (eSt forgets))
def B_law_forgets : DTS := dSeq (dAsg (dTup (dCons (dTup (dCons (dC (dS "takes")) (dCons (dC (dI 0)) (dCons (dC (dI 1)) (dCons (dTup (dCons (dC (dI 0)) (dCons (dC (dI 0)) (dCons (dC (dI 0)) (dCons (dC (dI 0)) (dNil)))))) (dNil)))))) (dNil))) (.nm 0)) (dRet (dTup (dCons (dVar 0) (dCons (dTup (dCons (dTup (dCons (dC (dS "takes")) (dCons (dC (dI 1)) (dCons (dC (dI 0)) (dCons (dTup (dCons (dC (dI 0)) (dCons (dC (dI 0)) (dCons (dC (dI 0)) (dCons (dC (dI 0)) (dNil)))))) (dNil)))))) (dCons (dTup (dCons (dC (dS "tie")) (dCons (dC (dI 0)) (dCons (dC (dI 1)) (dCons (dC (dS "part")) (dNil)))))) (dNil)))) (dCons (dTup (dCons (dTup (dCons (dC (dS "pairs")) (dCons (dC (dI 0)) (dCons (dTup (dCons (dC (dI 0)) (dCons (dC (dI 0)) (dCons (dC (dI 0)) (dCons (dC (dI 0)) (dCons (dC (dI 0)) (dCons (dC (dI 0)) (dNil)))))))) (dNil))))) (dNil))) (dNil))))))
theorem S_law_forgets : FnScope ["_law_first"] [] (defScope (top 68)) := ⟨rfl, rfl, rfl, by decide +kernel, rfl, by decide +kernel, by decide +kernel⟩
theorem D_law_forgets {P : Program} {w : World} {K : PySem.W.Frag} {mg : Str → Option Value} {base : Heap} (F : Fc K mg)  {T : DRs} (hlen : ∀ ds Q, T ds Q → ds.length = 0) (hT : ∀ ds Q, T ds Q → B_law_forgets { nx := fun _ => Q dN, rt := Q } (dstart ["_law_first"] ds)) : Ok P w K mg base "_law_forgets" [] (0 + 1) T :=
  ok_fn F 46 (j := 68) rfl S_law_forgets T (B_law_forgets) hlen hT (fun _ _ _ _ _ _ us hl => match us, hl with | [], _ => rfl) fun f cdv A outer s H E hr => dss_cons (ds_set (i := 0) S_law_forgets.nd rfl (by first | exact .inl rfl | exact .inr rfl) (de_tup (da_cons (de_tup (da_cons (de_str) (da_cons (de_int) (da_cons (de_int) (da_cons (de_tup (da_cons (de_int) (da_cons (de_int) (da_cons (de_int) (da_cons (de_int) (da_nil)))))) (da_nil)))))) (da_nil)))) (dss_one (ds_ret (de_tup (da_cons (dv 0) (da_cons (de_tup (da_cons (de_tup (da_cons (de_str) (da_cons (de_int) (da_cons (de_int) (da_cons (de_tup (da_cons (de_int) (da_cons (de_int) (da_cons (de_int) (da_cons (de_int) (da_nil)))))) (da_nil)))))) (da_cons (de_tup (da_cons (de_str) (da_cons (de_int) (da_cons (de_int) (da_cons (de_str) (da_nil)))))) (da_nil)))) (da_cons (de_tup (da_cons (de_tup (da_cons (de_str) (da_cons (de_int) (da_cons (de_tup (da_cons (de_int) (da_cons (de_int) (da_cons (de_int) (da_cons (de_int) (da_cons (de_int) (da_cons (de_int) (da_nil)))))))) (da_nil))))) (da_nil))) (da_nil)))))))
theorem scr_of {G : List It1 → Prop} : ∀ {ps : List PyData}, (∀ p ∈ ps, ∃ s : List It1, G s ∧ p = eScr s) → ∃ st : List (List It1), ps = st.map eScr ∧ (∀ s ∈ st, G s) ∧ st.length = ps.length
  | [], _ => ⟨[], rfl, by simp, rfl⟩
  | p :: ps, h => by
    obtain ⟨s, hs, e⟩ := h p List.mem_cons_self
    obtain ⟨st, h1, h2, h3⟩ := scr_of fun q hq => h q (List.mem_cons_of_mem _ hq)
    refine ⟨s :: st, by rw [e, h1]; rfl, fun u hu => ?_, by rw [List.length_cons, List.length_cons, h3]⟩
    rcases List.mem_cons.mp hu with z | z
    · rw [z]; exact hs
    · exact h2 u z
theorem st_ret {k : Nat} {z2 z3 : Option FL.D} {Q : FL.D → Prop} (hk : k = 1 ∨ k = 2) (h : ∀ st, StOk k st → Q (.d (eSt st))) :
    dCall drTuple (dCons (dLc (dRng1 (dOp drPlus (dC (dI 1)) (dCall T_law_roll (dCons (dVar 0) (dCons (dC (dI 2)) dNil))))) (.nm 5) dYes (dCall T_law_script (dCons (dVar 0) (dCons (dVar 1) (dCons (dC (dI 2)) (dCons (dC (dI 1)) dNil))))) [5]) dNil) [some .cup, some (.d (eN k)), z2, z3, none, none] Q := by
  have hbig := big_line
  simp [eN, dstart, dSeq, dRet, dAsg, dPar, dIfS, dDrop, dNext, dVar, dC, dOp, dTst, dAnd, dOr, dNot, dIf, dAndV, dOrV, dNotV, dChain, dNil, dCons, dTup, dLst, dCall, plains, dIsi, isaP, drI, drI0, drPlus, drIx, drEq, drNe, drIn, drNIn, drIsN, drNotN, drLen, drAll, drSum, drMin, drMax, drTuple, drList, drDict, drInt, drAbs, dIterL, dIterT, dRng1, dRng2, dEnum, Tgt.put, dLc, dLc2, dYes, dInW, dTail, dHead, dRev, dMerge, dNew, dCount, dFor, List.getElem?_cons_zero, List.getElem?_cons_succ, List.map, List.length, List.replicate, List.append, List.cons_append, List.nil_append, List.append_nil, List.set, Option.map, Nat.sub_self, ne_pt, ne_pi, ne_pa, ne_tp, ne_ti, ne_ta, ne_ip, ne_it, ne_ia, ne_ap, ne_at, ne_ai, ne_kt, ne_kp, ne_pk, ne_pu, ne_uk, ne_up, okd_int, okd_bl, okd_pairs, okd_takes, okd_tie, okd_ask, okd_know, okd_part, okd_turn, tkey_ii, eqv_int, eqv_str, atI_0, atI_1, atI_2, atI_3, atI_4, ci, eqv_bl, lay_ii, atI_5]
  refine ⟨2, rfl, by decide, by decide, fun q hq => ?_⟩
  simp [eN]
  refine ⟨by unfold inI; omega, ?_⟩
  rw [intD_eq]
  refine dGo_any (fun i : Nat => dI (0 + (i : Nat))) (fun p => ∃ s : List It1, ((∀ i ∈ s, ItOk k i) ∧ sizes s ≤ 30) ∧ p = eScr s) (List.range (1 + (q : Int)).toNat) [] _ (by simp; omega) (fun x hx acc R ha hR => ?_) (fun ps hl hp => ?_)
  · simp [dStep, dwipe, dstart, dSeq, dRet, dAsg, dPar, dIfS, dDrop, dNext, dVar, dC, dOp, dTst, dAnd, dOr, dNot, dIf, dAndV, dOrV, dNotV, dChain, dNil, dCons, dTup, dLst, dCall, plains, dIsi, isaP, drI, drI0, drPlus, drIx, drEq, drNe, drIn, drNIn, drIsN, drNotN, drLen, drAll, drSum, drMin, drMax, drTuple, drList, drDict, drInt, drAbs, dIterL, dIterT, dRng1, dRng2, dEnum, Tgt.put, dLc, dLc2, dYes, dInW, dTail, dHead, dRev, dMerge, dNew, dCount, dFor, List.getElem?_cons_zero, List.getElem?_cons_succ, List.map, List.length, List.replicate, List.append, List.cons_append, List.nil_append, List.append_nil, List.set, Option.map, Nat.sub_self, ne_pt, ne_pi, ne_pa, ne_tp, ne_ti, ne_ta, ne_ip, ne_it, ne_ia, ne_ap, ne_at, ne_ai, ne_kt, ne_kp, ne_pk, ne_pu, ne_uk, ne_up, okd_int, okd_bl, okd_pairs, okd_takes, okd_tie, okd_ask, okd_know, okd_part, okd_turn, tkey_ii, eqv_int, eqv_str, atI_0, atI_1, atI_2, atI_3, atI_4, ci, eqv_bl, lay_ii, atI_5]
    exact ⟨k, rfl, hk, fun s hs hz => ⟨ha, hR _ ⟨s, ⟨hs, by omega⟩, rfl⟩⟩⟩
  · obtain ⟨st, e1, e2, e3⟩ := scr_of hp
    rw [List.nil_append, e1]
    exact h st ⟨by rw [e3, hl]; simp; omega, by rw [e3, hl]; simp; omega, e2⟩
def Ict0 (s : List Deed) (r : List Deed) (δ : DEnv) : Prop := ∃ (c : Nat) (x : Option FL.D), δ = [some (.d (eDs s)), some (.d (eN c)), x] ∧ c + r.length = s.length
def Ict1 (s : List It1) (r : List It1) (δ : DEnv) : Prop := ∃ (c : Nat) (x : Option FL.D), δ = [some (.d (eScr s)), some (.d (eN c)), x] ∧ c + sizes r = sizes s
def Wsc (k : Nat) (s : List It1) (m : Nat) (δ : DEnv) : Prop := δ = [some .cup, some (.d (eN k)), some (dI 2), some (dI 1), some (.d (eScr s))]
section
variable {P : Program} {w : World} {K : PySem.W.Frag} {mg : Str → Option Value} {base : Heap} (F : Fc K mg)
include F
theorem ok_law_count0 : Ok P w K mg base "_law_count" ["_law_script_here"] 1 T_law_count0 := by
  refine D_law_count F (k0 := 0) (R := fun _ _ => False) (ok_none F 38 (j := 57) rfl (fun _ _ _ _ _ _ us hl => match us, hl with | [_], _ => rfl)) (by omega) (fun ds Q h => ?_) (fun ds Q h => ?_)
  · obtain ⟨c, rfl, _⟩ := h
    rfl
  · obtain ⟨s, rfl, h⟩ := h
    simp [B_law_count, eDs, dstart, dSeq, dRet, dAsg, dPar, dIfS, dDrop, dNext, dVar, dC, dOp, dTst, dAnd, dOr, dNot, dIf, dAndV, dOrV, dNotV, dChain, dNil, dCons, dTup, dLst, dCall, plains, dIsi, isaP, drI, drI0, drPlus, drIx, drEq, drNe, drIn, drNIn, drIsN, drNotN, drLen, drAll, drSum, drMin, drMax, drTuple, drList, drDict, drInt, drAbs, dIterL, dIterT, dRng1, dRng2, dEnum, Tgt.put, dLc, dLc2, dYes, dInW, dTail, dHead, dRev, dMerge, dNew, dCount, dFor, List.getElem?_cons_zero, List.getElem?_cons_succ, List.map, List.length, List.replicate, List.append, List.cons_append, List.nil_append, List.append_nil, List.set, Option.map, Nat.sub_self, ne_pt, ne_pi, ne_pa, ne_tp, ne_ti, ne_ta, ne_ip, ne_it, ne_ia, ne_ap, ne_at, ne_ai, ne_kt, ne_kp, ne_pk, ne_pu, ne_uk, ne_up, okd_int, okd_bl, okd_pairs, okd_takes, okd_tie, okd_ask, okd_know, okd_part, okd_turn, tkey_ii, eqv_int, eqv_str, atI_0, atI_1, atI_2, atI_3, atI_4, ci, eqv_bl, lay_ii, atI_5]
    refine dLoop_inv (fun d : Deed => .d (eDeed d)) (Ict0 s) s _ ⟨0, none, rfl, by simp⟩ ?_ ?_
    · rintro d r _ _ ⟨c, x, rfl, hc⟩ N hN
      obtain ⟨x0, r0, e0, ok0, ne0⟩ := deed_head d
      simp [e0, ok0, ne0, eN, dstart, dSeq, dRet, dAsg, dPar, dIfS, dDrop, dNext, dVar, dC, dOp, dTst, dAnd, dOr, dNot, dIf, dAndV, dOrV, dNotV, dChain, dNil, dCons, dTup, dLst, dCall, plains, dIsi, isaP, drI, drI0, drPlus, drIx, drEq, drNe, drIn, drNIn, drIsN, drNotN, drLen, drAll, drSum, drMin, drMax, drTuple, drList, drDict, drInt, drAbs, dIterL, dIterT, dRng1, dRng2, dEnum, Tgt.put, dLc, dLc2, dYes, dInW, dTail, dHead, dRev, dMerge, dNew, dCount, dFor, List.getElem?_cons_zero, List.getElem?_cons_succ, List.map, List.length, List.replicate, List.append, List.cons_append, List.nil_append, List.append_nil, List.set, Option.map, Nat.sub_self, ne_pt, ne_pi, ne_pa, ne_tp, ne_ti, ne_ta, ne_ip, ne_it, ne_ia, ne_ap, ne_at, ne_ai, ne_kt, ne_kp, ne_pk, ne_pu, ne_uk, ne_up, okd_int, okd_bl, okd_pairs, okd_takes, okd_tie, okd_ask, okd_know, okd_part, okd_turn, tkey_ii, eqv_int, eqv_str, atI_0, atI_1, atI_2, atI_3, atI_4, ci, eqv_bl, lay_ii, atI_5]
      rw [← e0]
      refine hN _ ⟨c + 1, some (.d (eDeed d)), by simp [eN], by simp at hc ⊢; omega⟩
    · rintro _ ⟨c, x, rfl, hc⟩
      have : c = s.length := by simpa using hc
      rw [this]
      exact h
theorem ok_law_count : Ok P w K mg base "_law_count" ["_law_script_here"] 2 T_law_count := by
  refine D_law_count F (k0 := 1) (R := T_law_count0) (ok_law_count0 F) (by omega) (fun ds Q h => ?_) (fun ds Q h => ?_)
  · obtain ⟨c, rfl, _⟩ := h
    rfl
  · obtain ⟨s, rfl, h⟩ := h
    simp [B_law_count, eScr, dstart, dSeq, dRet, dAsg, dPar, dIfS, dDrop, dNext, dVar, dC, dOp, dTst, dAnd, dOr, dNot, dIf, dAndV, dOrV, dNotV, dChain, dNil, dCons, dTup, dLst, dCall, plains, dIsi, isaP, drI, drI0, drPlus, drIx, drEq, drNe, drIn, drNIn, drIsN, drNotN, drLen, drAll, drSum, drMin, drMax, drTuple, drList, drDict, drInt, drAbs, dIterL, dIterT, dRng1, dRng2, dEnum, Tgt.put, dLc, dLc2, dYes, dInW, dTail, dHead, dRev, dMerge, dNew, dCount, dFor, List.getElem?_cons_zero, List.getElem?_cons_succ, List.map, List.length, List.replicate, List.append, List.cons_append, List.nil_append, List.append_nil, List.set, Option.map, Nat.sub_self, ne_pt, ne_pi, ne_pa, ne_tp, ne_ti, ne_ta, ne_ip, ne_it, ne_ia, ne_ap, ne_at, ne_ai, ne_kt, ne_kp, ne_pk, ne_pu, ne_uk, ne_up, okd_int, okd_bl, okd_pairs, okd_takes, okd_tie, okd_ask, okd_know, okd_part, okd_turn, tkey_ii, eqv_int, eqv_str, atI_0, atI_1, atI_2, atI_3, atI_4, ci, eqv_bl, lay_ii, atI_5]
    refine dLoop_inv (fun d : It1 => .d (eIt d)) (Ict1 s) s _ ⟨0, none, rfl, by simp⟩ ?_ ?_
    · rintro d r _ _ ⟨c, x, rfl, hc⟩ N hN
      rw [sizes_cons] at hc
      cases d with
      | deed d =>
        have e1 : It1.siz (.deed d) = 1 := rfl
        obtain ⟨x0, r0, e0, ok0, ne0⟩ := deed_head d
        simp [eIt, e0, ok0, ne0, eN, dstart, dSeq, dRet, dAsg, dPar, dIfS, dDrop, dNext, dVar, dC, dOp, dTst, dAnd, dOr, dNot, dIf, dAndV, dOrV, dNotV, dChain, dNil, dCons, dTup, dLst, dCall, plains, dIsi, isaP, drI, drI0, drPlus, drIx, drEq, drNe, drIn, drNIn, drIsN, drNotN, drLen, drAll, drSum, drMin, drMax, drTuple, drList, drDict, drInt, drAbs, dIterL, dIterT, dRng1, dRng2, dEnum, Tgt.put, dLc, dLc2, dYes, dInW, dTail, dHead, dRev, dMerge, dNew, dCount, dFor, List.getElem?_cons_zero, List.getElem?_cons_succ, List.map, List.length, List.replicate, List.append, List.cons_append, List.nil_append, List.append_nil, List.set, Option.map, Nat.sub_self, ne_pt, ne_pi, ne_pa, ne_tp, ne_ti, ne_ta, ne_ip, ne_it, ne_ia, ne_ap, ne_at, ne_ai, ne_kt, ne_kp, ne_pk, ne_pu, ne_uk, ne_up, okd_int, okd_bl, okd_pairs, okd_takes, okd_tie, okd_ask, okd_know, okd_part, okd_turn, tkey_ii, eqv_int, eqv_str, atI_0, atI_1, atI_2, atI_3, atI_4, ci, eqv_bl, lay_ii, atI_5]
        rw [← e0]
        refine hN _ ⟨c + 1, some (.d (eDeed d)), by simp [eN], by omega⟩
      | ask a b y n =>
        have e1 : It1.siz (.ask a b y n) = 1 + y.length + n.length := rfl
        simp [eIt, eN, dstart, dSeq, dRet, dAsg, dPar, dIfS, dDrop, dNext, dVar, dC, dOp, dTst, dAnd, dOr, dNot, dIf, dAndV, dOrV, dNotV, dChain, dNil, dCons, dTup, dLst, dCall, plains, dIsi, isaP, drI, drI0, drPlus, drIx, drEq, drNe, drIn, drNIn, drIsN, drNotN, drLen, drAll, drSum, drMin, drMax, drTuple, drList, drDict, drInt, drAbs, dIterL, dIterT, dRng1, dRng2, dEnum, Tgt.put, dLc, dLc2, dYes, dInW, dTail, dHead, dRev, dMerge, dNew, dCount, dFor, List.getElem?_cons_zero, List.getElem?_cons_succ, List.map, List.length, List.replicate, List.append, List.cons_append, List.nil_append, List.append_nil, List.set, Option.map, Nat.sub_self, ne_pt, ne_pi, ne_pa, ne_tp, ne_ti, ne_ta, ne_ip, ne_it, ne_ia, ne_ap, ne_at, ne_ai, ne_kt, ne_kp, ne_pk, ne_pu, ne_uk, ne_up, okd_int, okd_bl, okd_pairs, okd_takes, okd_tie, okd_ask, okd_know, okd_part, okd_turn, tkey_ii, eqv_int, eqv_str, atI_0, atI_1, atI_2, atI_3, atI_4, ci, eqv_bl, lay_ii, atI_5]
        refine ⟨y, rfl, n, rfl, ?_⟩
        simp [eN]
        refine hN _ ⟨c + 1 + (y.length + n.length), some (.d (eIt (.ask a b y n))), ?_, by omega⟩
        simp [eN, eIt, eScr]
    · rintro _ ⟨c, x, rfl, hc⟩
      have : c = sizes s := by simpa [sizes] using hc
      rw [this]
      exact h
theorem ok_law_script : Ok P w K mg base "_law_script" ["_law_cup_here", "_law_named", "_law_most", "_law_deep"] 6 T_law_script := by
  refine D_law_script F (ok_law_items F) (ok_law_count F) (fun ds Q h => ?_) (fun ds Q h => ?_)
  · obtain ⟨c, rfl, _⟩ := h
    rfl
  · obtain ⟨k, rfl, hk, h⟩ := h
    simp [B_law_script, dstart, dSeq, dRet, dAsg, dPar, dIfS, dDrop, dNext, dVar, dC, dOp, dTst, dAnd, dOr, dNot, dIf, dAndV, dOrV, dNotV, dChain, dNil, dCons, dTup, dLst, dCall, plains, dIsi, isaP, drI, drI0, drPlus, drIx, drEq, drNe, drIn, drNIn, drIsN, drNotN, drLen, drAll, drSum, drMin, drMax, drTuple, drList, drDict, drInt, drAbs, dIterL, dIterT, dRng1, dRng2, dEnum, Tgt.put, dLc, dLc2, dYes, dInW, dTail, dHead, dRev, dMerge, dNew, dCount, dFor, List.getElem?_cons_zero, List.getElem?_cons_succ, List.map, List.length, List.replicate, List.append, List.cons_append, List.nil_append, List.append_nil, List.set, Option.map, Nat.sub_self, ne_pt, ne_pi, ne_pa, ne_tp, ne_ti, ne_ta, ne_ip, ne_it, ne_ia, ne_ap, ne_at, ne_ai, ne_kt, ne_kp, ne_pk, ne_pu, ne_uk, ne_up, okd_int, okd_bl, okd_pairs, okd_takes, okd_tie, okd_ask, okd_know, okd_part, okd_turn, tkey_ii, eqv_int, eqv_str, atI_0, atI_1, atI_2, atI_3, atI_4, ci, eqv_bl, lay_ii, atI_5]
    refine ⟨k, rfl, hk, fun s hs hz => ?_⟩
    refine ⟨Wsc k s, ⟨0, rfl⟩, fun m δ e => ?_⟩
    unfold Wsc at e
    subst e
    simp [dstart, dSeq, dRet, dAsg, dPar, dIfS, dDrop, dNext, dVar, dC, dOp, dTst, dAnd, dOr, dNot, dIf, dAndV, dOrV, dNotV, dChain, dNil, dCons, dTup, dLst, dCall, plains, dIsi, isaP, drI, drI0, drPlus, drIx, drEq, drNe, drIn, drNIn, drIsN, drNotN, drLen, drAll, drSum, drMin, drMax, drTuple, drList, drDict, drInt, drAbs, dIterL, dIterT, dRng1, dRng2, dEnum, Tgt.put, dLc, dLc2, dYes, dInW, dTail, dHead, dRev, dMerge, dNew, dCount, dFor, List.getElem?_cons_zero, List.getElem?_cons_succ, List.map, List.length, List.replicate, List.append, List.cons_append, List.nil_append, List.append_nil, List.set, Option.map, Nat.sub_self, ne_pt, ne_pi, ne_pa, ne_tp, ne_ti, ne_ta, ne_ip, ne_it, ne_ia, ne_ap, ne_at, ne_ai, ne_kt, ne_kp, ne_pk, ne_pu, ne_uk, ne_up, okd_int, okd_bl, okd_pairs, okd_takes, okd_tie, okd_ask, okd_know, okd_part, okd_turn, tkey_ii, eqv_int, eqv_str, atI_0, atI_1, atI_2, atI_3, atI_4, ci, eqv_bl, lay_ii, atI_5]
    refine ⟨s, rfl, ?_⟩
    have : ¬ 30 < (sizes s : Int) := by omega
    simp [eN, dstart, dSeq, dRet, dAsg, dPar, dIfS, dDrop, dNext, dVar, dC, dOp, dTst, dAnd, dOr, dNot, dIf, dAndV, dOrV, dNotV, dChain, dNil, dCons, dTup, dLst, dCall, plains, dIsi, isaP, drI, drI0, drPlus, drIx, drEq, drNe, drIn, drNIn, drIsN, drNotN, drLen, drAll, drSum, drMin, drMax, drTuple, drList, drDict, drInt, drAbs, dIterL, dIterT, dRng1, dRng2, dEnum, Tgt.put, dLc, dLc2, dYes, dInW, dTail, dHead, dRev, dMerge, dNew, dCount, dFor, List.getElem?_cons_zero, List.getElem?_cons_succ, List.map, List.length, List.replicate, List.append, List.cons_append, List.nil_append, List.append_nil, List.set, Option.map, Nat.sub_self]
    rw [if_neg (by omega)]
    exact h s hs hz
theorem ok_law_forgets : Ok P w K mg base "_law_forgets" [] 1 T_law_forgets := by
  refine D_law_forgets F (fun ds Q h => ?_) (fun ds Q h => ?_)
  · obtain ⟨rfl, _⟩ := h
    rfl
  · obtain ⟨rfl, h⟩ := h
    dsimp only [B_law_forgets, dSeq, dAsg, dRet]
    refine (show Ev _ _ _ from (by repeat' (first | with_reducible exact ev_c | with_reducible apply ev_tup | with_reducible apply ev_plusT | exact le_line (by simp) | with_reducible apply ev_lst | with_reducible apply evp_cons | with_reducible exact evp_nil | ((with_reducible apply ev_var); exact rfl)))) _ ?_
    refine (show Ev _ _ _ from (by repeat' (first | with_reducible exact ev_c | with_reducible apply ev_tup | with_reducible apply ev_plusT | exact le_line (by simp) | with_reducible apply ev_lst | with_reducible apply evp_cons | with_reducible exact evp_nil | ((with_reducible apply ev_var); exact rfl)))) _ ?_
    exact h
theorem ok_law_some_stock : Ok P w K mg base "_law_some_stock" ["_law_cup_here", "_law_named"] 7 T_law_some_stock := by
  refine D_law_some_stock F (ok_law_some F) (ok_law_roll F) (ok_law_script F) (fun ds Q h => ?_) (fun ds Q h => ?_)
  · obtain ⟨c, rfl, _⟩ := h
    rfl
  · obtain ⟨k, rfl, hk, h⟩ := h
    have hbig := big_line
    dsimp only [B_law_some_stock, dSeq, dPar, dIfS, dOr, dRet, dAsg]
    have hs : EvG (dCall T_law_some (dCons (dVar 0) (dCons (dLst (dCons (dTup (dCons (dC (dI 0)) (dCons (dC (dI 0)) (dCons (dC (dI 0)) (dCons (dC (dI 0)) (dCons (dC (dI 0)) (dCons (dC (dI 0)) dNil))))))) (dCons (dTup (dCons (dC (dI 1)) (dCons (dC (dI 1)) (dCons (dC (dI 1)) (dCons (dC (dI 1)) (dCons (dC (dI 1)) (dCons (dC (dI 1)) dNil))))))) (dCons (dTup (dCons (dC (dI 0)) (dCons (dC (dI 1)) (dCons (dC (dI 0)) (dCons (dC (dI 0)) (dCons (dC (dI 1)) (dCons (dC (dI 0)) dNil))))))) dNil)))) dNil))) (dstart ["_law_cup_here", "_law_named", "_law_zero", "_law_part_here", "_law_takes", "_law_turn"] [.cup, .d (eN k)]) _ := eg_some rfl (by repeat' (first | with_reducible exact ev_c | with_reducible apply ev_tup | with_reducible apply ev_plusT | exact le_line (by simp) | with_reducible apply ev_lst | with_reducible apply evp_cons | with_reducible exact evp_nil | ((with_reducible apply ev_var); exact rfl))) (by simp) (by simp)
    refine (show EvG _ _ _ from (by repeat' (first | with_reducible exact eg_c | with_reducible apply eg_tup | with_reducible apply egp_cons | with_reducible exact egp_nil | ((with_reducible apply eg_var); exact rfl) | assumption))) _ fun p hp => ?_
    obtain ⟨ps, rfl, _, _, rfl, rfl, _, _, rfl, rfl, z, _, rfl, hz, rfl⟩ := hp
    have hb : ∃ a : List Bool, a.length = 6 ∧ z = eBits a := by
      simp only [List.mem_cons, List.not_mem_nil, or_false] at hz
      rcases hz with rfl | rfl | rfl
      · exact ⟨[false, false, false, false, false, false], rfl, rfl⟩
      · exact ⟨[true, true, true, true, true, true], rfl, rfl⟩
      · exact ⟨[false, true, false, false, true, false], rfl, rfl⟩
    obtain ⟨z6, hz6, rfl⟩ := hb
    refine (show Ev _ _ _ from (by repeat' (first | with_reducible exact ev_c | with_reducible apply ev_tup | with_reducible apply ev_plusT | exact le_line (by simp) | with_reducible apply ev_lst | with_reducible apply evp_cons | with_reducible exact evp_nil | ((with_reducible apply ev_var); exact rfl)))) _ ?_
    refine tst_ev (ev_eq (ev_var rfl) ev_c ((sh_int _ (k := 0)).okd) ((sh_int _ (k := 0)).okd)) ?_
    have ek : (eN k).eqv (.int 1) = decide ((k : Int) = 1) := eqv_int _ _
    rw [ek]
    by_cases e : (k : Int) = 1
    · rw [if_pos (decide_eq_true e), if_pos rfl]
      exact st_ret hk h
    · rw [if_neg (by simp [e])]
      have k2 : k = 2 := by omega
      refine tst_roll (m := 3) rfl ev_c (by decide) (by decide) fun b => ?_
      cases b with
      | true =>
        rw [if_pos rfl]
        exact st_ret hk h
      | false =>
        rw [if_neg (by simp)]
        refine next_seq ?_
        refine asg_go ?_
        have ht : ∀ δ : DEnv, δ[0]? = some (some .cup) → EvG (dCall T_law_some (dCons (dVar 0) (dCons (dLst (dCons (dTup (dCons (dC (dI 0)) (dCons (dC (dI 0)) (dCons (dC (dI 0)) (dCons (dC (dI 0)) dNil))))) (dCons (dTup (dCons (dC (dI 0)) (dCons (dC (dI 1)) (dCons (dC (dI 0)) (dCons (dC (dI 1)) dNil))))) (dCons (dTup (dCons (dC (dI 0)) (dCons (dC (dI 0)) (dCons (dC (dI 0)) (dCons (dC (dI 1)) dNil))))) dNil)))) dNil))) δ _ := fun δ hδ => eg_some hδ (by repeat' (first | with_reducible exact ev_c | with_reducible apply ev_tup | with_reducible apply ev_plusT | exact le_line (by simp) | with_reducible apply ev_lst | with_reducible apply evp_cons | with_reducible exact evp_nil | ((with_reducible apply ev_var); exact rfl))) (by simp) (by simp)
        refine (eg_tup (egp_cons (eg_tup (egp_cons eg_c (egp_cons eg_c (egp_cons eg_c (egp_cons (ht _ rfl) egp_nil))))) egp_nil)) _ fun p hp => ?_
        obtain ⟨_, rfl, _, _, rfl, ⟨_, rfl, _, _, rfl, rfl, _, _, rfl, rfl, _, _, rfl, rfl, t4, _, rfl, ht4, rfl⟩, rfl⟩ := hp
        have hb : ∃ a : List Bool, a.length = 4 ∧ t4 = eBits a := by
          simp only [List.mem_cons, List.not_mem_nil, or_false] at ht4
          rcases ht4 with rfl | rfl | rfl
          · exact ⟨[false, false, false, false], rfl, rfl⟩
          · exact ⟨[false, true, false, true], rfl, rfl⟩
          · exact ⟨[false, false, false, true], rfl, rfl⟩
        obtain ⟨a4, ha4, rfl⟩ := hb
        subst k2
        refine put_ret ?_
        apply some_go
        · rfl
        · repeat' (first | with_reducible exact ev_c | with_reducible apply ev_tup | with_reducible apply ev_plusT | exact le_line (by simp) | with_reducible apply ev_lst | with_reducible apply evp_cons | with_reducible exact evp_nil | ((with_reducible apply ev_var); exact rfl))
        · simp
        · simp
        intro p hp
        simp only [List.mem_cons, List.not_mem_nil, or_false] at hp
        rcases hp with rfl | rfl | rfl
        · exact h [[.deed (.takes 0 1 a4), .deed (.takes 1 0 [false, false, false, false]), .deed (.tie 0 1 .part)], [.deed (.pairs 0 z6)]] (by simp [StOk, ItOk, DeedOk, sizes, It1.siz, hz6, ha4])
        · exact h [[.deed (.takes 0 1 a4)], [.deed (.pairs 0 z6), .deed (.tie 0 1 .part)]] (by simp [StOk, ItOk, DeedOk, sizes, It1.siz, hz6, ha4])
        · exact h [[.deed (.pairs 0 z6)], [.deed (.takes 1 0 [true, true, true, true]), .deed (.tie 0 1 .part)]] (by simp [StOk, ItOk, DeedOk, sizes, It1.siz, hz6, ha4])
end
end TW
namespace TW
open PySem PySem.Spec PyProof.Rows L2 FL
def T_law_pairs_one : DRs := Tunited
/-- found[pair] = True, the dict a cell -/
def rSetDct (P : Program) (w : World) : TSet := fun o i v H Q => ∃ (C : Cells) (d : Addr) (kvs : List (NestedKey × PyData)) (xs : List (NestedKey × Addr × V)) (p pv : PyData) (k : NestedKey), o = .ref d ∧ CellsOk (withC C d (.ext (dictIs P w d xs))) H ∧ (d == sysModules) = false ∧
  EntOk (withC C d (.ext (dictIs P w d xs))) H xs kvs ∧ (kvs.map (·.1)).Nodup ∧ kvs.length + 1 ≤ sizeLine ∧ tkey p = some k ∧ k ∉ kvs.map (·.1) ∧ Rp (withC C d (.ext (dictIs P w d xs))) H i p ∧ Rp (withC C d (.ext (dictIs P w d xs))) H v pv ∧
  ∀ z, CellsOk (withC C d (.ext (dictIs P w d (xs ++ [z])))) (upd H d (.ext (dictIs P w d (xs ++ [z])))) → Ext (withC C d (.ext (dictIs P w d xs))) H (withC C d (.ext (dictIs P w d (xs ++ [z])))) (upd H d (.ext (dictIs P w d (xs ++ [z])))) →
    EntOk (withC C d (.ext (dictIs P w d (xs ++ [z])))) (upd H d (.ext (dictIs P w d (xs ++ [z])))) (xs ++ [z]) (kvs ++ [(k, pv)]) → Q (upd H d (.ext (dictIs P w d (xs ++ [z]))))
theorem pset_dct {X : Cx} (hu : X.A.units + 64 < cLine) : PSet X (rSetDct X.prog X.w) := by
  intro pins s σ H o i v ov iv u Q I ro ri rv ⟨C, d, kvs, xs, p, pv, k, e, hc, hs, hx, hnd, hsz, hk, hf, rp, rpv, h⟩
  subst e
  cases (show ov = Value.ref d from ro)
  refine set_dct hu I hc hs hx hnd hsz hk hf ri rp rv rpv fun s' H' z I' hc' ex eH ent => ?_
  subst eH
  exact ⟨_, I', h z hc' ex ent⟩
/-- {}, to be a dict by pairs -/
def tNewX (P : Program) (w : World) : TE := fun _ H Q => ∀ d, H d = none → (d == sysModules) = false → Q (.ref d) (upd H d (.ext (dictIs P w d [])))
theorem pe_dnewX {X : Cx} {pos : Pos} : PE X (.Dict [] [] pos) (tNewX X.prog X.w) := ⟨fun pins s σ H k I h => by
  refine wpAny_Dict_empty ?_
  have hn : H s.heap.objs.size = none := I.hok.fresh (Nat.le_refl _)
  have hd := dictIs_of (P := X.prog) (w := X.w) (xs := []) .nil (Heap.DictOfH.new (knd := nestedKind X.prog X.w) s.heap)
  exact ⟨.ref s.heap.objs.size, _, I.laid (a := s.heap.objs.size) (o := .ext (dictIs X.prog X.w s.heap.objs.size [])) (t' := s.toks) (fun _ _ q => Heap.get?_push_of_some _ q) (Nat.le_refl _) (dct_obj hd), rfl, h _ hn (beq_eq_false_iff_ne.mpr (Nat.ne_of_gt I.big))⟩⟩
def P0_law_pairs_one : DT := dLst (dCons (dTup (dCons (dC (dI 0)) (dCons (dC (dI 0)) (dNil)))) (dNil))
def Pc_law_pairs_one : DTT := dTst (dOp drNe (dVar 3) (dLst (dNil)))
def Pi1_law_pairs_one : DTI := dRng1 (dVar 1)
def Pi2_law_pairs_one : DTI := dRng2 (dOp drPlus (dVar 4) (dC (dI 1))) (dVar 1)
def Pt_law_pairs_one : DTT := dAnd (dTst (dOp drNIn (dTup (dCons (dVar 4) (dCons (dVar 6) (dNil)))) (dVar 2))) (dTst (dCall T_law_leads (dCons (dVar 0) (dCons (dVar 2) (dCons (dVar 4) (dCons (dVar 6) (dNil)))))))
def Pi3_law_pairs_one : DTI := dIterL (dVar 3)
def Pr_law_pairs_one : DTS := dRet (dVar 2)
def L_law_pairs_one (P : Program) (w : World) (K : PySem.W.Frag) : TS := tSeq (tPar 2 3 (tCons (tNewX P w) (tCons (liftE P w P0_law_pairs_one) tNil))) (tSeq (tWhile (liftT P w Pc_law_pairs_one) (tSeq (L2.tAsg (tLst tNil) (gName 3)) (tSeq (tFor (liftI P w Pi1_law_pairs_one) ((Tgt.nm 4).g K) (tFor (liftI P w Pi2_law_pairs_one) ((Tgt.nm 6).g K) (tIfS (liftT P w Pt_law_pairs_one) (tApp 3 4 6) tNext))) (tFor (liftI P w Pi3_law_pairs_one) ((Tgt.nm 5).g K) (L2.tAsg (tC (.bl true)) (gSub (tVar 2) (tVar 5) (rSetDct P w))))))) (liftS P w Pr_law_pairs_one))
theorem S_law_pairs_one : FnScope ["_law_tables", "_law_many", "_law_found", "_law_fresh", "_law_one", "_law_pair", "_law_other"] ["_law_tables", "_law_many"] (defScope (top 65)) := ⟨rfl, rfl, rfl, by decide +kernel, rfl, by decide +kernel, by decide +kernel⟩
theorem D_law_pairs_one {P : Program} {w : World} {K : PySem.W.Frag} {mg : Str → Option Value} {base : Heap} (F : Fc K mg) (o_law_leads : Ok P w K mg base "_law_leads" ["_law_tables", "_law_found", "_law_one", "_law_other"] 2 T_law_leads) (hlen : ∀ ds Q, T_law_pairs_one ds Q → ds.length = 2) (hT : ∀ C vs ds H R k, RepAll P w C H vs ds → CellsOk C H → T_law_pairs_one ds R → (∀ v H' d, RepD P w C H' v d → CellsOk C H' → Keep C H H' → R d → k v H') → (L_law_pairs_one P w K) { nx := fun _ H' => k .non H', rt := k } (L2.start ["_law_tables", "_law_many", "_law_found", "_law_fresh", "_law_one", "_law_pair", "_law_other"] vs) H) : Ok P w K mg base "_law_pairs_one" ["_law_tables", "_law_many"] (2 + 1) T_law_pairs_one :=
  ok_hand F 43 (j := 65) rfl S_law_pairs_one T_law_pairs_one (L_law_pairs_one P w K) hlen hT (fun _ _ _ _ _ _ us hl => match us, hl with | [_, _], _ => rfl) fun f cdv A outer s H E hr => pss_cons (ps_par (i := 2) (j := 3) rfl S_law_pairs_one.nd rfl rfl (by decide) rfl rfl (pa_cons pe_dnewX (pa_cons (de_lst (da_cons (de_tup (da_cons (de_int) (da_cons (de_int) (da_nil)))) (da_nil))) pa_nil rfl) rfl) rfl) (pss_cons (ps_while PassesOwn.never (dt_cmp (od_ne hr.units) (dv 3) (de_lst (da_nil)) (nomark _)) (pss_cons (ps_set (i := 3) S_law_pairs_one.nd rfl (.inl rfl) (pe_lst pa_nil)) (pss_cons (ps_for PassesOwn.never rfl (di_range1 rfl F.free_range (dv 1)) (pg_nm (i := 4) S_law_pairs_one.nd rfl (by first | exact .inl rfl | exact .inr rfl)) (pss_one (ps_for PassesOwn.never rfl (di_range2 rfl F.free_range (de_bin od_plus (dv 4) (de_int)) (dv 1)) (pg_nm (i := 6) S_law_pairs_one.nd rfl (by first | exact .inl rfl | exact .inr rfl)) (pss_one (ps_if (dt_w (dw_and (dt_cmp (od_nin (r65 hr)) (de_tup (da_cons (dv 4) (da_cons (dv 6) (da_nil)))) (dv 2) (by with_unfolding_all rfl)) (dw_and1 (dt_val (ok_call o_law_leads hr (by decide) rfl (da_cons (dv 0) (da_cons (dv 2) (da_cons (dv 4) (da_cons (dv 6) (da_nil)))))))))) (pss_one (ps_app (pv 3) (pv 4) (pv 6))) pss_nil))))) (pss_one (ps_for PassesOwn.never rfl (di_list (dv 3)) (pg_nm (i := 5) S_law_pairs_one.nd rfl (by first | exact .inl rfl | exact .inr rfl)) (pss_one (ps_asg pe_bl (pg_sub (pv 2) (pv 5) (pset_dct hr.units))))))))) (pss_one (ds_ret (dv 2))))
end TW
namespace TW
open PySem PySem.Spec PyProof.Rows L2 FL
section
variable {P : Program} {w : World} {C C' : Cells} {H H' : Hp} {σ : L2.St} {δ : DEnv}
theorem here_alt {i : Nat} {v : V} {d : FL.D} (h : Here P w C H σ δ) (hi : σ[i]? = some (some v)) (r : RepD P w C H v d) : Here P w C H σ (δ.set i (some d)) := by
  refine ⟨fun j e hj => ?_, h.cells, by rw [List.length_set]; exact h.len⟩
  by_cases hji : i = j
  · subst hji
    by_cases hl : i < δ.length
    · rw [List.getElem?_set_self hl] at hj
      cases hj
      exact ⟨v, hi, r⟩
    · rw [List.getElem?_eq_none (by simpa using hl)] at hj
      cases hj
  · rw [List.getElem?_set_ne hji] at hj
    exact h.rep j e hj
theorem here_sub {δ' : DEnv} (h : Here P w C H σ δ) (hl : δ'.length = δ.length) (s : ∀ (j : Nat) (e : FL.D), δ'[j]? = some (some e) → δ[j]? = some (some e)) : Here P w C H σ δ' := ⟨fun j e hj => h.rep j e (s j e hj), h.cells, by rw [hl]; exact h.len⟩
mutual
theorem rp_lock {a : Addr} {φ : Heap → Prop} {o : HO} (ha : H a = some (.ext φ)) : ∀ {v : V} {d : PyData}, Rp C H v d → Rp (withC C a o) H v d
  | _, _, .non => .non
  | _, _, .bl b => .bl b
  | _, _, .int i => .int i
  | _, _, .str x => .str x
  | _, _, .lst n s r => .lst (by rw [withC_ne (fun e => by rw [e, ha] at s; cases s)]; exact n) s (rpall_lock ha r)
  | _, _, .tup n s r => .tup (by rw [withC_ne (fun e => by rw [e, ha] at s; cases s)]; exact n) s (rpall_lock ha r)
theorem rpall_lock {a : Addr} {φ : Heap → Prop} {o : HO} (ha : H a = some (.ext φ)) : ∀ {vs : List V} {ds : List PyData}, RpAll C H vs ds → RpAll (withC C a o) H vs ds
  | _, _, .nil => .nil
  | _, _, .cons r t => .cons (rp_lock ha r) (rpall_lock ha t)
end
theorem dct_ext {a : Addr} {kvs : List (NestedKey × PyData)} {xs : List (NestedKey × Addr × V)} (x : DctAt P w C H a kvs xs) (n : C a = none) (q : Ext C H C' H') : DctAt P w C' H' a kvs xs ∧ C' a = none :=
  ⟨⟨x.sys, x.len, (q.go _ _ x.at_ n).2, x.nd, Paired.mapP x.ent fun _ _ z => ⟨z.1, ⟨Rp.ext q z.2.1.1, z.2.1.2⟩, Rp.ext q z.2.2⟩⟩, (q.go _ _ x.at_ n).1⟩
theorem here_lock {a : Addr} {φ : Heap → Prop} (h : Here P w C H σ δ) (n : C a = none) (ha : H a = some (.ext φ)) (nd : ∀ (j : Nat) (kvs : List (NestedKey × PyData)), δ[j]? ≠ some (some (FL.D.dct kvs))) : Here P w (withC C a (.ext φ)) H σ δ := by
  refine ⟨fun j e hj => ?_, fun b I hb => ?_, h.len⟩
  · obtain ⟨v, h1, h2⟩ := h.rep j e hj
    refine ⟨v, h1, ?_⟩
    cases e with
    | d p => exact rp_lock ha h2
    | cup =>
      obtain ⟨b, e1, e2⟩ := h2
      have ne : b ≠ a := fun e => by rw [e, n] at e1; cases e1
      exact ⟨b, by rw [withC_ne ne]; exact e1, e2⟩
    | dct kvs => exact absurd hj (nd j kvs)
    | adr b => exact h2
  · by_cases e : b = a
    · subst e
      rw [withC_same] at hb
      cases hb
      exact ⟨_, ha, rfl⟩
    · rw [withC_ne e] at hb
      exact h.cells b I hb
end
def gU (tt : List (List Nat)) (U : List Pr) (q : Pr) : Bool := decide (q ∉ U) && lead U tt q
theorem prs_row (n : Nat) : (List.range n).flatMap (row n) = prs n := rfl
theorem rnd_g (tt : List (List Nat)) (n : Nat) (U : List Pr) : (prs n).filter (gU tt U) = rnd tt n U := rfl
def Wpo (P : Program) (w : World) (C : Cells) (H0 : Hp) (tt : List (List Nat)) (n m : Nat) (σ : L2.St) (H : Hp) : Prop := ∃ (U fr : List Pr) (d : Addr) (xs : List (NestedKey × Addr × V)),
  Here P w C H σ [some (.d (eTt tt)), some (.d (eN n)), some (.adr d), some (.d (.list (fr.map ePr))), none, none, none] ∧ C d = none ∧ H0 d = none ∧ DctAt P w C H d (fd U) xs ∧ Keep C H0 H ∧ U.Nodup ∧ (∀ p ∈ U, p ∈ prs n) ∧
  (∀ V, Un tt n U V → Un tt n [] V) ∧ (fr = [] → rnd tt n U = []) ∧ m = (if fr = [] then 0 else 1) + ((prs n).length - U.length)
def I1 (P : Program) (w : World) (C : Cells) (tt : List (List Nat)) (n : Nat) (U : List Pr) (d p : Addr) (xs : List (NestedKey × Addr × V)) (i : Nat) (δ : DEnv) (o : HO) (H : Hp) : Prop := ∃ (av : List V) (x4 x6 : Option FL.D), o = .lst av ∧
  δ = [some (.d (eTt tt)), some (.d (eN n)), some (.adr d), some (.adr p), x4, none, x6] ∧ RpAll (withC C p o) H av (((((List.range n).take i).flatMap (row n)).filter (gU tt U)).map ePr) ∧ DctAt P w (withC C p o) H d (fd U) xs ∧ (withC C p o) d = none
def I2 (P : Program) (w : World) (C : Cells) (tt : List (List Nat)) (n : Nat) (U : List Pr) (d p : Addr) (xs : List (NestedKey × Addr × V)) (pre : List Pr) (a i : Nat) (δ : DEnv) (o : HO) (H : Hp) : Prop := ∃ (av : List V) (x6 : Option FL.D), o = .lst av ∧
  δ = [some (.d (eTt tt)), some (.d (eN n)), some (.adr d), some (.adr p), some (.d (eN a)), none, x6] ∧ RpAll (withC C p o) H av (((pre ++ (row n a).take i).filter (gU tt U)).map ePr) ∧ DctAt P w (withC C p o) H d (fd U) xs ∧ (withC C p o) d = none
def I3 (P : Program) (w : World) (C : Cells) (tt : List (List Nat)) (n : Nat) (U fr : List Pr) (d : Addr) (i : Nat) (δ : DEnv) (o : HO) (H : Hp) : Prop := ∃ (ys : List (NestedKey × Addr × V)) (x5 : Option FL.D), o = .ext (dictIs P w d ys) ∧
  δ = [some (.d (eTt tt)), some (.d (eN n)), some (.adr d), some (.d (.list (fr.map ePr))), none, x5, none] ∧ EntOk (withC C d o) H ys (fd (U ++ fr.take i))
theorem test_eval {tt : List (List Nat)} {n a j : Nat} {U : List Pr} {x3 x5 : Option FL.D} {Q : Bool → Prop} (ht : TtOk n tt) (hq : (a, a + 1 + j) ∈ prs n) (h : Q (gU tt U (a, a + 1 + j))) :
    Pt_law_pairs_one [some (.d (eTt tt)), some (.d (eN n)), some (.dct (fd U)), x3, some (.d (eN a)), x5, some (.d (eN (a + 1 + j)))] Q := by
  have e4 : NestedKey.tup [.num (a : Int), .num ((a + 1 + j : Nat) : Int)] = kPr (a, a + 1 + j) := rfl
  have hl : ∀ K : Bool → Prop, K (lead U tt (a, a + 1 + j)) → T_law_leads [.d (eTt tt), .dct (fd U), .d (.int (a : Int)), .d (.int ((a + 1 + j : Nat) : Int))] fun d => match d with
    | .d (.bool b) => K b
    | _ => False := fun K hK => ⟨U, tt, n, (a, a + 1 + j), rfl, ht, hq, hK⟩
  unfold gU at h
  generalize a + 1 + j = b at *
  simp [Pt_law_pairs_one, eN, dstart, dSeq, dRet, dAsg, dPar, dIfS, dDrop, dNext, dVar, dC, dOp, dTst, dAnd, dOr, dNot, dIf, dAndV, dOrV, dNotV, dChain, dNil, dCons, dTup, dLst, dCall, plains, dIsi, isaP, drI, drI0, drPlus, drIx, drEq, drNe, drIn, drNIn, drIsN, drNotN, drLen, drAll, drSum, drMin, drMax, drTuple, drList, drDict, drInt, drAbs, dIterL, dIterT, dRng1, dRng2, dEnum, Tgt.put, dLc, dLc2, dYes, dInW, dTail, dHead, dRev, dMerge, dNew, dCount, dFor, List.getElem?_cons_zero, List.getElem?_cons_succ, List.map, List.length, List.replicate, List.append, List.cons_append, List.nil_append, List.append_nil, List.set, Option.map, Nat.sub_self, ne_pt, ne_pi, ne_pa, ne_tp, ne_ti, ne_ta, ne_ip, ne_it, ne_ia, ne_ap, ne_at, ne_ai, ne_kt, ne_kp, ne_pk, ne_pu, ne_uk, ne_up, okd_int, okd_bl, okd_pairs, okd_takes, okd_tie, okd_ask, okd_know, okd_part, okd_turn, tkey_ii, eqv_int, eqv_str, atI_0, atI_1, atI_2, atI_3, atI_4, ci, eqv_bl, lay_ii, atI_5]
  rw [e4, look_fd]
  by_cases c : (a, b) ∈ U
  · simp [c] at h ⊢
    exact h
  · simp [c] at h ⊢
    exact hl Q h
end TW
namespace TW
open PySem PySem.Spec PyProof.Rows L2 FL
section
variable {P : Program} {w : World} {K : PySem.W.Frag} {C : Cells} {tt : List (List Nat)} {n : Nat}
/-- the inner loop's turn -/
theorem turn2 {U : List Pr} {d p : Addr} {xs : List (NestedKey × Addr × V)} {pre : List Pr} {a j : Nat} {o : HO} {σ : L2.St} {H : Hp} {δ : DEnv} {D : Ends} {N : L2.St → Hp → Prop} {v : V} (ht : TtOk n tt) (hpre : pre.length ≤ 10000) (hn : n ≤ 64) (haj : (a, a + 1 + j) ∈ prs n)
    (hx : (row n a)[j]? = some (a, a + 1 + j)) (hh : Here P w (withC C p o) H σ δ) (inv : I2 P w C tt n U d p xs pre a j δ o H)
    (hN : ∀ o' σ' H' δ', Here P w (withC C p o') H' σ' δ' → Ext (withC C p o) H (withC C p o') H' → I2 P w C tt n U d p xs pre a (j + 1) δ' o' H' → N σ' H') (rv : RepD P w (withC C p o) H v (.d (eN (a + 1 + j)))) :
    (Tgt.nm 6).g K v σ H fun σ2 H2 => (tIfS (liftT P w Pt_law_pairs_one) (tApp 3 4 6) tNext) { D with nx := N, ct := N, bk := D.nx } σ2 H2 := by
  have hbig := big_line
  obtain ⟨av, x6, rfl, rfl, ra, da, dn⟩ := inv
  refine Tgt.go (t := .nm 6) (d := .d (eN (a + 1 + j))) (Q := fun δ' => δ' = [some (.d (eTt tt)), some (.d (eN n)), some (.adr d), some (.adr p), some (.d (eN a)), none, some (.d (eN (a + 1 + j)))]) hh rv rfl fun σ2 δ2 h2 _ e2 => ?_
  subst e2
  obtain ⟨v2, s2, r2⟩ := h2.rep 2 _ rfl
  obtain rfl : v2 = .ref d := r2
  have h3 := here_alt (i := 2) (d := .dct (fd U)) h2 s2 ⟨d, xs, rfl, dn, da⟩
  refine ⟨_, _, fun b => b = gU tt U (a, a + 1 + j), h3, test_eval ht haj rfl, fun b H3 c3 k3 e3 => ?_⟩
  subst e3
  have ra3 := ra.keep k3
  have da3 := da.keep k3 dn
  have h4 := h2.go c3 k3
  have etf := take_filter (gU tt U) hx
  have hlen : av.length ≤ 20000 := by
    have e1 := ra.length
    rw [List.length_map] at e1
    have e2 := List.length_filter_le (gU tt U) (pre ++ (row n a).take j)
    rw [List.length_append] at e2
    have e3 : ((row n a).take j).length ≤ (row n a).length := by rw [List.length_take]; omega
    have e4 : (row n a).length ≤ 64 := by simp [row]; omega
    omega
  cases hg : gU tt U (a, a + 1 + j) with
  | false =>
    show N σ2 H3
    refine hN (.lst av) σ2 H3 _ h4 (Ext.of k3) ⟨av, _, rfl, rfl, ?_, da3, dn⟩
    rw [List.filter_append, etf, hg]
    simp only [if_false, List.append_nil, Bool.false_eq_true]
    rw [← List.filter_append]
    exact ra3
  | true =>
    show tApp 3 4 6 _ σ2 H3
    obtain ⟨v3, s3, r3⟩ := h4.rep 3 _ rfl
    obtain rfl : v3 = .ref p := r3
    obtain ⟨va, sa, rva⟩ := h4.rep 4 _ rfl
    obtain ⟨vb, sb, rvb⟩ := h4.rep 6 _ rfl
    refine ⟨va, vb, p, av, s3, sa, sb, h4.cells.at_, by omega, fun q hq => ?_⟩
    have kq : Keep (withC C p (.lst av)) H3 (upd H3 q (.tup [va, vb])) := Keep.new hq
    have cq := h4.cells.new (o := .tup [va, vb]) hq
    have rq : Rp (withC C p (.lst av)) (upd H3 q (.tup [va, vb])) (.ref q) (ePr (a, a + 1 + j)) := rp_new_tup h4.cells hq (.cons rva (.cons rvb .nil))
    have tn : Ext (withC C p (.lst av)) (upd H3 q (.tup [va, vb])) (withC C p (.lst (av ++ [.ref q]))) (upd (upd H3 q (.tup [va, vb])) p (.lst (av ++ [.ref q]))) := Ext.turn
    obtain ⟨da4, dn4⟩ := dct_ext da3 dn ((Ext.of kq).trans tn)
    refine hN (.lst (av ++ [.ref q])) σ2 _ _ ((h4.go cq kq).ext cq.turn tn) ((Ext.of (k3.trans kq)).trans tn) ⟨av ++ [.ref q], _, rfl, rfl, ?_, da4, dn4⟩
    have e9 : (pre ++ (row n a).take (j + 1)).filter (gU tt U) = (pre ++ (row n a).take j).filter (gU tt U) ++ [(a, a + 1 + j)] := by
      rw [List.filter_append, List.filter_append, etf, hg, if_pos rfl, List.append_assoc]
    rw [e9, List.map_append]
    exact ((ra3.keep kq).append (.cons rq .nil)).ext tn
end
end TW
namespace TW
open PySem PySem.Spec PyProof.Rows L2 FL
section
variable {P : Program} {w : World} {K : PySem.W.Frag} {C : Cells} {tt : List (List Nat)} {n : Nat}
theorem i1_keep {U : List Pr} {d p : Addr} {xs : List (NestedKey × Addr × V)} (i : Nat) (δ : DEnv) (o : HO) (H H' : Hp) (h : I1 P w C tt n U d p xs i δ o H) (k : Keep (withC C p o) H H') : I1 P w C tt n U d p xs i δ o H' := by
  obtain ⟨av, x4, x6, e1, e2, ra, da, dn⟩ := h
  exact ⟨av, x4, x6, e1, e2, ra.keep k, da.keep k dn, dn⟩
theorem i2_keep {U : List Pr} {d p : Addr} {xs : List (NestedKey × Addr × V)} {pre : List Pr} {a : Nat} (i : Nat) (δ : DEnv) (o : HO) (H H' : Hp) (h : I2 P w C tt n U d p xs pre a i δ o H) (k : Keep (withC C p o) H H') : I2 P w C tt n U d p xs pre a i δ o H' := by
  obtain ⟨av, x6, e1, e2, ra, da, dn⟩ := h
  exact ⟨av, x6, e1, e2, ra.keep k, da.keep k dn, dn⟩
theorem i3_keep {U fr : List Pr} {d : Addr} (i : Nat) (δ : DEnv) (o : HO) (H H' : Hp) (h : I3 P w C tt n U fr d i δ o H) (k : Keep (withC C d o) H H') : I3 P w C tt n U fr d i δ o H' := by
  obtain ⟨ys, x5, e1, e2, en⟩ := h
  exact ⟨ys, x5, e1, e2, en.keep k⟩
theorem turn1 {U : List Pr} {d p : Addr} {xs : List (NestedKey × Addr × V)} {i a : Nat} {o : HO} {σ : L2.St} {H : Hp} {δ : DEnv} {D : Ends} {N : L2.St → Hp → Prop} {v : V} (ht : TtOk n tt) (hn : n ≤ 64)
    (hx : (List.range n)[i]? = some a) (hh : Here P w (withC C p o) H σ δ) (inv : I1 P w C tt n U d p xs i δ o H)
    (hN : ∀ o' σ' H' δ', Here P w (withC C p o') H' σ' δ' → Ext (withC C p o) H (withC C p o') H' → I1 P w C tt n U d p xs (i + 1) δ' o' H' → N σ' H') (rv : RepD P w (withC C p o) H v (.d (eN a))) :
    (Tgt.nm 4).g K v σ H fun σ2 H2 => (tFor (liftI P w Pi2_law_pairs_one) ((Tgt.nm 6).g K) (tIfS (liftT P w Pt_law_pairs_one) (tApp 3 4 6) tNext)) { D with nx := N, ct := N, bk := D.nx } σ2 H2 := by
  obtain ⟨av, x4, x6, rfl, rfl, ra, da, dn⟩ := inv
  have ha : a < n := List.mem_range.mp (List.mem_of_getElem? hx)
  have hpre : (((List.range n).take i).flatMap (row n)).length ≤ 10000 := by
    have e := flat_len (row n) 64 ((List.range n).take i) (fun x _ => by simp [row]; omega)
    have e2 : ((List.range n).take i).length ≤ 64 := by rw [List.length_take, List.length_range]; omega
    have e3 := Nat.mul_le_mul_right 64 e2
    omega
  refine Tgt.go (t := .nm 4) (d := .d (eN a)) (Q := fun δ' => δ' = [some (.d (eTt tt)), some (.d (eN n)), some (.adr d), some (.adr p), some (.d (eN a)), none, x6]) hh rv rfl fun σ2 δ2 h2 _ e2 => ?_
  subst e2
  refine tFor_cell (C0 := C) (p := p) (o0 := .lst av) (xs := List.range (n - (a + 1))) (enc := fun j : Nat => dI ((a : Int) + 1 + (j : Nat))) (I2 P w C tt n U d p xs (((List.range n).take i).flatMap (row n)) a) i2_keep h2 ?hI ⟨av, x6, rfl, rfl, by simpa using ra, da, dn⟩ ?hb ?he
  case hI =>
    simp [Pi2_law_pairs_one, eN, dstart, dSeq, dRet, dAsg, dPar, dIfS, dDrop, dNext, dVar, dC, dOp, dTst, dAnd, dOr, dNot, dIf, dAndV, dOrV, dNotV, dChain, dNil, dCons, dTup, dLst, dCall, plains, dIsi, isaP, drI, drI0, drPlus, drIx, drEq, drNe, drIn, drNIn, drIsN, drNotN, drLen, drAll, drSum, drMin, drMax, drTuple, drList, drDict, drInt, drAbs, dIterL, dIterT, dRng1, dRng2, dEnum, Tgt.put, dLc, dLc2, dYes, dInW, dTail, dHead, dRev, dMerge, dNew, dCount, dFor, List.getElem?_cons_zero, List.getElem?_cons_succ, List.map, List.length, List.replicate, List.append, List.cons_append, List.nil_append, List.append_nil, List.set, Option.map, Nat.sub_self, ne_pt, ne_pi, ne_pa, ne_tp, ne_ti, ne_ta, ne_ip, ne_it, ne_ia, ne_ap, ne_at, ne_ai, ne_kt, ne_kp, ne_pk, ne_pu, ne_uk, ne_up, okd_int, okd_bl, okd_pairs, okd_takes, okd_tie, okd_ask, okd_know, okd_part, okd_turn, tkey_ii, eqv_int, eqv_str, atI_0, atI_1, atI_2, atI_3, atI_4, ci, eqv_bl, lay_ii, atI_5]
    refine ⟨by unfold inI; omega, by unfold inI; omega, ?_⟩
    have e : ((n : Int) - ((a : Int) + 1)).toNat = n - (a + 1) := by omega
    rw [e, intD_eq]
  case hb =>
    intro j x o σ H δ hx2 hh ex inv N' hN' v rv
    have hj : j < n - (a + 1) ∧ x = j := by
      obtain ⟨h1, h2⟩ := List.getElem?_eq_some_iff.mp hx2
      simp at h1 h2
      exact ⟨h1, h2.symm⟩
    obtain ⟨hj1, rfl⟩ := hj
    have rv' : RepD P w (withC C p o) H v (.d (eN (a + 1 + x))) := by
      have e : (dI ((a : Int) + 1 + (x : Nat)) : FL.D) = .d (eN (a + 1 + x)) := by simp [eN]
      rw [← e]
      exact rv
    exact turn2 ht hpre hn (mem_prs.mpr ⟨by show a < a + 1 + x; omega, by show a + 1 + x < n; omega⟩) (by unfold row; rw [List.getElem?_map, List.getElem?_range hj1]; rfl) hh inv hN' rv'
  case he =>
    rintro o σ H δ hh ex ⟨av', y6, rfl, rfl, ra', da', dn'⟩
    refine hN _ _ _ _ hh ex ⟨av', _, _, rfl, rfl, ?_, da', dn'⟩
    have e1 : (row n a).take (List.range (n - (a + 1))).length = row n a := by
      rw [List.length_range]
      exact List.take_of_length_le (by simp [row])
    rw [e1] at ra'
    have e2 : (List.range n).take (i + 1) = (List.range n).take i ++ [a] := by rw [List.take_succ, hx]; rfl
    rw [e2, List.flatMap_append]
    simpa using ra'
/-- found[pair] = True, one pair -/
theorem turn3 {U fr : List Pr} {d : Addr} {i : Nat} {q : Pr} {o : HO} {σ : L2.St} {H : Hp} {δ : DEnv} {D : Ends} {N : L2.St → Hp → Prop} {v : V} (hs : (d == sysModules) = false) (nd : (U ++ fr).Nodup) (hl : (U ++ fr).length ≤ 10000)
    (hx : fr[i]? = some q) (hh : Here P w (withC C d o) H σ δ) (inv : I3 P w C tt n U fr d i δ o H)
    (hN : ∀ o' σ' H' δ', Here P w (withC C d o') H' σ' δ' → Ext (withC C d o) H (withC C d o') H' → I3 P w C tt n U fr d (i + 1) δ' o' H' → N σ' H') (rv : RepD P w (withC C d o) H v (.d (ePr q))) :
    (Tgt.nm 5).g K v σ H fun σ2 H2 => (L2.tAsg (tC (.bl true)) (gSub (tVar 2) (tVar 5) (rSetDct P w))) { D with nx := N, ct := N, bk := D.nx } σ2 H2 := by
  have hbig := big_line
  obtain ⟨ys, x5, rfl, rfl, en⟩ := inv
  refine Tgt.go (t := .nm 5) (d := .d (ePr q)) (Q := fun δ' => δ' = [some (.d (eTt tt)), some (.d (eN n)), some (.adr d), some (.d (.list (fr.map ePr))), none, some (.d (ePr q)), none]) hh rv rfl fun σ2 δ2 h2 _ e2 => ?_
  subst e2
  obtain ⟨v2, s2, r2⟩ := h2.rep 2 _ rfl
  obtain rfl : v2 = .ref d := r2
  obtain ⟨v5, s5, r5⟩ := h2.rep 5 _ rfl
  have e1 : fr.take (i + 1) = fr.take i ++ [q] := by rw [List.take_succ, hx]; rfl
  have sub1 : (U ++ fr.take (i + 1)).Sublist (U ++ fr) := List.Sublist.append (List.Sublist.refl _) (List.take_sublist _ _)
  have nd1 : (U ++ fr.take (i + 1)).Nodup := nd.sublist sub1
  rw [e1, ← List.append_assoc] at nd1
  have nd0 := (List.nodup_append.mp nd1).1
  have hq : q ∉ U ++ fr.take i := fun hm => (List.nodup_append.mp nd1).2.2 q hm q (List.mem_singleton.mpr rfl) rfl
  have hlen : (U ++ fr.take i).length ≤ 10000 := by
    have := (List.Sublist.append (List.Sublist.refl U) (List.take_sublist i fr)).length_le
    omega
  refine ⟨.ref d, s2, v5, s5, C, d, fd (U ++ fr.take i), ys, ePr q, .bool true, kPr q, rfl, h2.cells, hs, en, keys_nd (fun _ => .bool true) nd0, by rw [fd_length]; omega, tkey_pr q, ?_, r5, .bl true, fun z cc ex ent => ?_⟩
  · intro hm
    unfold fd at hm
    rw [List.map_map] at hm
    obtain ⟨q', hq', e⟩ := List.mem_map.mp hm
    exact hq (by rw [← kPr_inj (show kPr q' = kPr q from e)]; exact hq')
  · refine hN _ _ _ _ (h2.ext cc ex) ex ⟨ys ++ [z], _, rfl, rfl, ?_⟩
    have e3 : fd (U ++ fr.take i) ++ [(kPr q, .bool true)] = fd (U ++ fr.take (i + 1)) := by
      rw [e1]
      simp [fd]
    rw [← e3]
    exact ent
end
end TW
namespace TW
open PySem PySem.Spec PyProof.Rows L2 FL
theorem pc_eval {tt : List (List Nat)} {n : Nat} {fr : List Pr} {x2 x4 x5 x6 : Option FL.D} {Q : Bool → Prop} (h : Q (decide (¬ fr = []))) : Pc_law_pairs_one [some (.d (eTt tt)), some (.d (eN n)), x2, some (.d (.list (fr.map ePr))), x4, x5, x6] Q := by
  have okl : okd (.list (fr.map ePr)) := (sh_lst (shAll_map fun i _ => sh_pr i)).okd
  have oke : okd (.list []) := (sh_lst (shAll_nil (k := 0))).okd
  simp [Pc_law_pairs_one, eqv_prs_nil, dstart, dSeq, dRet, dAsg, dPar, dIfS, dDrop, dNext, dVar, dC, dOp, dTst, dAnd, dOr, dNot, dIf, dAndV, dOrV, dNotV, dChain, dNil, dCons, dTup, dLst, dCall, plains, dIsi, isaP, drI, drI0, drPlus, drIx, drEq, drNe, drIn, drNIn, drIsN, drNotN, drLen, drAll, drSum, drMin, drMax, drTuple, drList, drDict, drInt, drAbs, dIterL, dIterT, dRng1, dRng2, dEnum, Tgt.put, dLc, dLc2, dYes, dInW, dTail, dHead, dRev, dMerge, dNew, dCount, dFor, List.getElem?_cons_zero, List.getElem?_cons_succ, List.map, List.length, List.replicate, List.append, List.cons_append, List.nil_append, List.append_nil, List.set, Option.map, Nat.sub_self, ne_pt, ne_pi, ne_pa, ne_tp, ne_ti, ne_ta, ne_ip, ne_it, ne_ia, ne_ap, ne_at, ne_ai, ne_kt, ne_kp, ne_pk, ne_pu, ne_uk, ne_up, okd_int, okd_bl, okd_pairs, okd_takes, okd_tie, okd_ask, okd_know, okd_part, okd_turn, tkey_ii, eqv_int, eqv_str, atI_0, atI_1, atI_2, atI_3, atI_4, ci, eqv_bl, lay_ii, atI_5]
  exact ⟨okl, oke, by simpa using h⟩
theorem pure_pairs_one (P : Program) (w : World) (K : PySem.W.Frag) (C : Cells) (vs : List V) (ds : List FL.D) (H0 : Hp) (R : FL.D → Prop) (k : VK) (r : RepAll P w C H0 vs ds) (c : CellsOk C H0) (t : T_law_pairs_one ds R) (hk : ∀ v H' d, RepD P w C H' v d → CellsOk C H' → Keep C H0 H' → R d → k v H') :
    (L_law_pairs_one P w K) { nx := fun _ H' => k .non H', rt := k } (L2.start ["_law_tables", "_law_many", "_law_found", "_law_fresh", "_law_one", "_law_pair", "_law_other"] vs) H0 := by
  obtain ⟨tt, n, rfl, ht, hn, hR⟩ := t
  have hbig := big_line
  have hpl : (prs n).length ≤ 10000 := prs_small (by omega)
  have h0 := start_here (N := ["_law_tables", "_law_many", "_law_found", "_law_fresh", "_law_one", "_law_pair", "_law_other"]) r c
  refine fun d hd hsys => ?_
  have nC := c.free hd
  have k1 : Keep C H0 (upd H0 d (.ext (dictIs P w d []))) := Keep.new hd
  have c1 : CellsOk C (upd H0 d (.ext (dictIs P w d []))) := c.new hd
  refine ⟨C, _, fun e => e = .d (.list ([(0, 0)].map ePr)), h0.go c1 k1, ?_, fun v H2 e rv c2 k2 q => ?_⟩
  · simp [P0_law_pairs_one, dstart, dSeq, dRet, dAsg, dPar, dIfS, dDrop, dNext, dVar, dC, dOp, dTst, dAnd, dOr, dNot, dIf, dAndV, dOrV, dNotV, dChain, dNil, dCons, dTup, dLst, dCall, plains, dIsi, isaP, drI, drI0, drPlus, drIx, drEq, drNe, drIn, drNIn, drIsN, drNotN, drLen, drAll, drSum, drMin, drMax, drTuple, drList, drDict, drInt, drAbs, dIterL, dIterT, dRng1, dRng2, dEnum, Tgt.put, dLc, dLc2, dYes, dInW, dTail, dHead, dRev, dMerge, dNew, dCount, dFor, List.getElem?_cons_zero, List.getElem?_cons_succ, List.map, List.length, List.replicate, List.append, List.cons_append, List.nil_append, List.append_nil, List.set, Option.map, Nat.sub_self, ne_pt, ne_pi, ne_pa, ne_tp, ne_ti, ne_ta, ne_ip, ne_it, ne_ia, ne_ap, ne_at, ne_ai, ne_kt, ne_kp, ne_pk, ne_pu, ne_uk, ne_up, okd_int, okd_bl, okd_pairs, okd_takes, okd_tie, okd_ask, okd_know, okd_part, okd_turn, tkey_ii, eqv_int, eqv_str, atI_0, atI_1, atI_2, atI_3, atI_4, ci, eqv_bl, lay_ii, atI_5]
    rfl
  subst q
  refine ⟨_, _, rfl, ?_⟩
  have a2 : H2 d = some (.ext (dictIs P w d [])) := k2 _ _ upd_same nC
  have h2 := (((h0.go c1 k1).go c2 k2).set (i := 2) (v := .ref d) (d := .adr d) rfl).set (i := 3) rv
  refine ⟨Wpo P w C H0 tt n, ⟨_, [], [(0, 0)], d, [], h2, nC, hd, ⟨hsys, Nat.zero_le _, a2, List.nodup_nil, .nil⟩, k1.trans k2, List.nodup_nil, by simp, fun _ z => z, by simp, rfl⟩, ?_⟩
  clear h2 a2 rv k2 c2 k1 c1 nC hd hsys
  rintro m σ H ⟨U, fr, d, xs, hh, nC, hd, da, kp, nd, sub, un, hfr, rfl⟩
  have hUl := nd_len nd sub
  refine ⟨C, _, fun b => b = decide (¬ fr = []), hh, pc_eval rfl, fun b H1 c1 k1 e => ?_⟩
  have hh1 := hh.go c1 k1
  have da1 := da.keep k1 nC
  have kp1 := kp.trans k1
  by_cases z : fr = []
  · rw [decide_eq_false (by simp [z])] at e
    subst e
    obtain ⟨v2, s2, r2⟩ := hh1.rep 2 _ rfl
    obtain rfl : v2 = .ref d := r2
    have h3 := here_alt (i := 2) (d := .dct (fd U)) hh1 s2 ⟨d, xs, rfl, nC, da1⟩
    exact liftS_ret R h3 (hR U (un U (.done (hfr z)))) fun v H' dd rd cc kk q => hk v H' dd rd cc (kp1.trans kk) q
  · rw [decide_eq_true z] at e
    subst e
    rw [if_neg z]
    refine ⟨fun σ' H' => ∃ m', m' < 1 + ((prs n).length - U.length) ∧ Wpo P w C H0 tt n m' σ' H', fun _ _ z => z, ?_⟩
    refine ⟨Nat.zero_le _, fun p hp => ?_⟩
    have pC := c1.free hp
    have x1 : Ext C H1 (withC C p (.lst [])) (upd H1 p (.lst [])) := Ext.made c1 hp
    have g1 := (hh1.ext (c1.made (o := .lst []) hp) x1).set (i := 3) (v := .ref p) (d := .adr p) rfl
    obtain ⟨da2, dn2⟩ := dct_ext da1 nC x1
    refine tFor_cell (C0 := C) (p := p) (o0 := .lst []) (xs := List.range n) (enc := fun a : Nat => dI (0 + (a : Nat))) (I1 P w C tt n U d p xs) i1_keep g1 ?hI ⟨[], none, none, rfl, rfl, .nil, da2, dn2⟩ ?hb ?he
    case hI =>
      simp [Pi1_law_pairs_one, eN, dstart, dSeq, dRet, dAsg, dPar, dIfS, dDrop, dNext, dVar, dC, dOp, dTst, dAnd, dOr, dNot, dIf, dAndV, dOrV, dNotV, dChain, dNil, dCons, dTup, dLst, dCall, plains, dIsi, isaP, drI, drI0, drPlus, drIx, drEq, drNe, drIn, drNIn, drIsN, drNotN, drLen, drAll, drSum, drMin, drMax, drTuple, drList, drDict, drInt, drAbs, dIterL, dIterT, dRng1, dRng2, dEnum, Tgt.put, dLc, dLc2, dYes, dInW, dTail, dHead, dRev, dMerge, dNew, dCount, dFor, List.getElem?_cons_zero, List.getElem?_cons_succ, List.map, List.length, List.replicate, List.append, List.cons_append, List.nil_append, List.append_nil, List.set, Option.map, Nat.sub_self, ne_pt, ne_pi, ne_pa, ne_tp, ne_ti, ne_ta, ne_ip, ne_it, ne_ia, ne_ap, ne_at, ne_ai, ne_kt, ne_kp, ne_pk, ne_pu, ne_uk, ne_up, okd_int, okd_bl, okd_pairs, okd_takes, okd_tie, okd_ask, okd_know, okd_part, okd_turn, tkey_ii, eqv_int, eqv_str, atI_0, atI_1, atI_2, atI_3, atI_4, ci, eqv_bl, lay_ii, atI_5]
      exact ⟨by unfold inI; omega, by rw [intD_eq]; simp⟩
    case hb =>
      intro i a o σ H δ hx hh ex inv N hN v rv
      have rv' : RepD P w (withC C p o) H v (.d (eN a)) := by
        have e : (dI (0 + (a : Nat)) : FL.D) = .d (eN a) := by simp [eN]
        rw [← e]
        exact rv
      exact turn1 ht hn hx hh inv hN rv'
    case he =>
      rintro o σ3 H3 δ h3 ex ⟨av, x4, x6, rfl, rfl, ra, da3, dn3⟩
      have e1 : ((List.range n).take (List.range n).length).flatMap (row n) = prs n := by rw [List.take_length]; exact prs_row n
      rw [e1, rnd_g] at ra
      -- the list is made
      have xd : Ext (withC C p (.lst av)) H3 C H3 := Ext.done pC
      have cd := h3.cells.done pC
      have h4 := h3.ext cd xd
      obtain ⟨v3, s3, r3⟩ := h4.rep 3 _ rfl
      obtain rfl : v3 = .ref p := r3
      have rl : Rp C H3 (.ref p) (.list ((rnd tt n U).map ePr)) := .lst pC h3.cells.at_ (ra.ext xd)
      have h5 := here_alt (i := 3) (d := .d (.list ((rnd tt n U).map ePr))) h4 s3 rl
      obtain ⟨da4, _⟩ := dct_ext da3 dn3 xd
      have kp4 : Keep C H0 H3 := kp1.trans ((x1.trans ex).trans xd).keep
      have h6 : Here P w C H3 σ3 [some (.d (eTt tt)), some (.d (eN n)), some (.adr d), some (.d (.list ((rnd tt n U).map ePr))), none, none, none] := here_sub h5 rfl fun j e hj => by
        match j, hj with
        | 0, hj => exact hj
        | 1, hj => exact hj
        | 2, hj => exact hj
        | 3, hj => exact hj
        | 4, hj => cases hj
        | 5, hj => cases hj
        | 6, hj => cases hj
        | j + 7, hj => exact hj
      have h7 := here_lock h6 nC da4.at_ fun j kvs hj => by
        match j, hj with
        | 0, hj => cases hj
        | 1, hj => cases hj
        | 2, hj => cases hj
        | 3, hj => cases hj
        | 4, hj => cases hj
        | 5, hj => cases hj
        | 6, hj => cases hj
        | j + 7, hj => cases hj
      have nd2 := rnd_nd (tt := tt) (n := n) nd
      have sub2 : ∀ q ∈ U ++ rnd tt n U, q ∈ prs n := fun q hq => by
        rcases List.mem_append.mp hq with z | z
        · exact sub q z
        · exact (mem_rnd z).1
      have hl2 := nd_len nd2 sub2
      have en0 : EntOk (withC C d (.ext (dictIs P w d xs))) H3 xs (fd (U ++ (rnd tt n U).take 0)) := by
        rw [List.take_zero, List.append_nil]
        exact Paired.mapP da4.ent fun _ _ z => ⟨z.1, ⟨rp_lock da4.at_ z.2.1.1, z.2.1.2⟩, rp_lock da4.at_ z.2.2⟩
      refine tFor_cell (C0 := C) (p := d) (o0 := .ext (dictIs P w d xs)) (xs := rnd tt n U) (enc := fun q : Pr => .d (ePr q)) (I3 P w C tt n U (rnd tt n U) d) i3_keep h7 ?hI3 ⟨xs, none, rfl, rfl, en0⟩ ?hb3 ?he3
      case hI3 =>
        simp [Pi3_law_pairs_one, Function.comp_def, dstart, dSeq, dRet, dAsg, dPar, dIfS, dDrop, dNext, dVar, dC, dOp, dTst, dAnd, dOr, dNot, dIf, dAndV, dOrV, dNotV, dChain, dNil, dCons, dTup, dLst, dCall, plains, dIsi, isaP, drI, drI0, drPlus, drIx, drEq, drNe, drIn, drNIn, drIsN, drNotN, drLen, drAll, drSum, drMin, drMax, drTuple, drList, drDict, drInt, drAbs, dIterL, dIterT, dRng1, dRng2, dEnum, Tgt.put, dLc, dLc2, dYes, dInW, dTail, dHead, dRev, dMerge, dNew, dCount, dFor, List.getElem?_cons_zero, List.getElem?_cons_succ, List.map, List.length, List.replicate, List.append, List.cons_append, List.nil_append, List.append_nil, List.set, Option.map, Nat.sub_self, ne_pt, ne_pi, ne_pa, ne_tp, ne_ti, ne_ta, ne_ip, ne_it, ne_ia, ne_ap, ne_at, ne_ai, ne_kt, ne_kp, ne_pk, ne_pu, ne_uk, ne_up, okd_int, okd_bl, okd_pairs, okd_takes, okd_tie, okd_ask, okd_know, okd_part, okd_turn, tkey_ii, eqv_int, eqv_str, atI_0, atI_1, atI_2, atI_3, atI_4, ci, eqv_bl, lay_ii, atI_5]
      case hb3 =>
        intro i q o σ H δ hx hh ex inv N hN v rv
        exact turn3 da4.sys nd2 (by omega) hx hh inv hN rv
      case he3 =>
        rintro o σ8 H8 δ h8 ex8 ⟨ys, x5, rfl, rfl, en8⟩
        rw [List.take_length] at en8
        have xd8 : Ext (withC C d (.ext (dictIs P w d ys))) H8 C H8 := Ext.done nC
        have cd8 := h8.cells.done nC
        have h9 := h8.ext cd8 xd8
        have ly : ys.length = (fd (U ++ rnd tt n U)).length := Paired.length en8
        rw [fd_length] at ly
        have kp8 : Keep C H0 H8 := fun b o hb nb => by
          have ne : b ≠ d := fun e => by rw [e, hd] at hb; cases hb
          exact (ex8.go b o (kp4 b o hb nb) (by rw [withC_ne ne]; exact nb)).2
        refine ⟨_, ?_, U ++ rnd tt n U, rnd tt n U, d, ys, here_sub h9 rfl fun j e hj => ?_, nC, hd, ⟨da4.sys, by omega, h8.cells.at_, keys_nd (fun _ => .bool true) nd2, Paired.mapP en8 fun _ _ z => ⟨z.1, ⟨z.2.1.1.ext xd8, z.2.1.2⟩, z.2.2.ext xd8⟩⟩, kp8, nd2, sub2, fun V hV => ?_, fun z => ?_, rfl⟩
        · rw [List.length_append] at hl2 ⊢
          by_cases c : rnd tt n U = []
          · rw [if_pos c]
            omega
          · have : 0 < (rnd tt n U).length := List.length_pos_iff.mpr c
            rw [if_neg c]
            omega
        · match j, hj with
          | 0, hj => exact hj
          | 1, hj => exact hj
          | 2, hj => exact hj
          | 3, hj => exact hj
          | 4, hj => cases hj
          | 5, hj => cases hj
          | 6, hj => cases hj
          | j + 7, hj => exact hj
        · by_cases c : rnd tt n U = []
          · rw [c, List.append_nil] at hV
            exact un V hV
          · exact un V (.step c hV)
        · rw [z, List.append_nil]
          exact z
section
variable {P : Program} {w : World} {K : PySem.W.Frag} {mg : Str → Option Value} {base : Heap} (F : Fc K mg)
include F
theorem ok_law_pairs_one : Ok P w K mg base "_law_pairs_one" ["_law_tables", "_law_many"] 3 T_law_pairs_one := by
  refine D_law_pairs_one F (ok_law_leads F) (fun ds Q h => ?_) (fun C vs ds H R k r c t hk => pure_pairs_one P w K C vs ds H R k r c t hk)
  obtain ⟨tt, n, rfl, _⟩ := h
  rfl
end
end TW
namespace TW
open PySem PySem.Spec PyProof.Rows L2 FL
def T_law_right : DRs := fun ds Q => ∃ (k : Nat) (st : List (List It1)), ds = [.d (eN k), .d (eSt st)] ∧ (k = 1 ∨ k = 2) ∧ StOk k st ∧ Q (dB true)
def B_law_right : DTS := dSeq (dPar 2 3 (dLc (dIterT (dVar 1)) (.nm 8) (dYes) (dCall T_law_table (dCons (dVar 0) (dCons (dVar 8) (dNil)))) [8]) (dCall T_law_all_views (dCons (dVar 0) (dNil)))) (dSeq (dAsg (dCall T_law_pairs_one (dCons (dVar 2) (dCons (dVar 3) (dNil)))) (.nm 4)) (dSeq (dAsg (dLc (dIterL (dCall T_law_pairs (dCons (dVar 3) (dNil)))) (.two (.nm 6) (.nm 7)) (dTst (dOp drNIn (dTup (dCons (dVar 6) (dCons (dVar 7) (dNil)))) (dVar 4))) (dTup (dCons (dVar 6) (dCons (dVar 7) (dNil)))) [6, 7]) (.nm 5)) (dRet (dOp drEq (dCall Tlasting_pair (dCons (dVar 0) (dCons (dVar 1) (dNil)))) (dIf (dTst (dOp drNe (dVar 5) (dLst (dNil)))) (dOp drIx (dVar 5) (dC (dI 0))) (dC dN))))))
theorem S_law_right : FnScope ["_law_named", "_law_stock", "_law_tables", "_law_many", "_law_found", "_law_due", "_law_one", "_law_other", "_law_script_here"] ["_law_named", "_law_stock"] (defScope (top 69)) := ⟨rfl, rfl, rfl, by decide +kernel, rfl, by decide +kernel, by decide +kernel⟩
theorem D_law_right {P : Program} {w : World} {K : PySem.W.Frag} {mg : Str → Option Value} {base : Heap} (F : Fc K mg) (o_law_table : Ok P w K mg base "_law_table" ["_law_named", "_law_script_here"] 6 T_law_table) (o_law_all_views : Ok P w K mg base "_law_all_views" ["_law_named"] 1 T_law_all_views) (o_law_pairs_one : Ok P w K mg base "_law_pairs_one" ["_law_tables", "_law_many"] 3 T_law_pairs_one) (o_law_pairs : Ok P w K mg base "_law_pairs" ["_law_people"] 1 T_law_pairs) (olasting_pair : Ok P w K mg base "lasting_pair" ["named", "stock"] 9 Tlasting_pair) {T : DRs} (hlen : ∀ ds Q, T ds Q → ds.length = 2) (hT : ∀ ds Q, T ds Q → B_law_right { nx := fun _ => Q dN, rt := Q } (dstart ["_law_named", "_law_stock", "_law_tables", "_law_many", "_law_found", "_law_due", "_law_one", "_law_other", "_law_script_here"] ds)) : Ok P w K mg base "_law_right" ["_law_named", "_law_stock"] (9 + 1) T :=
  ok_fn F 47 (j := 69) rfl S_law_right T (B_law_right) hlen hT (fun _ _ _ _ _ _ us hl => match us, hl with | [_, _], _ => rfl) fun f cdv A outer s H E hr => dss_cons (ds_par (i := 2) (j := 3) rfl S_law_right.nd rfl rfl (by decide) rfl rfl (de_lc rfl S_law_right.nd (di_tup (dv 1)) (own := [("_law_script_here", 8)]) (blkOk_by (by kernel_rfl)) (fun _ _ _ _ _ => pg_nm (i := 8) S_law_right.nd rfl (by first | exact .inl rfl | exact .inr rfl)) (fun _ _ _ _ _ => dts_nil) (fun _ _ _ _ _ => ok_call o_law_table hr (by decide) rfl (da_cons (dv 0) (da_cons (dv 8) (da_nil))))) (ok_call o_law_all_views hr (by decide) rfl (da_cons (dv 0) (da_nil))) rfl) (dss_cons (ds_set (i := 4) S_law_right.nd rfl (by first | exact .inl rfl | exact .inr rfl) (ok_call o_law_pairs_one hr (by decide) rfl (da_cons (dv 2) (da_cons (dv 3) (da_nil))))) (dss_cons (ds_setLc (i := 5) rfl S_law_right.nd rfl rfl (sw_true rfl rfl rfl rfl) (di_list (ok_call o_law_pairs hr (by decide) rfl (da_cons (dv 3) (da_nil)))) (own := [("_law_one", 6), ("_law_other", 7)]) (blkOk_by (by kernel_rfl)) (fun _ _ _ _ _ => pg_two rfl (pg_nm (i := 6) S_law_right.nd rfl (by first | exact .inl rfl | exact .inr rfl)) (pg_nm (i := 7) S_law_right.nd rfl (by first | exact .inl rfl | exact .inr rfl))) (fun _ _ _ _ _ => dts_one (dt_cmp (od_nin (r65 hr)) (de_tup (da_cons (dv 6) (da_cons (dv 7) (da_nil)))) (dv 4) (by with_unfolding_all rfl))) (fun _ _ _ _ _ => de_tup (da_cons (dv 6) (da_cons (dv 7) (da_nil))))) (dss_one (ds_ret (de_cmp (od_eq hr.units) (ok_call olasting_pair hr (by decide) rfl (da_cons (dv 0) (da_cons (dv 1) (da_nil)))) (de_if (dt_cmp (od_ne hr.units) (dv 5) (de_lst (da_nil)) (nomark _)) (de_ix (xd_ix hr.units) (dv 5) (de_int) (fun _ _ => rfl)) (de_non)) (nomark _))))))
theorem okd_op (o : Option Pr) : okd (eOp o) := by
  cases o with
  | none => exact (sh_none (k := 0)).okd
  | some p => exact (sh_pr p).okd
theorem eqv_op (o : Option Pr) : PyData.eqv (eOp o) (eOp o) = true := by
  cases o with
  | none => rfl
  | some p => exact (eqv_pr p p).trans (by simp)
theorem find_filter (l : List Pr) (g : Pr → Bool) : l.find? g = (l.filter g).head? := by rw [List.head?_filter]
section
variable {P : Program} {w : World} {K : PySem.W.Frag} {mg : Str → Option Value} {base : Heap} (F : Fc K mg)
include F
theorem ok_law_right : Ok P w K mg base "_law_right" ["_law_named", "_law_stock"] 10 T_law_right := by
  refine D_law_right F (ok_law_table F) (ok_law_all_views F) (ok_law_pairs_one F) (ok_law_pairs F) (ok_lasting_pair F) (fun ds Q h => ?_) (fun ds Q h => ?_)
  · obtain ⟨k, st, rfl, h⟩ := h
    rfl
  · obtain ⟨k, st, rfl, hk, hs, h⟩ := h
    have hbig := big_line
    have h64 : vn k ≤ 64 := vw_length hk
    obtain ⟨h1, h2, h3⟩ := id hs
    simp [B_law_right, eSt, Function.comp_def, dstart, dSeq, dRet, dAsg, dPar, dIfS, dDrop, dNext, dVar, dC, dOp, dTst, dAnd, dOr, dNot, dIf, dAndV, dOrV, dNotV, dChain, dNil, dCons, dTup, dLst, dCall, plains, dIsi, isaP, drI, drI0, drPlus, drIx, drEq, drNe, drIn, drNIn, drIsN, drNotN, drLen, drAll, drSum, drMin, drMax, drTuple, drList, drDict, drInt, drAbs, dIterL, dIterT, dRng1, dRng2, dEnum, Tgt.put, dLc, dLc2, dYes, dInW, dTail, dHead, dRev, dMerge, dNew, dCount, dFor, List.getElem?_cons_zero, List.getElem?_cons_succ, List.map, List.length, List.replicate, List.append, List.cons_append, List.nil_append, List.append_nil, List.set, Option.map, Nat.sub_self, ne_pt, ne_pi, ne_pa, ne_tp, ne_ti, ne_ta, ne_ip, ne_it, ne_ia, ne_ap, ne_at, ne_ai, ne_kt, ne_kp, ne_pk, ne_pu, ne_uk, ne_up, okd_int, okd_bl, okd_pairs, okd_takes, okd_tie, okd_ask, okd_know, okd_part, okd_turn, tkey_ii, eqv_int, eqv_str, atI_0, atI_1, atI_2, atI_3, atI_4, ci, eqv_bl, lay_ii, atI_5]
    refine dGo_map (fun v : List It1 => .d (eScr v)) (fun s => eTab (tab k s)) st [] _ (by simp; omega) (fun v hv acc R ha hR => ?_) ?_
    · simp [dStep, dwipe, dstart, dSeq, dRet, dAsg, dPar, dIfS, dDrop, dNext, dVar, dC, dOp, dTst, dAnd, dOr, dNot, dIf, dAndV, dOrV, dNotV, dChain, dNil, dCons, dTup, dLst, dCall, plains, dIsi, isaP, drI, drI0, drPlus, drIx, drEq, drNe, drIn, drNIn, drIsN, drNotN, drLen, drAll, drSum, drMin, drMax, drTuple, drList, drDict, drInt, drAbs, dIterL, dIterT, dRng1, dRng2, dEnum, Tgt.put, dLc, dLc2, dYes, dInW, dTail, dHead, dRev, dMerge, dNew, dCount, dFor, List.getElem?_cons_zero, List.getElem?_cons_succ, List.map, List.length, List.replicate, List.append, List.cons_append, List.nil_append, List.append_nil, List.set, Option.map, Nat.sub_self, ne_pt, ne_pi, ne_pa, ne_tp, ne_ti, ne_ta, ne_ip, ne_it, ne_ia, ne_ap, ne_at, ne_ai, ne_kt, ne_kp, ne_pk, ne_pu, ne_uk, ne_up, okd_int, okd_bl, okd_pairs, okd_takes, okd_tie, okd_ask, okd_know, okd_part, okd_turn, tkey_ii, eqv_int, eqv_str, atI_0, atI_1, atI_2, atI_3, atI_4, ci, eqv_bl, lay_ii, atI_5]
      exact ⟨k, v, rfl, hk, (h3 v hv).1, by have := (h3 v hv).2; omega, ha, hR⟩
    · rw [List.nil_append]
      refine ⟨k, rfl, hk, ?_⟩
      simp [dstart, dSeq, dRet, dAsg, dPar, dIfS, dDrop, dNext, dVar, dC, dOp, dTst, dAnd, dOr, dNot, dIf, dAndV, dOrV, dNotV, dChain, dNil, dCons, dTup, dLst, dCall, plains, dIsi, isaP, drI, drI0, drPlus, drIx, drEq, drNe, drIn, drNIn, drIsN, drNotN, drLen, drAll, drSum, drMin, drMax, drTuple, drList, drDict, drInt, drAbs, dIterL, dIterT, dRng1, dRng2, dEnum, Tgt.put, dLc, dLc2, dYes, dInW, dTail, dHead, dRev, dMerge, dNew, dCount, dFor, List.getElem?_cons_zero, List.getElem?_cons_succ, List.map, List.length, List.replicate, List.append, List.cons_append, List.nil_append, List.append_nil, List.set, Option.map, Nat.sub_self, ne_pt, ne_pi, ne_pa, ne_tp, ne_ti, ne_ta, ne_ip, ne_it, ne_ia, ne_ap, ne_at, ne_ai, ne_kt, ne_kp, ne_pk, ne_pu, ne_uk, ne_up, okd_int, okd_bl, okd_pairs, okd_takes, okd_tie, okd_ask, okd_know, okd_part, okd_turn, tkey_ii, eqv_int, eqv_str, atI_0, atI_1, atI_2, atI_3, atI_4, ci, eqv_bl, lay_ii, atI_5]
      refine ⟨st.map (tab k), vn k, by simp [eTt, Function.comp_def], ttOk_tab k st, h64, fun U hU => ?_⟩
      refine ⟨vn k, rfl, by omega, ?_⟩
      have hp : (prs (vn k)).length ≤ 10000 := prs_small (by omega)
      simp [Function.comp_def, dstart, dSeq, dRet, dAsg, dPar, dIfS, dDrop, dNext, dVar, dC, dOp, dTst, dAnd, dOr, dNot, dIf, dAndV, dOrV, dNotV, dChain, dNil, dCons, dTup, dLst, dCall, plains, dIsi, isaP, drI, drI0, drPlus, drIx, drEq, drNe, drIn, drNIn, drIsN, drNotN, drLen, drAll, drSum, drMin, drMax, drTuple, drList, drDict, drInt, drAbs, dIterL, dIterT, dRng1, dRng2, dEnum, Tgt.put, dLc, dLc2, dYes, dInW, dTail, dHead, dRev, dMerge, dNew, dCount, dFor, List.getElem?_cons_zero, List.getElem?_cons_succ, List.map, List.length, List.replicate, List.append, List.cons_append, List.nil_append, List.append_nil, List.set, Option.map, Nat.sub_self, ne_pt, ne_pi, ne_pa, ne_tp, ne_ti, ne_ta, ne_ip, ne_it, ne_ia, ne_ap, ne_at, ne_ai, ne_kt, ne_kp, ne_pk, ne_pu, ne_uk, ne_up, okd_int, okd_bl, okd_pairs, okd_takes, okd_tie, okd_ask, okd_know, okd_part, okd_turn, tkey_ii, eqv_int, eqv_str, atI_0, atI_1, atI_2, atI_3, atI_4, ci, eqv_bl, lay_ii, atI_5]
      refine dGo_fm (fun p : Pr => .d (ePr p)) (fun p => decide (p ∉ U)) ePr (prs (vn k)) [] _ (by simp; omega) (fun p hp2 acc R ha hR => ?_) ?_
      · have e4 : NestedKey.tup [.num (p.1 : Int), .num (p.2 : Int)] = kPr p := rfl
        simp [dStep, dwipe, ePr, eN, dstart, dSeq, dRet, dAsg, dPar, dIfS, dDrop, dNext, dVar, dC, dOp, dTst, dAnd, dOr, dNot, dIf, dAndV, dOrV, dNotV, dChain, dNil, dCons, dTup, dLst, dCall, plains, dIsi, isaP, drI, drI0, drPlus, drIx, drEq, drNe, drIn, drNIn, drIsN, drNotN, drLen, drAll, drSum, drMin, drMax, drTuple, drList, drDict, drInt, drAbs, dIterL, dIterT, dRng1, dRng2, dEnum, Tgt.put, dLc, dLc2, dYes, dInW, dTail, dHead, dRev, dMerge, dNew, dCount, dFor, List.getElem?_cons_zero, List.getElem?_cons_succ, List.map, List.length, List.replicate, List.append, List.cons_append, List.nil_append, List.append_nil, List.set, Option.map, Nat.sub_self, ne_pt, ne_pi, ne_pa, ne_tp, ne_ti, ne_ta, ne_ip, ne_it, ne_ia, ne_ap, ne_at, ne_ai, ne_kt, ne_kp, ne_pk, ne_pu, ne_uk, ne_up, okd_int, okd_bl, okd_pairs, okd_takes, okd_tie, okd_ask, okd_know, okd_part, okd_turn, tkey_ii, eqv_int, eqv_str, atI_0, atI_1, atI_2, atI_3, atI_4, ci, eqv_bl, lay_ii, atI_5]
        rw [e4, look_fd]
        by_cases c : p ∈ U
        · simp [c] at hR ⊢
          exact hR
        · simp [c] at hR ⊢
          exact ⟨ha, hR⟩
      · rw [List.nil_append]
        refine ⟨k, st, rfl, hk, hs, fun U2 hU2 => ?_⟩
        obtain rfl := hU.det hU2
        have eL : lastD (vn k) U = ((prs (vn k)).filter fun p => decide (p ∉ U)).head? := find_filter _ _
        have okl : okd (.list (((prs (vn k)).filter fun p => decide (p ∉ U)).map ePr)) := (sh_lst (shAll_map fun i _ => sh_pr i)).okd
        have oke : okd (.list []) := (sh_lst (shAll_nil (k := 0))).okd
        have fin : Q (dB (PyData.eqv (eOp (lastD (vn k) U)) (eOp (lastD (vn k) U)))) := by rw [eqv_op]; exact h
        have ok1 := okd_op (lastD (vn k) U)
        rw [eL] at fin ok1 ⊢
        generalize (prs (vn k)).filter (fun p => decide (p ∉ U)) = l at *
        cases l with
        | nil =>
          simp [eqv_prs_nil, dstart, dSeq, dRet, dAsg, dPar, dIfS, dDrop, dNext, dVar, dC, dOp, dTst, dAnd, dOr, dNot, dIf, dAndV, dOrV, dNotV, dChain, dNil, dCons, dTup, dLst, dCall, plains, dIsi, isaP, drI, drI0, drPlus, drIx, drEq, drNe, drIn, drNIn, drIsN, drNotN, drLen, drAll, drSum, drMin, drMax, drTuple, drList, drDict, drInt, drAbs, dIterL, dIterT, dRng1, dRng2, dEnum, Tgt.put, dLc, dLc2, dYes, dInW, dTail, dHead, dRev, dMerge, dNew, dCount, dFor, List.getElem?_cons_zero, List.getElem?_cons_succ, List.map, List.length, List.replicate, List.append, List.cons_append, List.nil_append, List.append_nil, List.set, Option.map, Nat.sub_self, ne_pt, ne_pi, ne_pa, ne_tp, ne_ti, ne_ta, ne_ip, ne_it, ne_ia, ne_ap, ne_at, ne_ai, ne_kt, ne_kp, ne_pk, ne_pu, ne_uk, ne_up, okd_int, okd_bl, okd_pairs, okd_takes, okd_tie, okd_ask, okd_know, okd_part, okd_turn, tkey_ii, eqv_int, eqv_str, atI_0, atI_1, atI_2, atI_3, atI_4, ci, eqv_bl, lay_ii, atI_5]
          exact ⟨oke, ok1, ok1, fin⟩
        | cons p l =>
          simp [eqv_prs_nil, dstart, dSeq, dRet, dAsg, dPar, dIfS, dDrop, dNext, dVar, dC, dOp, dTst, dAnd, dOr, dNot, dIf, dAndV, dOrV, dNotV, dChain, dNil, dCons, dTup, dLst, dCall, plains, dIsi, isaP, drI, drI0, drPlus, drIx, drEq, drNe, drIn, drNIn, drIsN, drNotN, drLen, drAll, drSum, drMin, drMax, drTuple, drList, drDict, drInt, drAbs, dIterL, dIterT, dRng1, dRng2, dEnum, Tgt.put, dLc, dLc2, dYes, dInW, dTail, dHead, dRev, dMerge, dNew, dCount, dFor, List.getElem?_cons_zero, List.getElem?_cons_succ, List.map, List.length, List.replicate, List.append, List.cons_append, List.nil_append, List.append_nil, List.set, Option.map, Nat.sub_self, ne_pt, ne_pi, ne_pa, ne_tp, ne_ti, ne_ta, ne_ip, ne_it, ne_ia, ne_ap, ne_at, ne_ai, ne_kt, ne_kp, ne_pk, ne_pu, ne_uk, ne_up, okd_int, okd_bl, okd_pairs, okd_takes, okd_tie, okd_ask, okd_know, okd_part, okd_turn, tkey_ii, eqv_int, eqv_str, atI_0, atI_1, atI_2, atI_3, atI_4, ci, eqv_bl, lay_ii, atI_5]
          refine ⟨okl, oke, ?_⟩
          have e0 : PyData.eqv (.list (ePr p :: l.map ePr)) (.list []) = false := rfl
          rw [e0, if_neg (by simp)]
          exact ⟨ok1, ok1, fin⟩
end
end TW
namespace TW
open PySem PySem.Spec PyProof.Rows L2 FL
theorem lead_mono {U V : List Pr} {tt : List (List Nat)} {p : Pr} (h : ∀ q ∈ U, q ∈ V) (l : lead U tt p = true) : lead V tt p = true := by
  unfold lead at l ⊢
  obtain ⟨t, h1, h2⟩ := List.any_eq_true.mp l
  refine List.any_eq_true.mpr ⟨t, h1, ?_⟩
  simp only [Bool.or_eq_true, decide_eq_true_eq] at h2 ⊢
  exact h2.imp id (h _)
theorem un_end {tt : List (List Nat)} {n : Nat} {U V : List Pr} (h : Un tt n U V) : rnd tt n V = [] := by
  induction h with
  | done e => exact e
  | step _ _ ih => exact ih
theorem end_mem {tt : List (List Nat)} {n : Nat} {V : List Pr} {p : Pr} (h : rnd tt n V = []) (hp : p ∈ prs n) (l : lead V tt p = true) : p ∈ V := by
  by_cases c : p ∈ V
  · exact c
  · have : p ∈ rnd tt n V := List.mem_filter.mpr ⟨hp, by simp [c, l]⟩
    rw [h] at this
    cases this
/-- each of the chain is led by those before it -/
def chOk (tt : List (List Nat)) (n : Nat) : List Pr → List Pr → Bool
  | _, [] => true
  | b, p :: r => decide (p.1 < p.2) && decide (p.2 < n) && lead b tt p && chOk tt n (p :: b) r
theorem chain_mem {tt : List (List Nat)} {n : Nat} {V : List Pr} (h : rnd tt n V = []) : ∀ {c b : List Pr}, chOk tt n b c = true → (∀ q ∈ b, q ∈ V) → ∀ q ∈ c, q ∈ V
  | [], _, _, _, q, hq => by cases hq
  | p :: r, b, hc, hb, q, hq => by
    unfold chOk at hc
    simp only [Bool.and_eq_true, decide_eq_true_eq] at hc
    obtain ⟨⟨⟨h1, h2⟩, h3⟩, h4⟩ := hc
    have hp : p ∈ V := end_mem h (mem_prs.mpr ⟨h1, h2⟩) (lead_mono hb h3)
    rcases List.mem_cons.mp hq with z | z
    · rw [z]
      exact hp
    · exact chain_mem h h4 (fun x hx => by
        rcases List.mem_cons.mp hx with y | y
        · rw [y]; exact hp
        · exact hb x y) q z
/-- nothing leads out of S -/
def shut (tt : List (List Nat)) (S : List Pr) : Bool := S.all fun p => tt.all fun t => decide (t.getD p.1 0 ≠ t.getD p.2 0) && decide (mm (t.getD p.1 0) (t.getD p.2 0) ∈ S)
theorem shut_out {tt : List (List Nat)} {n : Nat} {S U V : List Pr} (hs : shut tt S = true) (h : Un tt n U V) : (∀ p ∈ S, p ∉ U) → ∀ p ∈ S, p ∉ V := by
  induction h with
  | done _ => exact id
  | @step U V _ _ ih =>
    intro hU
    refine ih fun p hp hm => ?_
    rcases List.mem_append.mp hm with z | z
    · exact hU p hp z
    · obtain ⟨_, h2⟩ := List.mem_filter.mp z
      simp only [Bool.and_eq_true] at h2
      have h3 := h2.2
      unfold lead at h3
      obtain ⟨t, ht, h4⟩ := List.any_eq_true.mp h3
      have h5 := List.all_eq_true.mp (List.all_eq_true.mp hs p hp) t ht
      simp only [Bool.and_eq_true, decide_eq_true_eq, Bool.or_eq_true] at h4 h5
      rcases h4 with h6 | h6
      · exact h5.1 h6
      · exact hU _ h5.2 h6
theorem last_of {n : Nat} {V : List Pr} {c r : List Pr} {p : Pr} (e : prs n = c ++ p :: r) (hc : ∀ q ∈ c, q ∈ V) (hp : p ∉ V) : lastD n V = some p := by
  unfold lastD
  rw [e, List.find?_append, List.find?_eq_none.mpr (by intro q hq; simp [hc q hq])]
  simp [hp]
theorem last_cert {tt : List (List Nat)} {n : Nat} {V c r ch S : List Pr} {p : Pr} (h : Un tt n [] V) (e : prs n = c ++ p :: r) (hch : chOk tt n [] ch = true) (hc : ∀ q ∈ c, q ∈ ch) (hs : shut tt S = true) (hp : p ∈ S) : lastD n V = some p :=
  last_of e (fun q hq => chain_mem (un_end h) hch (by simp) q (hc q hq)) (shut_out hs h (by simp) p hp)
theorem vn1 : vn 1 = 8 := by decide +kernel
theorem vn2 : vn 2 = 64 := by decide +kernel
theorem prs8 : prs 8 = [] ++ (0, 1) :: (prs 8).tail := by decide +kernel
theorem prs64 : prs 64 = [(0, 1), (0, 2), (0, 3), (0, 4), (0, 5)] ++ (0, 6) :: (prs 64).drop 6 := by decide +kernel
theorem prs64' : prs 64 = [] ++ (0, 1) :: (prs 64).tail := by decide +kernel
def turning : List (List It1) := [[.deed (.pairs 0 [true, true, true, false, false, false])]]
def zeros : List (List It1) := [[.deed (.pairs 0 [false, false, false, false, false, false])]]
theorem c_forgets {V : List Pr} (h : Un ((forgets.take 2).map (tab 2)) (vn 2) [] V) : lastD (vn 2) V = some (0, 6) := by
  rw [vn2] at h ⊢
  exact last_cert (ch := [(0, 1), (0, 2), (0, 3), (0, 26), (0, 4), (0, 27), (0, 5)]) (S := [(0, 6), (0, 28), (0, 41), (0, 63)]) h prs64 (by decide +kernel) (by decide) (by decide +kernel) (by decide)
theorem c_turning {V : List Pr} (h : Un (turning.map (tab 1)) (vn 1) [] V) : lastD (vn 1) V = some (0, 1) := by
  rw [vn1] at h ⊢
  exact last_cert (ch := []) (S := prs 8) h prs8 (by decide +kernel) (by decide) (by decide +kernel) (by decide +kernel)
theorem c_zeros {V : List Pr} (h : Un (zeros.map (tab 1)) (vn 1) [] V) : lastD (vn 1) V = some (0, 1) := by
  rw [vn1] at h ⊢
  exact last_cert (ch := []) (S := [(0, 1)]) h prs8 (by decide +kernel) (by decide) (by decide +kernel) (by decide +kernel)
theorem c_six {V : List Pr} (h : Un ((List.replicate 6 []).map (tab 1)) (vn 1) [] V) : lastD (vn 1) V = some (0, 1) := by
  rw [vn1] at h ⊢
  exact last_cert (ch := []) (S := [(0, 1)]) h prs8 (by decide +kernel) (by decide) (by decide +kernel) (by decide +kernel)
theorem c_one {V : List Pr} (h : Un ([[]].map (tab 2)) (vn 2) [] V) : lastD (vn 2) V = some (0, 1) := by
  rw [vn2] at h ⊢
  exact last_cert (ch := []) (S := [(0, 1)]) h prs64' (by decide +kernel) (by decide) (by decide +kernel) (by decide +kernel)
end TW
namespace TW
open PySem PySem.Spec PyProof.Rows L2 FL
def Br_law_cup : DTS := dRet (dLst (dCons (dIf (dTst (dOp drGe (dVar 1) (dOp drPow (dC (dI 10)) (dC (dI 18))))) (dOp drFdiv (dVar 1) (dC (dI 43))) (dC (dI 0))) (dCons (dOp drPlus (dOp drMod (dCall drInt (dCons (dOp drPlus (dOp drMul (dVar 1) (dC (dI 251))) (dC (dI 2111))) (dNil))) (dC (dI 2077503301))) (dC (dI 137))) (dNil))))
abbrev rAbsC : List V → Hp → VK → Prop := fun xs H Q => ∃ i, xs = [.int i] ∧ Q (.int (if i < 0 then -i else i)) H
abbrev rListC (K : PySem.W.Frag) : List V → Hp → VK → Prop := fun xs H Q => ∃ p ys, xs = [.ref p] ∧ (SqL K H p ys ∨ SqT K H p ys) ∧ ∀ l, H l = none → Q (.ref l) (upd H l (.lst ys))
def L_law_cup (P : Program) (w : World) (K : PySem.W.Frag) : TS := tSeq (L2.tAsg (tCB rAbsC (tCons (L2.tOp (rIxL K) (L2.tOp rCat (tCB (rListC K) (tCons (tVar 0) tNil)) (tLst (tCons (tC (.int 0)) tNil))) (tC (.int 0))) tNil)) (gName 1)) (liftS P w Br_law_cup)
theorem S_law_cup : FnScope ["_law_script_here", "_law_cell"] ["_law_script_here"] (defScope (top 46)) := ⟨rfl, rfl, rfl, by decide +kernel, rfl, by decide +kernel, by decide +kernel⟩
theorem D_law_cup {P : Program} {w : World} {K : PySem.W.Frag} {mg : Str → Option Value} {base : Heap} (F : Fc K mg) (cdv : Value) (A : Around) (outer : List Env) (s : Shared) (H : Hp) (E : XK) (f : Addr) (hr : Room 0 (A.deeper (envOfC "_law_cup" (defScope (top 46)) s.heap.objs.size f cdv))) : PSs (cxOf CX0 P w K mg base ["_law_script_here", "_law_cell"] "_law_cup" (defScope (top 46)) f cdv A outer s H E).nox (defBody (top 46)) (L_law_cup P w K) :=
  pss_cons (ps_set (i := 1) S_law_cup.nd rfl (.inl rfl) (pe_callB call_abs rfl F.free_abs boot_abs (pa_cons (pe_ix ix_list (pe_op op_cat (pe_callTy call_list_of rfl F.free_list boot_list (pa_cons (pv 0) pa_nil)) (pe_lst (pa_cons pe_int pa_nil))) pe_int (fun _ _ => rfl)) pa_nil))) (pss_one (ds_ret (de_lst (da_cons (de_if (dt_cmp od_ge (dv 1) (de_bin od_pow (de_int) (de_int)) (nomark _)) (de_bin od_fdiv (dv 1) (de_int)) (de_int)) (da_cons (de_bin od_plus (de_bin od_mod (de_callTy cd_int rfl F.free_int boot_int (da_cons (de_bin od_plus (de_bin od_mul (dv 1) (de_int)) (de_int)) (da_nil))) (de_int)) (de_int)) (da_nil))))))
def spCup (K : PySem.W.Frag) : Sp := fun vs H Q _ => ∃ (a : Addr) (ns : List Int), vs = [.ref a] ∧ SqL K H a (ns.map V.int) ∧ ns.length ≤ 1000 ∧ ∀ H' p i j, H' p = some (.lst [.int i, .int j]) → 0 ≤ j → j < 2 ^ 32 → Q (.ref p) H'
theorem pure_cup (P : Program) (w : World) (K : PySem.W.Frag) (vs : List V) (H : Hp) (Q : VK) (E : XK) (h : spCup K vs H Q E) : (L_law_cup P w K) { nx := fun _ H' => Q .non H', rt := Q } (L2.start ["_law_script_here", "_law_cell"] vs) H := by
  obtain ⟨a, ns, rfl, hS, hl, hQ⟩ := h
  have hbig := big_line
  have hv : ∃ i : Int, atI (ns.map V.int ++ [V.int 0]) 0 = some (.int i) := by
    cases ns with
    | nil => exact ⟨0, by simp [atI_0]⟩
    | cons n ns => exact ⟨n, by simp [atI_0]⟩
  obtain ⟨i, hi⟩ := hv
  refine ⟨.ref a, rfl, a, ns.map V.int, rfl, .inl hS, fun l hlN => ?_⟩
  refine ⟨le_line (show 1 ≤ 1000 by decide), fun q hq => ?_⟩
  have ne : l ≠ q := fun e => by rw [← e, upd_same] at hq; cases hq
  refine ⟨l, q, ns.map V.int, [.int 0], rfl, rfl, by rw [upd_ne ne]; exact upd_same, upd_same, by simp; omega, fun p hp => ?_⟩
  refine ⟨p, _, 0, .int i, rfl, rfl, SqL.of upd_same, hi, ?_⟩
  refine ⟨i, rfl, ?_⟩
  refine liftS_ret (C := noCells) (δ := [none, some (dI (if i < 0 then -i else i))]) (fun d => ∃ u v : Int, d = .d (.list [.int u, .int v]) ∧ 0 ≤ v ∧ v < 2 ^ 32) ⟨fun j e hj => ?_, CellsOk.nil, rfl⟩ ?_ fun v H' d rd cc kk q => ?_
  · match j, hj with
    | 0, hj => cases hj
    | 1, hj =>
      cases hj
      exact ⟨_, rfl, Rp.int _⟩
    | j + 2, hj => cases hj
  · simp [Br_law_cup, dstart, dSeq, dRet, dAsg, dPar, dIfS, dDrop, dNext, dVar, dC, dOp, dTst, dAnd, dOr, dNot, dIf, dAndV, dOrV, dNotV, dChain, dNil, dCons, dTup, dLst, dCall, plains, dIsi, isaP, drI, drI0, drPlus, drIx, drEq, drNe, drIn, drNIn, drIsN, drNotN, drLen, drAll, drSum, drMin, drMax, drTuple, drList, drDict, drInt, drAbs, dIterL, dIterT, dRng1, dRng2, dEnum, Tgt.put, dLc, dLc2, dYes, dInW, dTail, dHead, dRev, dMerge, dNew, dCount, dFor, List.getElem?_cons_zero, List.getElem?_cons_succ, List.map, List.length, List.replicate, List.append, List.cons_append, List.nil_append, List.append_nil, List.set, Option.map, Nat.sub_self, ne_pt, ne_pi, ne_pa, ne_tp, ne_ti, ne_ta, ne_ip, ne_it, ne_ia, ne_ap, ne_at, ne_ai, ne_kt, ne_kp, ne_pk, ne_pu, ne_uk, ne_up, okd_int, okd_bl, okd_pairs, okd_takes, okd_tie, okd_ask, okd_know, okd_part, okd_turn, tkey_ii, eqv_int, eqv_str, atI_0, atI_1, atI_2, atI_3, atI_4, ci, eqv_bl, lay_ii, atI_5]
    generalize (if i < 0 then -i else i) = c
    refine ⟨⟨by decide, by decide, by decide⟩, ?_⟩
    split
    · exact ⟨⟨by decide, by decide⟩, .inr ⟨by decide, by decide⟩, _, _, ⟨rfl, rfl⟩, by omega, by omega⟩
    · exact ⟨.inr ⟨by decide, by decide⟩, _, _, ⟨rfl, rfl⟩, by omega, by omega⟩
  · obtain ⟨u, z, rfl, h1, h2⟩ := q
    have rd' : Rp noCells H' v (.list [.int u, .int z]) := rd
    cases rd' with
    | lst n s ra =>
      cases ra with
      | cons r1 t =>
        cases t with
        | cons r2 t2 =>
          cases t2
          obtain rfl := Rp.int_inv r1
          obtain rfl := Rp.int_inv r2
          exact hQ _ _ _ _ s h1 h2
section
variable {P : Program} {w : World} {K : PySem.W.Frag} {mg : Str → Option Value} {base : Heap} (F : Fc K mg)
include F
theorem ok_law_cup : ∃ f fd, mg "_law_cup" = some (.ref f) ∧ PySem.W.keepIn K (.ref f) = true ∧ Binds K fd ["_law_script_here"] [] ∧ FnOk P w K mg base CX0 1 f fd ["_law_script_here"] (spCup K) := by
  obtain ⟨f, fd, h1, h2⟩ := F.defs 27 _ (show fn[27]? = some (dd "_law_cup" 46) from rfl)
  have h1' : FunD K "_law_cup" "_law_cup" (defArgs (top 46)) (defBody (top 46)) (defScope (top 46)) [] [] f fd := h1
  refine ⟨f, fd, h2, h1'.kp, FunD.bindsN h1' (fun _ _ _ _ _ _ us hl => match us, hl with | [_], _ => rfl), h1'.ok S_law_cup (fun vs H Q E h => ?_) (fun cdv A outer s H vs Q E hr h => ⟨L_law_cup P w K, PSs.nox (D_law_cup F cdv A outer s H E f hr), pure_cup P w K vs H Q E h⟩)⟩
  obtain ⟨a, ns, rfl, _⟩ := h
  rfl
end
end TW
namespace TW
open PySem PySem.Spec PyProof.Rows L2 FL
def Li : DTI := dIterT (dTup (dCons (dC (dI 1)) (dCons (dC (dI 1)) (dCons (dCall T_law_some (dCons (dVar 1) (dCons (dLst (dCons (dC (dI 1)) (dCons (dC (dI 2)) (dNil)))) (dNil)))) (dNil)))))
def Lb : DTS := dIfS (dNot (dTst (dCall T_law_right (dCons (dVar 2) (dCons (dCall T_law_some_stock (dCons (dVar 1) (dCons (dVar 2) (dNil)))) (dNil)))))) (dRet (dC (dB false))) (dNext)
def Lf : DTS := dFor Li (.nm 2) Lb
def Ls0 : DTS := dPar 3 4 (dCall T_law_forgets dNil) (dTup (dCons (dTup (dCons (dTup (dCons (dC (dS "pairs")) (dCons (dC (dI 0)) (dCons (dTup (dCons (dC (dI 1)) (dCons (dC (dI 1)) (dCons (dC (dI 1)) (dCons (dC (dI 0)) (dCons (dC (dI 0)) (dCons (dC (dI 0)) (dNil)))))))) (dNil))))) (dNil))) (dNil)))
def Ls1 : DTS := dIfS (dOr (dTst (dOp drNe (dCall Tlasting_pair (dCons (dC (dI 2)) (dCons (dHead 2 (dVar 3)) (dNil)))) (dTup (dCons (dC (dI 0)) (dCons (dC (dI 6)) (dNil)))))) (dOr (dTst (dOp drNe (dCall Tlasting_pair (dCons (dC (dI 1)) (dCons (dVar 4) (dNil)))) (dTup (dCons (dC (dI 0)) (dCons (dC (dI 1)) (dNil)))))) (dTst (dOp drNotN (dCall Tforgetting_way (dCons (dC (dI 1)) (dCons (dVar 4) (dNil)))) (dC dN))))) (dRet (dC (dB false))) (dNext)
def Ls2 : DTS := dIfS (dOr (dTst (dOp drNe (dCall Tlasting_pair (dCons (dC (dI 1)) (dCons (dTup (dCons (dTup (dCons (dTup (dCons (dC (dS "pairs")) (dCons (dC (dI 0)) (dCons (dTup (dCons (dC (dI 0)) (dCons (dC (dI 0)) (dCons (dC (dI 0)) (dCons (dC (dI 0)) (dCons (dC (dI 0)) (dCons (dC (dI 0)) (dNil)))))))) (dNil))))) (dNil))) (dNil))) (dNil)))) (dTup (dCons (dC (dI 0)) (dCons (dC (dI 1)) (dNil)))))) (dTst (dOp drNe (dCall Tlasting_pair (dCons (dC (dI 1)) (dCons (dOp drRepT (dTup (dCons (dTup (dNil)) (dNil))) (dC (dI 6))) (dNil)))) (dTup (dCons (dC (dI 0)) (dCons (dC (dI 1)) (dNil))))))) (dRet (dC (dB false))) (dNext)
def Ls3 : DTS := dRet (dAndV (dOp drEq (dCall Tlasting_pair (dCons (dC (dI 2)) (dCons (dTup (dCons (dTup (dNil)) (dNil))) (dNil)))) (dTup (dCons (dC (dI 0)) (dCons (dC (dI 1)) (dNil))))) (dOp drIsN (dCall Tforgetting_way (dCons (dC (dI 1)) (dCons (dTup (dCons (dTup (dCons (dTup (dCons (dC (dS "pairs")) (dCons (dC (dI 0)) (dCons (dTup (dCons (dC (dI 0)) (dCons (dC (dI 0)) (dCons (dC (dI 0)) (dCons (dC (dI 0)) (dCons (dC (dI 0)) (dCons (dC (dI 0)) (dNil)))))))) (dNil))))) (dNil))) (dNil))) (dNil)))) (dC dN)))
def Lrest : DTS := dSeq Lf (dSeq Ls0 (dSeq Ls1 (dSeq Ls2 (Ls3))))
def L_law (P : Program) (w : World) (K : PySem.W.Frag) : TS := tSeq (L2.tAsg (tCall (spCup K) [] E0 (tCons (tVar 0) tNil)) (gName 1)) (liftS P w Lrest)
theorem Slaw : FnScope ["_law_script_here", "_law_cup_here", "_law_named", "_law_forgets_here", "_law_turning"] ["_law_script_here"] (defScope (top 70)) := ⟨rfl, rfl, rfl, by decide +kernel, rfl, by decide +kernel, by decide +kernel⟩
theorem D_law {P : Program} {w : World} {K : PySem.W.Frag} {mg : Str → Option Value} {base : Heap} (F : Fc K mg) (o_law_some : Ok P w K mg base "_law_some" ["_law_cup_here", "_law_things"] 2 T_law_some) (o_law_right : Ok P w K mg base "_law_right" ["_law_named", "_law_stock"] 10 T_law_right) (o_law_some_stock : Ok P w K mg base "_law_some_stock" ["_law_cup_here", "_law_named"] 7 T_law_some_stock) (o_law_forgets : Ok P w K mg base "_law_forgets" [] 1 T_law_forgets) (olasting_pair : Ok P w K mg base "lasting_pair" ["named", "stock"] 9 Tlasting_pair) (oforgetting_way : Ok P w K mg base "forgetting_way" ["named", "stock"] 9 Tforgetting_way) (cdv : Value) (A : Around) (outer : List Env) (s : Shared) (H : Hp) (E : XK) (f : Addr) (hr : Room 10 (A.deeper (envOfC "law" (defScope (top 70)) s.heap.objs.size f cdv))) : PSs (cxOf CX0 P w K mg base ["_law_script_here", "_law_cup_here", "_law_named", "_law_forgets_here", "_law_turning"] "law" (defScope (top 70)) f cdv A outer s H E).nox (defBody (top 70)) (L_law P w K) := by
  obtain ⟨fc, fdc, h1, h2, h3, h4⟩ := ok_law_cup (P := P) (w := w) (base := base) F
  exact pss_cons (ps_set (i := 1) Slaw.nd rfl (.inl rfl) (pe_call h4 (hr.mono (by decide)) rfl h1 h2 h3 .nil pass0 (pa_cons (pv 0) pa_nil))) (dss_cons (ds_for PassesOwn.never rfl (di_tup (de_tup (da_cons (de_int) (da_cons (de_int) (da_cons (ok_call o_law_some hr (by decide) rfl (da_cons (dv 1) (da_cons (de_lst (da_cons (de_int) (da_cons (de_int) (da_nil)))) (da_nil)))) (da_nil)))))) (pg_nm (i := 2) Slaw.nd rfl (by first | exact .inl rfl | exact .inr rfl)) (dss_one (ds_if (dt_not (dt_val (ok_call o_law_right hr (by decide) rfl (da_cons (dv 2) (da_cons (ok_call o_law_some_stock hr (by decide) rfl (da_cons (dv 1) (da_cons (dv 2) (da_nil)))) (da_nil)))))) (dss_one (ds_ret (de_bl))) (dss_nil)))) (dss_cons (ds_par (i := 3) (j := 4) rfl Slaw.nd rfl rfl (by decide) rfl rfl (ok_call0 o_law_forgets hr (by decide) rfl) (de_tup (da_cons (de_tup (da_cons (de_tup (da_cons (de_str) (da_cons (de_int) (da_cons (de_tup (da_cons (de_int) (da_cons (de_int) (da_cons (de_int) (da_cons (de_int) (da_cons (de_int) (da_cons (de_int) (da_nil)))))))) (da_nil))))) (da_nil))) (da_nil))) rfl) (dss_cons (ds_if (dt_w (dw_or (dt_cmp (od_ne hr.units) (ok_call olasting_pair hr (by decide) rfl (da_cons (de_int) (da_cons (de_head (k := 2) (dv 3)) (da_nil)))) (de_tup (da_cons (de_int) (da_cons (de_int) (da_nil)))) (nomark _)) (dw_or (dt_cmp (od_ne hr.units) (ok_call olasting_pair hr (by decide) rfl (da_cons (de_int) (da_cons (dv 4) (da_nil)))) (de_tup (da_cons (de_int) (da_cons (de_int) (da_nil)))) (nomark _)) (dw_or1 (dt_cmp od_notN (ok_call oforgetting_way hr (by decide) rfl (da_cons (de_int) (da_cons (dv 4) (da_nil)))) (de_non) (nomark _)))))) (dss_one (ds_ret (de_bl))) (dss_nil)) (dss_cons (ds_if (dt_w (dw_or (dt_cmp (od_ne hr.units) (ok_call olasting_pair hr (by decide) rfl (da_cons (de_int) (da_cons (de_tup (da_cons (de_tup (da_cons (de_tup (da_cons (de_str) (da_cons (de_int) (da_cons (de_tup (da_cons (de_int) (da_cons (de_int) (da_cons (de_int) (da_cons (de_int) (da_cons (de_int) (da_cons (de_int) (da_nil)))))))) (da_nil))))) (da_nil))) (da_nil))) (da_nil)))) (de_tup (da_cons (de_int) (da_cons (de_int) (da_nil)))) (nomark _)) (dw_or1 (dt_cmp (od_ne hr.units) (ok_call olasting_pair hr (by decide) rfl (da_cons (de_int) (da_cons (de_bin od_repT (de_tup (da_cons (de_tup (da_nil)) (da_nil))) (de_int)) (da_nil)))) (de_tup (da_cons (de_int) (da_cons (de_int) (da_nil)))) (nomark _))))) (dss_one (ds_ret (de_bl))) (dss_nil)) (dss_one (ds_ret (de_and (de_cmp (od_eq hr.units) (ok_call olasting_pair hr (by decide) rfl (da_cons (de_int) (da_cons (de_tup (da_cons (de_tup (da_nil)) (da_nil))) (da_nil)))) (de_tup (da_cons (de_int) (da_cons (de_int) (da_nil)))) (nomark _)) (de_one (de_cmp od_isN (ok_call oforgetting_way hr (by decide) rfl (da_cons (de_int) (da_cons (de_tup (da_cons (de_tup (da_cons (de_tup (da_cons (de_str) (da_cons (de_int) (da_cons (de_tup (da_cons (de_int) (da_cons (de_int) (da_cons (de_int) (da_cons (de_int) (da_cons (de_int) (da_cons (de_int) (da_nil)))))))) (da_nil))))) (da_nil))) (da_nil))) (da_nil)))) (de_non) (nomark _))))))))))
end TW
namespace TW
open PySem PySem.Spec PyProof.Rows L2 FL
theorem lp_ne {δ : DEnv} {k : Nat} {kd : FL.D} {S T : DT} {st : List (List It1)} {p : Pr} {Q : Bool → Prop} (ekd : kd = .d (eN k)) (hk : k = 1 ∨ k = 2) (hS : Ev S δ (.d (eSt st))) (hT : Ev T δ (.d (ePr p))) (hst : StOk k st)
    (hL : ∀ U, Un (st.map (tab k)) (vn k) [] U → lastD (vn k) U = some p) (q : Q false) : dTst (dOp drNe (dCall Tlasting_pair (dCons (dC kd) (dCons S dNil))) T) δ Q := by
  subst ekd
  refine hS _ ⟨k, st, rfl, hk, hst, fun U hU => hT _ ?_⟩
  rw [hL U hU]
  refine ⟨(sh_pr p).okd, (sh_pr p).okd, ?_⟩
  have e : PyData.eqv (eOp (some p)) (ePr p) = true := (eqv_pr p p).trans (by simp)
  rw [e]
  exact q
theorem lp_eq {δ : DEnv} {k : Nat} {kd : FL.D} {S T : DT} {st : List (List It1)} {p : Pr} {Q : FL.D → Prop} (ekd : kd = .d (eN k)) (hk : k = 1 ∨ k = 2) (hS : Ev S δ (.d (eSt st))) (hT : Ev T δ (.d (ePr p))) (hst : StOk k st)
    (hL : ∀ U, Un (st.map (tab k)) (vn k) [] U → lastD (vn k) U = some p) (q : Q (dB true)) : (dOp drEq (dCall Tlasting_pair (dCons (dC kd) (dCons S dNil))) T) δ Q := by
  subst ekd
  refine hS _ ⟨k, st, rfl, hk, hst, fun U hU => hT _ ?_⟩
  rw [hL U hU]
  refine ⟨(sh_pr p).okd, (sh_pr p).okd, ?_⟩
  have e : PyData.eqv (eOp (some p)) (ePr p) = true := (eqv_pr p p).trans (by simp)
  rw [e]
  exact q
theorem fw_not {δ : DEnv} {k : Nat} {kd : FL.D} {S : DT} {st : List (List It1)} {Q : Bool → Prop} (ekd : kd = .d (eN k)) (hk : k = 1 ∨ k = 2) (hS : Ev S δ (.d (eSt st))) (hst : StOk k st)
    (hL : ∀ U, Un (st.map (tab k)) (vn k) [] U → lastD (vn k) U ≠ none) (q : Q false) : dTst (dOp drNotN (dCall Tforgetting_way (dCons (dC kd) (dCons S dNil))) (dC dN)) δ Q := by
  subst ekd
  exact hS _ ⟨k, st, rfl, hk, hst, hL, q⟩
theorem fw_is {δ : DEnv} {k : Nat} {kd : FL.D} {S : DT} {st : List (List It1)} {Q : FL.D → Prop} (ekd : kd = .d (eN k)) (hk : k = 1 ∨ k = 2) (hS : Ev S δ (.d (eSt st))) (hst : StOk k st)
    (hL : ∀ U, Un (st.map (tab k)) (vn k) [] U → lastD (vn k) U ≠ none) (q : Q (dB true)) : (dOp drIsN (dCall Tforgetting_way (dCons (dC kd) (dCons S dNil))) (dC dN)) δ Q := by
  subst ekd
  exact hS _ ⟨k, st, rfl, hk, hst, hL, q⟩
def Ilaw (r : List Nat) (δ : DEnv) : Prop := ∃ x2 : Option FL.D, δ = [none, some .cup, x2, none, none]
theorem loop_ok {E : DEnds} {x2 : Option FL.D} (h : ∀ x2, E.nx [none, some .cup, x2, none, none]) : Lf E [none, some .cup, x2, none, none] := by
  have hc : ∀ Q : FL.D → Prop, (∀ k3 : Nat, (k3 = 1 ∨ k3 = 2) → Q (.d (.tuple [.int 1, .int 1, .int (k3 : Nat)]))) → dTup (dCons (dC (dI 1)) (dCons (dC (dI 1)) (dCons (dCall T_law_some (dCons (dVar 1) (dCons (dLst (dCons (dC (dI 1)) (dCons (dC (dI 2)) dNil))) dNil))) dNil))) [none, some .cup, x2, none, none] Q := by
    intro Q hQ
    have hs : EvG (dCall T_law_some (dCons (dVar 1) (dCons (dLst (dCons (dC (dI 1)) (dCons (dC (dI 2)) dNil))) dNil))) [none, some .cup, x2, none, none] _ := eg_some rfl (by repeat' (first | with_reducible exact ev_c | with_reducible apply ev_tup | with_reducible apply ev_plusT | exact le_line (by simp) | with_reducible apply ev_lst | with_reducible apply evp_cons | with_reducible exact evp_nil | ((with_reducible apply ev_var); exact rfl))) (by simp) (by simp)
    refine (eg_tup (egp_cons eg_c (egp_cons eg_c (egp_cons hs egp_nil)))) _ fun p hp => ?_
    obtain ⟨_, rfl, _, _, rfl, rfl, _, _, rfl, rfl, z, _, rfl, hz, rfl⟩ := hp
    simp only [List.mem_cons, List.not_mem_nil, or_false] at hz
    rcases hz with rfl | rfl
    · exact hQ 1 (.inl rfl)
    · exact hQ 2 (.inr rfl)
  dsimp only [Lf, dFor, Li, dIterT]
  refine hc _ fun k3 hk3 => ?_
  refine dLoop_inv (fun k : Nat => .d (eN k)) Ilaw [1, 1, k3] _ ⟨x2, rfl⟩ ?_ (fun δ ⟨x, e⟩ => by subst e; exact h x)
  rintro k r _ ⟨a, ha⟩ ⟨x, rfl⟩ N hN
  have hk : k = 1 ∨ k = 2 := by
    have hm : k ∈ [1, 1, k3] := by rw [ha]; simp
    simp at hm
    omega
  simp [Lb, dstart, dSeq, dRet, dAsg, dPar, dIfS, dDrop, dNext, dVar, dC, dOp, dTst, dAnd, dOr, dNot, dIf, dAndV, dOrV, dNotV, dChain, dNil, dCons, dTup, dLst, dCall, plains, dIsi, isaP, drI, drI0, drPlus, drIx, drEq, drNe, drIn, drNIn, drIsN, drNotN, drLen, drAll, drSum, drMin, drMax, drTuple, drList, drDict, drInt, drAbs, dIterL, dIterT, dRng1, dRng2, dEnum, Tgt.put, dLc, dLc2, dYes, dInW, dTail, dHead, dRev, dMerge, dNew, dCount, dFor, List.getElem?_cons_zero, List.getElem?_cons_succ, List.map, List.length, List.replicate, List.append, List.cons_append, List.nil_append, List.append_nil, List.set, Option.map, Nat.sub_self]
  refine ⟨k, rfl, hk, fun st hst => ⟨k, st, rfl, hk, hst, ?_⟩⟩
  simp
  exact hN _ ⟨_, rfl⟩
end TW
namespace TW
open PySem PySem.Spec PyProof.Rows L2 FL
theorem seq_go {t u : DTS} {E : DEnds} {δ : DEnv} (h : t { E with nx := u E } δ) : dSeq t u E δ := h
theorem nx_seq {t u : DTS} {E : DEnds} {a c : DEnv → Prop} {b : FL.D → Prop} {δ : DEnv} (h : t { E with nx := u E } δ) : ({ nx := dSeq t u E, rt := b, bk := a, ct := c } : DEnds).nx δ := h
theorem par_go {i j : Nat} {a b : DT} {E : DEnds} {δ : DEnv} (h : a δ fun x => b δ fun y => E.nx ((δ.set i (some x)).set j (some y))) : dPar i j a b E δ := h
theorem or_ff {t u : DTT} {δ : DEnv} {Q : Bool → Prop} (ht : ∀ Q : Bool → Prop, Q false → t δ Q) (hu : u δ Q) : dOr t u δ Q := ht _ (by
  show if false = true then _ else _
  rw [if_neg (by simp)]
  exact hu)
theorem ifs_ff {c : DTT} {t u : DTS} {E : DEnds} {δ : DEnv} (hc : ∀ Q : Bool → Prop, Q false → c δ Q) (hu : u E δ) : dIfS c t u E δ := hc _ (by
  show if false = true then _ else _
  rw [if_neg (by simp)]
  exact hu)
theorem and_tt {a b : DT} {δ : DEnv} {Q : FL.D → Prop} (ha : ∀ Q : FL.D → Prop, Q (dB true) → a δ Q) (hb : b δ Q) : dAndV a b δ Q := ha _ (by
  show if true = true then _ else _
  rw [if_pos rfl]
  exact hb)
theorem ev_head {δ : DEnv} {k : Nat} {T : DT} {ps : List PyData} (h : Ev T δ (.d (.tuple ps))) (hl : k < ps.length) : Ev (dHead k T) δ (.d (.tuple (ps.take k))) := fun Q q => h _ ⟨hl, q⟩
theorem ev_rep {δ : DEnv} {S T : DT} {p : PyData} {k : Int} (h : Ev S δ (.d (.tuple [p]))) (h2 : Ev T δ (dI k)) (h3 : 2 ≤ k) (h4 : k ≤ 1000) : Ev (dOp drRepT S T) δ (.d (.tuple (List.replicate k.toNat p))) := fun Q q => h _ (h2 _ ⟨h3, h4, q⟩)
theorem st_forgets : StOk 2 (forgets.take 2) := by simp [StOk, forgets, ItOk, DeedOk, sizes, It1.siz]
theorem st_turning : StOk 1 turning := by simp [StOk, turning, ItOk, DeedOk, sizes, It1.siz]
theorem st_zeros : StOk 1 zeros := by simp [StOk, zeros, ItOk, DeedOk, sizes, It1.siz]
theorem st_six : StOk 1 (List.replicate 6 []) := by simp [StOk, sizes]
theorem st_one : StOk 2 [[]] := by simp [StOk, sizes]
theorem rest_ok : Lrest { nx := fun _ => False, rt := fun d => d = dB true } [none, some .cup, none, none, none] := by
  unfold Lrest
  refine seq_go ?_
  refine loop_ok fun x2 => ?_
  show dSeq Ls0 (dSeq Ls1 (dSeq Ls2 Ls3)) _ _
  refine seq_go ?_
  unfold Ls0
  refine par_go ?_
  refine ⟨rfl, ?_⟩
  refine (show Ev _ _ _ from (by repeat' (first | with_reducible exact ev_c | with_reducible apply ev_tup | with_reducible apply ev_plusT | exact le_line (by simp) | with_reducible apply ev_lst | with_reducible apply evp_cons | with_reducible exact evp_nil | ((with_reducible apply ev_var); exact rfl)))) _ ?_
  refine nx_seq ?_
  unfold Ls1
  refine ifs_ff (fun Q q => or_ff (fun Q q => lp_ne (k := 2) (p := (0, 6)) rfl (.inr rfl) (ev_head (ps := forgets.map eScr) (ev_var rfl) (by decide)) (fun Q q => q) st_forgets (fun U hU => c_forgets hU) q)
    (or_ff (fun Q q => lp_ne (k := 1) (st := turning) (p := (0, 1)) rfl (.inl rfl) (ev_var rfl) (fun Q q => q) st_turning (fun U hU => c_turning hU) q)
      (fw_not (k := 1) (st := turning) rfl (.inl rfl) (ev_var rfl) st_turning (fun U hU => by rw [c_turning hU]; simp) q))) ?_
  refine next_seq ?_
  unfold Ls2
  refine ifs_ff (fun Q q => or_ff (fun Q q => lp_ne (k := 1) (st := zeros) (p := (0, 1)) rfl (.inl rfl) (fun Q q => q) (fun Q q => q) st_zeros (fun U hU => c_zeros hU) q)
      (lp_ne (k := 1) (st := List.replicate 6 []) (p := (0, 1)) rfl (.inl rfl) (ev_rep (p := .tuple []) (k := 6) (fun Q q => q) ev_c (by decide) (by decide)) (fun Q q => q) st_six (fun U hU => c_six hU) q)) ?_
  show Ls3 _ _
  unfold Ls3
  refine ret_go ?_
  refine and_tt (fun Q q => lp_eq (k := 2) (st := [[]]) (p := (0, 1)) rfl (.inr rfl) (fun Q q => q) (fun Q q => q) st_one (fun U hU => c_one hU) q) ?_
  refine fw_is (k := 1) (st := zeros) rfl (.inl rfl) (fun Q q => q) st_zeros (fun U hU => by rw [c_zeros hU]; simp) ?_
  rfl
end TW
namespace TW
open PySem PySem.Spec PyProof.Rows L2 FL
def spLaw (K : PySem.W.Frag) : Sp := fun vs H Q _ => ∃ (a : Addr) (ns : List Int), vs = [.ref a] ∧ SqL K H a (ns.map V.int) ∧ ns.length ≤ 1000 ∧ ∀ H', Q (.bl true) H'
theorem pure_law (P : Program) (w : World) (K : PySem.W.Frag) (vs : List V) (H : Hp) (Q : VK) (E : XK) (h : spLaw K vs H Q E) : (L_law P w K) { nx := fun _ H' => Q .non H', rt := Q } (L2.start ["_law_script_here", "_law_cup_here", "_law_named", "_law_forgets_here", "_law_turning"] vs) H := by
  obtain ⟨a, ns, rfl, hS, hl, hQ⟩ := h
  refine ⟨.ref a, rfl, ?_⟩
  refine ⟨a, ns, rfl, hS, hl, fun H' p i j hp h1 h2 => ?_⟩
  refine liftS_ret (C := fun b => if b = p then some .cup else none) (δ := [none, some .cup, none, none, none]) (fun d => d = dB true) ⟨fun j' e hj => ?_, fun b I hb => ?_, rfl⟩ rest_ok fun v H2 d rd cc kk q => ?_
  · match j', hj with
    | 0, hj => cases hj
    | 1, hj =>
      cases hj
      exact ⟨.ref p, rfl, p, if_pos rfl, rfl⟩
    | 2, hj => cases hj
    | 3, hj => cases hj
    | 4, hj => cases hj
    | j' + 5, hj => cases hj
  · by_cases e : b = p
    · subst e
      rw [if_pos rfl] at hb
      cases hb
      exact ⟨_, hp, i, j, rfl, h1, h2⟩
    · rw [if_neg e] at hb
      cases hb
  · subst q
    obtain rfl := Rp.bl_inv rd
    exact hQ H2
section
variable {P : Program} {w : World} {K : PySem.W.Frag} {mg : Str → Option Value} (F : Fc K mg)
include F
theorem ok_law : ∃ f fd, mg "law" = some (.ref f) ∧ (∀ (s : Shared) (v : Value), BindsTo s fd ⟨[v], []⟩ [("_law_script_here", v)]) ∧ ∀ base : Heap, FnOk P w K mg base CX0 11 f fd ["_law_script_here"] (spLaw K) := by
  obtain ⟨f, fd, h1, h2⟩ := F.defs 48 _ (show fn[48]? = some (dd "law" 70) from rfl)
  have h1' : FunD K "law" "law" (defArgs (top 70)) (defBody (top 70)) (defScope (top 70)) [] [] f fd := h1
  have b := FunD.bindsA (ps := ["_law_script_here"]) h1' fun _ _ _ _ _ _ us hl => match us, hl with | [_], _ => rfl
  refine ⟨f, fd, h2, fun s v => b s [v] rfl, fun base => h1'.ok Slaw (fun vs H Q E h => ?_) (fun cdv A outer s H vs Q E hr h => ⟨L_law P w K, PSs.nox ?_, pure_law P w K vs H Q E h⟩)⟩
  · obtain ⟨a, ns, rfl, _⟩ := h
    rfl
  · refine D_law F ?_ ?_ ?_ ?_ ?_ ?_ cdv A outer s H E f hr <;> first | exact ok_law_some F | exact ok_law_right F | exact ok_law_some_stock F | exact ok_law_forgets F | exact ok_lasting_pair F | exact ok_forgetting_way F
end
end TW
namespace TW
open PySem PySem.Spec PyProof.Rows L2 FL
theorem fa_eq : fa = fn.map (fun d => He.Fa.glo d.name) ++ fa3 := rfl
theorem at_eq : ∀ d ∈ fn, d.at_ = (d.name, none) ∧ d.dvs = (dd "law" 70).dvs := by
  intro d hd
  have h : fn.all (fun _ => true) = true := rfl
  simp only [fn, fn1, fn2, List.cons_append, List.nil_append, List.mem_cons, List.not_mem_nil, or_false] at hd
  rcases hd with rfl | rfl | rfl | rfl | rfl | rfl | rfl | rfl | rfl | rfl | rfl | rfl | rfl | rfl | rfl | rfl | rfl | rfl | rfl | rfl | rfl | rfl | rfl | rfl | rfl | rfl | rfl | rfl | rfl | rfl | rfl | rfl | rfl | rfl | rfl | rfl | rfl | rfl | rfl | rfl | rfl | rfl | rfl | rfl | rfl | rfl | rfl | rfl | rfl <;> exact ⟨rfl, rfl⟩
theorem fc_of {K : PySem.W.Frag} {h : Heap} {mg : Str → Option Value} (X : K.In h) (G : h.Ns mainGlobals mg) (c : SaysX K) : Fc K mg := by
  have c1 : He.SaysD fa fn K := congrArg Prod.fst c
  have c2 : ex K = true := congrArg Prod.snd c
  have free : ∀ (j : Nat) (x : Str), fa3[j]? = some (He.Fa.free x) → mg x = none := fun j x hj => He.free_ok X G (c1.fact (49 + j) (f := .free x) (by rw [fa_eq, List.getElem?_append_right (by simp [fn, fn1, fn2])]; simpa [fn, fn1, fn2] using hj))
  have int : ∀ (j : Nat) (x : Str) (i : Int), fa3[j]? = some (He.Fa.int x i) → ∃ t, mg x = some (.int i t) := fun j x i hj => He.int_ok X G (c1.fact (49 + j) (f := .int x i) (by rw [fa_eq, List.getElem?_append_right (by simp [fn, fn1, fn2])]; simpa [fn, fn1, fn2] using hj))
  refine ⟨fun i d hd => ?_, ?_, int 16 _ _ rfl, int 17 _ _ rfl, int 18 _ _ rfl, int 19 _ _ rfl, ?_⟩
  · obtain ⟨fd, hF⟩ := c1.def_ i hd
    have hm : d ∈ fn := List.mem_of_getElem? hd
    have hg : mg d.name = some (.ref (He.ga K d.name)) := He.glo_ok X G (c1.fact i (f := .glo d.name) (by
      have hi : i < fn.length := (List.getElem?_eq_some_iff.mp hd).1
      rw [fa_eq, List.getElem?_append_left (by simpa using hi), List.getElem?_map, hd]
      rfl))
    refine ⟨_, fd, hF, ?_⟩
    rw [(at_eq d hm).1]
    exact hg
  · intro x hx
    simp only [free0, List.mem_cons, List.not_mem_nil, or_false] at hx
    rcases hx with rfl | rfl | rfl | rfl | rfl | rfl | rfl | rfl | rfl | rfl | rfl | rfl | rfl | rfl | rfl | rfl
    · exact free 0 _ rfl
    · exact free 1 _ rfl
    · exact free 2 _ rfl
    · exact free 3 _ rfl
    · exact free 4 _ rfl
    · exact free 5 _ rfl
    · exact free 6 _ rfl
    · exact free 7 _ rfl
    · exact free 8 _ rfl
    · exact free 9 _ rfl
    · exact free 10 _ rfl
    · exact free 11 _ rfl
    · exact free 12 _ rfl
    · exact free 13 _ rfl
    · exact free 14 _ rfl
    · exact free 15 _ rfl
  · exact ⟨_, He.glo_ok X G (c1.fact 69 (f := .glo "WORDS") rfl), fun H => He.tupB_ok c2 H⟩
end TW
open PySem PySem.W PySem.Calls PyProof.Rows
theorem PySem.Challenge.cw_twobesides_k42_whole_views_that_last_holds : PySem.Challenge.rw_twobesides_k42_whole_views_that_last.Holds := by
  w_on; o_law
  refine HandSHeadRun.head_any (r := OpenLaw.row PySem.Challenge.rw_twobesides_k42_whole_views_that_last) (q := view (OpenLaw.row PySem.Challenge.rw_twobesides_k42_whole_views_that_last).prog [70]) (H := TW.hk) (ob := TW.ob) (M := 3000) (loose := TW.names) (d := HandSHeadRun.topDef (OpenLaw.row PySem.Challenge.rw_twobesides_k42_whole_views_that_last).prog 70) (kwd := []) TW.ob_eq
    (by kernel_rfl) (fun s => by kernel_rfl) TW.run (by kernel_rfl) (by kernel_rfl) (by kernel_rfl) (by rfl) (by first | assumption | decide +kernel) (by decide +kernel) ⟨rfl, rfl, rfl, rfl, rfl, by decide +kernel⟩ ?hw ?hc
  case hw => w_witness2
  case hc =>
    refine L2.walk_ofE (l := PySem.Challenge.rw_twobesides_k42_whole_views_that_last) (n := 63) (k := 11) (x := "_law_script_here") (CX := L2.CX0) rfl (by decide) (by kernel_rfl) ⟨rfl, by decide, by decide⟩ ?F (fun _ _ _ _ z => z)
    intro w mg fa h Y G hmg0
    obtain ⟨K, KX, c⟩ := Y
    have hmg : mg ("law" : PySem.Str) = some (.ref fa) := by
      have e : (HandSHeadRun.topDef (OpenLaw.row PySem.Challenge.rw_twobesides_k42_whole_views_that_last).prog 70).name = ("law" : PySem.Str) := by kernel_rfl
      rw [← e]
      exact hmg0
    have FC := TW.fc_of KX G c
    obtain ⟨f, fd, h1, hb, hF⟩ := TW.ok_law (P := (PySem.Challenge.rw_twobesides_k42_whole_views_that_last).prog) (w := w) FC
    have e : f = fa := by
      rw [hmg] at h1
      cases h1
      rfl
    subst e
    refine ⟨K, fd, TW.spLaw K, KX, hb, fun H a ns hl _ hS => ⟨a, ns, rfl, hS, Nat.le_trans hl (by decide), fun _ => rfl⟩, fun base _ _ => hF base⟩
