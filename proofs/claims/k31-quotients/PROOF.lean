import PyProof.Rows.All
import Wide.All
import OpenK.AllK
import Wide.FinOn
import HandS.ForMost
import HandS.Wide
import HandS.Exc
import HandS.ExcOwn
import HandS.TryOnly
import HandS.Dict
import HandS.IsInst
import HandS.SortRule
import HandS.Conv
import HandS.Style
import HandS.Defaults
import HandS.Small
import HandS.HeadHook1
import HandS.TupAny
import HandS.WordsDict
import HandS.MakeKwOnly
import HandS.SortInts
import HandS.HeadHook2
import HandS.Head2
import HandS.HeadEnd
import HandS.ExcIs
import KE.KExcIs
import KE.GoesMore
import KE.GoesEnum
import HandS.Iter
import HandS.WideBits
import HandS.More
import HandS.TupLe
import HandS.SetFor
import PyProof.AutoSeq1
import KE.KRevSl
import HandS.ExcInit
import HandS.Nested
import KE.KExcSuper
import KE.KSuper
import HandS.ExcField
import KE.KTupSum
import HandS.DictComp
import KE.KBits
import PySem.Challenge.RW_chaincore_k31_quotients
set_option Elab.async false
set_option linter.all false
set_option maxRecDepth 100000
set_option maxHeartbeats 4000000
/-! A logic over the hand layer: worlds, what is shared, what is owned, and how a piece of Python follows its mirror. -/
namespace CC
open PySem PySem.Spec L2
open PyProof.Rows hiding St
/-! ### worlds -/
/-- the tracked heap, and the part of it that nobody changes any more -/
structure Wd where
  H : Hp
  B : Hp
def Ex (H H' : Hp) : Prop := ∀ a o, H a = some o → H' a = some o
theorem Ex.refl (H : Hp) : Ex H H := fun _ _ h => h
theorem Ex.trans {H H1 H2 : Hp} (a : Ex H H1) (b : Ex H1 H2) : Ex H H2 := fun x o h => b x o (a x o h)
theorem Ex.new {H : Hp} {p : Addr} {o : HO} (h : H p = none) : Ex H (upd H p o) := fun a u e => by
  rw [upd_ne (ne_of_none e h)]
  exact e
theorem Ex.ne {H H' : Hp} {a : Addr} (e : Ex H H') (h : H a ≠ none) : H' a ≠ none := by
  cases q : H a with
  | none => exact absurd q h
  | some o =>
    rw [e a o q]
    exact fun z => nomatch z
theorem Ex.eq {H H' : Hp} {a : Addr} (e : Ex H H') (h : H a ≠ none) : H' a = H a := by
  cases q : H a with
  | none => exact absurd q h
  | some o => exact e a o q
theorem Ex.back {H H' : Hp} {p : Addr} (e : Ex H H') (h : H' p = none) : H p = none := by
  cases h1 : H p with
  | none => rfl
  | some o =>
    rw [e p o h1] at h
    cases h
/-- things are added, nothing changes -/
structure Ext (W W' : Wd) : Prop where
  ok : Ex W'.B W'.H
  h : Ex W.H W'.H
  b : Ex W.B W'.B
  fr : ∀ a, W.H a ≠ none → W.B a = none → W'.B a = none
theorem Ext.refl {W : Wd} (ok : Ex W.B W.H) : Ext W W := ⟨ok, Ex.refl _, Ex.refl _, fun _ _ h => h⟩
theorem Ext.trans {W W1 W2 : Wd} (a : Ext W W1) (b : Ext W1 W2) : Ext W W2 :=
  ⟨b.ok, a.h.trans b.h, a.b.trans b.b, fun x h1 h2 => b.fr x (a.h.ne h1) (a.fr x h1 h2)⟩
/-- a new object, owned -/
theorem Ext.new {W : Wd} (ok : Ex W.B W.H) {p : Addr} {o : HO} (h : W.H p = none) : Ext W ⟨upd W.H p o, W.B⟩ :=
  ⟨ok.trans (Ex.new h), Ex.new h, Ex.refl _, fun _ _ h => h⟩
/-- a new object, shared -/
theorem Ext.newB {W : Wd} (ok : Ex W.B W.H) {p : Addr} {o : HO} (h : W.H p = none) : Ext W ⟨upd W.H p o, upd W.B p o⟩ := by
  refine ⟨fun a u e => ?_, Ex.new h, Ex.new (ok.back h), fun a h1 h2 => ?_⟩
  · by_cases z : a = p
    · subst z
      have e1 : upd W.B a o a = some u := e
      show upd W.H a o a = some u
      rw [upd_same] at e1 ⊢
      exact e1
    · have e' : W.B a = some u := by rw [← e]; exact (upd_ne z).symm
      show upd W.H p o a = some u
      rw [upd_ne z]
      exact ok a u e'
  · have z : a ≠ p := fun z => h1 (z ▸ h)
    show upd W.B p o a = none
    rw [upd_ne z]
    exact h2
/-- what is owned at F may change; F' is owned behind -/
structure Stp (W : Wd) (F : List Addr) (W' : Wd) (F' : List Addr) : Prop where
  ok : Ex W'.B W'.H
  b : Ex W.B W'.B
  h : ∀ a o, W.H a = some o → a ∉ F → W'.H a = some o
  al : ∀ a, W.H a ≠ none → W'.H a ≠ none
  fr : ∀ a, W.H a ≠ none → W.B a = none → a ∉ F → W'.B a = none
  fp : ∀ a ∈ F', a ∈ F ∨ W.H a = none
theorem Stp.refl {W : Wd} {F : List Addr} (ok : Ex W.B W.H) : Stp W F W F :=
  ⟨ok, Ex.refl _, fun _ _ h _ => h, fun _ h => h, fun _ _ h _ => h, fun _ h => .inl h⟩
theorem Stp.trans {W W1 W2 : Wd} {F F1 F2 : List Addr} (a : Stp W F W1 F1) (b : Stp W1 F1 W2 F2) : Stp W F W2 F2 where
  ok := b.ok
  b := a.b.trans b.b
  h := fun x o h n => b.h x o (a.h x o h n) fun z => by
    rcases a.fp x z with z | z
    · exact n z
    · rw [h] at z; cases z
  al := fun x h => b.al x (a.al x h)
  fr := fun x h1 h2 n => b.fr x (a.al x h1) (a.fr x h1 h2 n) fun z => by
    rcases a.fp x z with z | z
    · exact n z
    · exact h1 z
  fp := fun x hx => by
    rcases b.fp x hx with z | z
    · exact a.fp x z
    · refine .inr ?_
      cases q : W.H x with
      | none => rfl
      | some o => exact absurd z (a.al x (by rw [q]; exact fun z => nomatch z))
theorem Stp.perm {W W1 : Wd} {F F1 F2 : List Addr} (a : Stp W F W1 F1) (p : ∀ x ∈ F2, x ∈ F1) : Stp W F W1 F2 :=
  ⟨a.ok, a.b, a.h, a.al, a.fr, fun x h => a.fp x (p x h)⟩
theorem Stp.permL {W W1 : Wd} {F F0 F1 : List Addr} (a : Stp W F W1 F1) (p : ∀ x ∈ F, x ∈ F0) : Stp W F0 W1 F1 :=
  ⟨a.ok, a.b, fun x o h n => a.h x o h fun z => n (p x z), a.al, fun x h1 h2 n => a.fr x h1 h2 fun z => n (p x z), fun x h => (a.fp x h).imp (p x) id⟩
theorem Ext.stp {W W' : Wd} {F Fv : List Addr} (e : Ext W W') (fresh : ∀ a ∈ Fv, W.H a = none) : Stp W F W' (F ++ Fv) :=
  ⟨e.ok, e.b, fun x o h _ => e.h x o h, fun x h => e.h.ne h, fun x h1 h2 _ => e.fr x h1 h2, fun x hx => (List.mem_append.mp hx).imp id (fresh x)⟩
/-- with nothing owned a step only adds -/
theorem Stp.ext {W W' : Wd} {F' : List Addr} (s : Stp W [] W' F') : Ext W W' ∧ ∀ a ∈ F', W.H a = none :=
  ⟨⟨s.ok, fun a o h => s.h a o h (by simp), s.b, fun a h1 h2 => s.fr a h1 h2 (by simp)⟩, fun a ha => (s.fp a ha).resolve_left (by simp)⟩
/-! ### footprints -/
structure FpOk (W : Wd) (F : List Addr) : Prop where
  nd : F.Nodup
  al : ∀ a ∈ F, W.H a ≠ none
  fr : ∀ a ∈ F, W.B a = none
theorem FpOk.nil {W : Wd} : FpOk W [] := ⟨List.nodup_nil, fun _ h => (List.not_mem_nil h).elim, fun _ h => (List.not_mem_nil h).elim⟩
theorem FpOk.perm {W : Wd} {F F' : List Addr} (f : FpOk W F) (p : F.Perm F') : FpOk W F' :=
  ⟨p.nodup_iff.mp f.nd, fun a h => f.al a (p.mem_iff.mpr h), fun a h => f.fr a (p.mem_iff.mpr h)⟩
theorem FpOk.ext {W W' : Wd} {F : List Addr} (f : FpOk W F) (e : Ext W W') : FpOk W' F :=
  ⟨f.nd, fun a h => e.h.ne (f.al a h), fun a h => e.fr a (f.al a h) (f.fr a h)⟩
theorem FpOk.left {W : Wd} {F F' : List Addr} (f : FpOk W (F ++ F')) : FpOk W F :=
  ⟨(List.nodup_append.mp f.nd).1, fun a h => f.al a (List.mem_append_left _ h), fun a h => f.fr a (List.mem_append_left _ h)⟩
theorem FpOk.right {W : Wd} {F F' : List Addr} (f : FpOk W (F ++ F')) : FpOk W F' :=
  ⟨(List.nodup_append.mp f.nd).2.1, fun a h => f.al a (List.mem_append_right _ h), fun a h => f.fr a (List.mem_append_right _ h)⟩
theorem FpOk.disj {W : Wd} {F F' : List Addr} (f : FpOk W (F ++ F')) : ∀ a ∈ F, a ∉ F' := fun a h h' =>
  (List.nodup_append.mp f.nd).2.2 a h a h' rfl
theorem FpOk.app {W : Wd} {F F' : List Addr} (f : FpOk W F) (f' : FpOk W F') (d : ∀ a ∈ F, a ∉ F') : FpOk W (F ++ F') :=
  ⟨List.nodup_append.mpr ⟨f.nd, f'.nd, fun a h b h' e => d a h (e ▸ h')⟩, fun a h => (List.mem_append.mp h).elim (f.al a) (f'.al a), fun a h => (List.mem_append.mp h).elim (f.fr a) (f'.fr a)⟩
/-- an extension's new owned things stand apart from the old -/
theorem FpOk.fresh {W W' : Wd} {F Fv : List Addr} (f : FpOk W F) (e : Ext W W') (fv : FpOk W' Fv) (n : ∀ a ∈ Fv, W.H a = none) : FpOk W' (F ++ Fv) :=
  (f.ext e).app fv fun a h h' => f.al a h (n a h')
/-! ### descriptions -/
/-- a shared thing, described over the part that stands still -/
structure SP where
  P : Hp → V → Prop
  mono : ∀ {B B' v}, P B v → Ex B B' → P B' v
/-- a thing with what is owned of it -/
structure OP where
  C : Wd → V → List Addr → Prop
  loc : ∀ {W W' v F}, C W v F → Ex W.B W'.B → (∀ a ∈ F, W'.H a = W.H a) → C W' v F
def sh (p : SP) : OP := ⟨fun W v F => F = [] ∧ p.P W.B v, fun h e _ => ⟨h.1, p.mono h.2 e⟩⟩
theorem OP.ext (o : OP) {W W' : Wd} {v : V} {F : List Addr} (h : o.C W v F) (e : Ext W W') (f : FpOk W F) : o.C W' v F := o.loc h e.b fun a ha => e.h.eq (f.al a ha)
def intS (i : Int) : SP := ⟨fun _ v => v = .int i, fun h _ => h⟩
def boolS (b : Bool) : SP := ⟨fun _ v => v = .bl b, fun h _ => h⟩
def strS (z : Str) : SP := ⟨fun _ v => v = .str z, fun h _ => h⟩
def nonS : SP := ⟨fun _ v => v = .non, fun h _ => h⟩
def valS (x : V) : SP := ⟨fun _ v => v = x, fun h _ => h⟩
def optS {α : Type} (E : α → SP) : Option α → SP
  | none => nonS
  | some x => E x
/-- values one by one -/
def Each {α : Type} (E : α → SP) (B : Hp) : List V → List α → Prop
  | [], [] => True
  | v :: vs, x :: xs => (E x).P B v ∧ Each E B vs xs
  | _, _ => False
theorem Each.mono {α : Type} {E : α → SP} {B B' : Hp} (e : Ex B B') : ∀ {vs : List V} {xs : List α}, Each E B vs xs → Each E B' vs xs
  | [], [], _ => trivial
  | _ :: _, _ :: _, h => ⟨SP.mono _ h.1 e, Each.mono e h.2⟩
  | [], _ :: _, h => h.elim
  | _ :: _, [], h => h.elim
theorem Each.len {α : Type} {E : α → SP} {B : Hp} : ∀ {vs : List V} {xs : List α}, Each E B vs xs → vs.length = xs.length
  | [], [], _ => rfl
  | _ :: _, _ :: _, h => by rw [List.length_cons, List.length_cons, Each.len h.2]
  | [], _ :: _, h => h.elim
  | _ :: _, [], h => h.elim
theorem Each.get {α : Type} {E : α → SP} {B : Hp} : ∀ {vs : List V} {xs : List α} {i : Nat} {x : α}, Each E B vs xs → xs[i]? = some x → ∃ v, vs[i]? = some v ∧ (E x).P B v
  | [], [], i, x, _, e => by simp at e
  | v :: vs, y :: xs, 0, x, h, e => by
    have : y = x := by simpa using e
    subst this
    exact ⟨v, rfl, h.1⟩
  | v :: vs, y :: xs, i + 1, x, h, e => by
    obtain ⟨u, h1, h2⟩ := Each.get (i := i) h.2 (by simpa using e)
    exact ⟨u, by simpa using h1, h2⟩
  | [], _ :: _, _, _, h, _ => h.elim
  | _ :: _, [], _, _, h, _ => h.elim
theorem Each.app {α : Type} {E : α → SP} {B : Hp} : ∀ {vs us : List V} {xs ys : List α}, Each E B vs xs → Each E B us ys → Each E B (vs ++ us) (xs ++ ys)
  | [], _, [], _, _, k => k
  | _ :: _, _, _ :: _, _, h, k => ⟨h.1, Each.app h.2 k⟩
  | [], _, _ :: _, _, h, _ => h.elim
  | _ :: _, _, [], _, h, _ => h.elim
theorem Each.take {α : Type} {E : α → SP} {B : Hp} : ∀ {vs : List V} {xs : List α} (n : Nat), Each E B vs xs → Each E B (vs.take n) (xs.take n)
  | [], [], _, _ => by simp [Each]
  | _ :: _, _ :: _, 0, _ => trivial
  | _ :: _, _ :: _, n + 1, h => ⟨h.1, Each.take n h.2⟩
  | [], _ :: _, _, h => h.elim
  | _ :: _, [], _, h => h.elim
theorem Each.drop {α : Type} {E : α → SP} {B : Hp} : ∀ {vs : List V} {xs : List α} (n : Nat), Each E B vs xs → Each E B (vs.drop n) (xs.drop n)
  | [], [], _, _ => by simp [Each]
  | _ :: _, _ :: _, 0, h => h
  | _ :: _, _ :: _, n + 1, h => Each.drop n h.2
  | [], _ :: _, _, h => h.elim
  | _ :: _, [], _, h => h.elim
theorem Each.set {α : Type} {E : α → SP} {B : Hp} {v : V} {x : α} (hv : (E x).P B v) : ∀ {vs : List V} {xs : List α} (i : Nat), Each E B vs xs → Each E B (vs.set i v) (xs.set i x)
  | [], [], _, _ => by simp [Each]
  | _ :: _, _ :: _, 0, h => ⟨hv, h.2⟩
  | _ :: _, _ :: _, n + 1, h => ⟨h.1, Each.set hv n h.2⟩
  | [], _ :: _, _, h => h.elim
  | _ :: _, [], _, h => h.elim
theorem Each.eraseIdx {α : Type} {E : α → SP} {B : Hp} : ∀ {vs : List V} {xs : List α} (i : Nat), Each E B vs xs → Each E B (vs.eraseIdx i) (xs.eraseIdx i)
  | [], [], _, _ => by simp [Each]
  | _ :: _, _ :: _, 0, h => h.2
  | _ :: _, _ :: _, n + 1, h => ⟨h.1, Each.eraseIdx n h.2⟩
  | [], _ :: _, _, h => h.elim
  | _ :: _, [], _, h => h.elim
theorem Each.rev {α : Type} {E : α → SP} {B : Hp} : ∀ {vs : List V} {xs : List α}, Each E B vs xs → Each E B vs.reverse xs.reverse
  | [], [], _ => by simp [Each]
  | v :: vs, x :: xs, h => by
    rw [List.reverse_cons, List.reverse_cons]
    exact Each.app (Each.rev h.2) ⟨h.1, trivial⟩
  | [], _ :: _, h => h.elim
  | _ :: _, [], h => h.elim
theorem Each.imp {α β : Type} {E : α → SP} {G : β → SP} {B : Hp} (f : α → β) (hf : ∀ x v, (E x).P B v → (G (f x)).P B v) : ∀ {vs : List V} {xs : List α}, Each E B vs xs → Each G B vs (xs.map f)
  | [], [], _ => trivial
  | _ :: _, _ :: _, h => ⟨hf _ _ h.1, Each.imp f hf h.2⟩
  | [], _ :: _, h => h.elim
  | _ :: _, [], h => h.elim
/-- a list, a tuple that stand still -/
def lstS {α : Type} (E : α → SP) (xs : List α) : SP := ⟨fun B v => ∃ a vs, v = .ref a ∧ B a = some (.lst vs) ∧ Each E B vs xs, fun h e => by
  obtain ⟨a, vs, h1, h2, h3⟩ := h
  exact ⟨a, vs, h1, e a _ h2, h3.mono e⟩⟩
def tupS {α : Type} (E : α → SP) (xs : List α) : SP := ⟨fun B v => ∃ a vs, v = .ref a ∧ B a = some (.tup vs) ∧ Each E B vs xs, fun h e => by
  obtain ⟨a, vs, h1, h2, h3⟩ := h
  exact ⟨a, vs, h1, e a _ h2, h3.mono e⟩⟩
/-- the script -/
def scrS (K : PySem.W.Frag) (ns : List Int) : SP := ⟨fun B v => ∃ a, v = .ref a ∧ SqL K B a (ns.map V.int), fun h e => by
  obtain ⟨a, h1, h2⟩ := h
  refine ⟨a, h1, ?_⟩
  rcases h2 with (h | ⟨o, h⟩) | h
  · exact .inl (.inl (e _ _ h))
  · exact .inl (.inr ⟨o, e _ _ h⟩)
  · exact .inr h⟩
/-- things of several kinds, one by one -/
def Hets (B : Hp) : List V → List SP → Prop
  | [], [] => True
  | v :: vs, p :: ps => p.P B v ∧ Hets B vs ps
  | _, _ => False
theorem Hets.mono {B B' : Hp} (e : Ex B B') : ∀ {vs : List V} {ps : List SP}, Hets B vs ps → Hets B' vs ps
  | [], [], _ => trivial
  | _ :: _, _ :: _, h => ⟨SP.mono _ h.1 e, Hets.mono e h.2⟩
  | [], _ :: _, h => h.elim
  | _ :: _, [], h => h.elim
theorem Hets.len {B : Hp} : ∀ {vs : List V} {ps : List SP}, Hets B vs ps → vs.length = ps.length
  | [], [], _ => rfl
  | _ :: _, _ :: _, h => by rw [List.length_cons, List.length_cons, Hets.len h.2]
  | [], _ :: _, h => h.elim
  | _ :: _, [], h => h.elim
theorem Hets.get {B : Hp} : ∀ {vs : List V} {ps : List SP} {i : Nat} {p : SP}, Hets B vs ps → ps[i]? = some p → ∃ v, vs[i]? = some v ∧ p.P B v
  | [], [], i, x, _, e => by simp at e
  | v :: vs, y :: xs, 0, x, h, e => by
    have : y = x := by simpa using e
    subst this
    exact ⟨v, rfl, h.1⟩
  | v :: vs, y :: xs, i + 1, x, h, e => by
    obtain ⟨u, h1, h2⟩ := Hets.get (i := i) h.2 (by simpa using e)
    exact ⟨u, by simpa using h1, h2⟩
  | [], _ :: _, _, _, h, _ => h.elim
  | _ :: _, [], _, _, h, _ => h.elim
theorem Hets.set {B : Hp} {v : V} {p : SP} (hv : p.P B v) : ∀ {vs : List V} {ps : List SP} (i : Nat), Hets B vs ps → Hets B (vs.set i v) (ps.set i p)
  | [], [], _, _ => by simp [Hets]
  | _ :: _, _ :: _, 0, h => ⟨hv, h.2⟩
  | _ :: _, _ :: _, n + 1, h => ⟨h.1, Hets.set hv n h.2⟩
  | [], _ :: _, _, h => h.elim
  | _ :: _, [], _, h => h.elim
def htupS (ps : List SP) : SP := ⟨fun B v => ∃ a vs, v = .ref a ∧ B a = some (.tup vs) ∧ Hets B vs ps, fun h e => by
  obtain ⟨a, vs, h1, h2, h3⟩ := h
  exact ⟨a, vs, h1, e a _ h2, h3.mono e⟩⟩
def hlstS (ps : List SP) : SP := ⟨fun B v => ∃ a vs, v = .ref a ∧ B a = some (.lst vs) ∧ Hets B vs ps, fun h e => by
  obtain ⟨a, vs, h1, h2, h3⟩ := h
  exact ⟨a, vs, h1, e a _ h2, h3.mono e⟩⟩
/-- a pair -/
def prS {α β : Type} (E : α → SP) (G : β → SP) (p : α × β) : SP := htupS [E p.1, G p.2]
/-! ### owned things, one by one -/
def Owns {α : Type} (E : α → OP) (W : Wd) : List V → List α → List Addr → Prop
  | [], [], F => F = []
  | v :: vs, x :: xs, F => ∃ F1 F2, F = F1 ++ F2 ∧ (E x).C W v F1 ∧ Owns E W vs xs F2
  | _, _, _ => False
theorem Owns.loc {α : Type} {E : α → OP} {W W' : Wd} (e : Ex W.B W'.B) : ∀ {vs : List V} {xs : List α} {F : List Addr}, Owns E W vs xs F → (∀ a ∈ F, W'.H a = W.H a) → Owns E W' vs xs F
  | [], [], _, h, _ => h
  | _ :: _, _ :: _, _, ⟨F1, F2, h1, h2, h3⟩, k => by
    subst h1
    exact ⟨F1, F2, rfl, OP.loc _ h2 e fun a ha => k a (List.mem_append_left _ ha), Owns.loc e h3 fun a ha => k a (List.mem_append_right _ ha)⟩
  | [], _ :: _, _, h, _ => h.elim
  | _ :: _, [], _, h, _ => h.elim
theorem Owns.len {α : Type} {E : α → OP} {W : Wd} : ∀ {vs : List V} {xs : List α} {F : List Addr}, Owns E W vs xs F → vs.length = xs.length
  | [], [], _, _ => rfl
  | _ :: _, _ :: _, _, ⟨_, _, _, _, h⟩ => by rw [List.length_cons, List.length_cons, Owns.len h]
  | [], _ :: _, _, h => h.elim
  | _ :: _, [], _, h => h.elim
theorem Owns.app {α : Type} {E : α → OP} {W : Wd} : ∀ {vs us : List V} {xs ys : List α} {F G : List Addr}, Owns E W vs xs F → Owns E W us ys G → Owns E W (vs ++ us) (xs ++ ys) (F ++ G)
  | [], _, [], _, _, _, h, k => by
    subst h
    exact k
  | _ :: _, _, _ :: _, _, _, _, ⟨F1, F2, h1, h2, h3⟩, k => by
    subst h1
    exact ⟨F1, F2 ++ _, List.append_assoc _ _ _, h2, Owns.app h3 k⟩
  | [], _, _ :: _, _, _, _, h, _ => h.elim
  | _ :: _, _, [], _, _, _, h, _ => h.elim
/-- the item at a place, and what may stand there instead -/
theorem Owns.at {α : Type} {E : α → OP} {W : Wd} : ∀ {vs : List V} {xs : List α} {F : List Addr} {i : Nat} {x : α}, Owns E W vs xs F → xs[i]? = some x →
    ∃ v F1 F2, vs[i]? = some v ∧ (E x).C W v F1 ∧ F.Perm (F1 ++ F2) ∧ ∀ (W' : Wd) (x' : α) (v' : V) (F1' : List Addr), Ex W.B W'.B → (∀ a ∈ F2, W'.H a = W.H a) → (E x').C W' v' F1' →
      ∃ F', Owns E W' (vs.set i v') (xs.set i x') F' ∧ F'.Perm (F1' ++ F2)
  | [], [], _, _, _, _, e => by simp at e
  | v :: vs, y :: xs, _, 0, x, ⟨F1, F2, h1, h2, h3⟩, e => by
    have : y = x := by simpa using e
    subst this h1
    refine ⟨v, F1, F2, rfl, h2, .refl _, fun W' x' v' F1' eb hk hc => ⟨F1' ++ F2, ⟨F1', F2, rfl, hc, h3.loc eb hk⟩, .refl _⟩⟩
  | v :: vs, y :: xs, _, i + 1, x, ⟨F1, F2, h1, h2, h3⟩, e => by
    subst h1
    obtain ⟨u, G1, G2, a1, a2, a3, a4⟩ := Owns.at (i := i) h3 (by simpa using e)
    refine ⟨u, G1, F1 ++ G2, by simpa using a1, a2, ?_, fun W' x' v' F1' eb hk hc => ?_⟩
    · refine (List.Perm.append_left F1 a3).trans ?_
      rw [← List.append_assoc, ← List.append_assoc]
      exact List.Perm.append_right G2 List.perm_append_comm
    · obtain ⟨F', b1, b2⟩ := a4 W' x' v' F1' eb (fun a ha => hk a (List.mem_append_right _ ha)) hc
      refine ⟨F1 ++ F', ⟨F1, F', rfl, OP.loc _ h2 eb fun a ha => hk a (List.mem_append_left _ ha), b1⟩, ?_⟩
      refine (List.Perm.append_left F1 b2).trans ?_
      rw [← List.append_assoc, ← List.append_assoc]
      exact List.Perm.append_right G2 List.perm_append_comm
  | [], _ :: _, _, _, _, h, _ => h.elim
  | _ :: _, [], _, _, _, h, _ => h.elim
theorem Owns.of_each {α : Type} {E : α → SP} {W : Wd} : ∀ {vs : List V} {xs : List α}, Each E W.B vs xs → Owns (fun x => sh (E x)) W vs xs []
  | [], [], _ => rfl
  | _ :: _, _ :: _, h => ⟨[], [], rfl, ⟨rfl, h.1⟩, Owns.of_each h.2⟩
  | [], _ :: _, h => h.elim
  | _ :: _, [], h => h.elim
theorem Owns.each {α : Type} {E : α → SP} {W : Wd} : ∀ {vs : List V} {xs : List α} {F : List Addr}, Owns (fun x => sh (E x)) W vs xs F → F = [] ∧ Each E W.B vs xs
  | [], [], _, h => ⟨h, trivial⟩
  | _ :: _, _ :: _, _, ⟨F1, F2, h1, ⟨h2, h2'⟩, h3⟩ => by
    obtain ⟨e, h4⟩ := Owns.each h3
    subst e h2
    exact ⟨h1, h2', h4⟩
  | [], _ :: _, _, h => h.elim
  | _ :: _, [], _, h => h.elim
/-- a list of one's own -/
def lstO {α : Type} (E : α → OP) (xs : List α) : OP := ⟨fun W v F => ∃ a vs F2, v = .ref a ∧ W.H a = some (.lst vs) ∧ F = a :: F2 ∧ Owns E W vs xs F2, fun h e k => by
  obtain ⟨a, vs, F2, h1, h2, h3, h4⟩ := h
  subst h3
  exact ⟨a, vs, F2, h1, (k a List.mem_cons_self).trans h2, rfl, h4.loc e fun b hb => k b (List.mem_cons_of_mem _ hb)⟩⟩
/-- owned things of several kinds -/
def HetO (W : Wd) : List V → List OP → List Addr → Prop
  | [], [], F => F = []
  | v :: vs, p :: ps, F => ∃ F1 F2, F = F1 ++ F2 ∧ p.C W v F1 ∧ HetO W vs ps F2
  | _, _, _ => False
theorem HetO.loc {W W' : Wd} (e : Ex W.B W'.B) : ∀ {vs : List V} {xs : List OP} {F : List Addr}, HetO W vs xs F → (∀ a ∈ F, W'.H a = W.H a) → HetO W' vs xs F
  | [], [], _, h, _ => h
  | _ :: _, _ :: _, _, ⟨F1, F2, h1, h2, h3⟩, k => by
    subst h1
    exact ⟨F1, F2, rfl, OP.loc _ h2 e fun a ha => k a (List.mem_append_left _ ha), HetO.loc e h3 fun a ha => k a (List.mem_append_right _ ha)⟩
  | [], _ :: _, _, h, _ => h.elim
  | _ :: _, [], _, h, _ => h.elim
theorem HetO.len {W : Wd} : ∀ {vs : List V} {xs : List OP} {F : List Addr}, HetO W vs xs F → vs.length = xs.length
  | [], [], _, _ => rfl
  | _ :: _, _ :: _, _, ⟨_, _, _, _, h⟩ => by rw [List.length_cons, List.length_cons, HetO.len h]
  | [], _ :: _, _, h => h.elim
  | _ :: _, [], _, h => h.elim
theorem HetO.at {W : Wd} : ∀ {vs : List V} {xs : List OP} {F : List Addr} {i : Nat} {x : OP}, HetO W vs xs F → xs[i]? = some x →
    ∃ v F1 F2, vs[i]? = some v ∧ x.C W v F1 ∧ F.Perm (F1 ++ F2) ∧ ∀ (W' : Wd) (x' : OP) (v' : V) (F1' : List Addr), Ex W.B W'.B → (∀ a ∈ F2, W'.H a = W.H a) → x'.C W' v' F1' →
      ∃ F', HetO W' (vs.set i v') (xs.set i x') F' ∧ F'.Perm (F1' ++ F2)
  | [], [], _, _, _, _, e => by simp at e
  | v :: vs, y :: xs, _, 0, x, ⟨F1, F2, h1, h2, h3⟩, e => by
    have : y = x := by simpa using e
    subst this h1
    refine ⟨v, F1, F2, rfl, h2, .refl _, fun W' x' v' F1' eb hk hc => ⟨F1' ++ F2, ⟨F1', F2, rfl, hc, h3.loc eb hk⟩, .refl _⟩⟩
  | v :: vs, y :: xs, _, i + 1, x, ⟨F1, F2, h1, h2, h3⟩, e => by
    subst h1
    obtain ⟨u, G1, G2, a1, a2, a3, a4⟩ := HetO.at (i := i) h3 (by simpa using e)
    refine ⟨u, G1, F1 ++ G2, by simpa using a1, a2, ?_, fun W' x' v' F1' eb hk hc => ?_⟩
    · refine (List.Perm.append_left F1 a3).trans ?_
      rw [← List.append_assoc, ← List.append_assoc]
      exact List.Perm.append_right G2 List.perm_append_comm
    · obtain ⟨F', b1, b2⟩ := a4 W' x' v' F1' eb (fun a ha => hk a (List.mem_append_right _ ha)) hc
      refine ⟨F1 ++ F', ⟨F1, F', rfl, OP.loc _ h2 eb fun a ha => hk a (List.mem_append_left _ ha), b1⟩, ?_⟩
      refine (List.Perm.append_left F1 b2).trans ?_
      rw [← List.append_assoc, ← List.append_assoc]
      exact List.Perm.append_right G2 List.perm_append_comm
  | [], _ :: _, _, _, _, h, _ => h.elim
  | _ :: _, [], _, _, _, h, _ => h.elim
def hetO (ps : List OP) : OP := ⟨fun W v F => ∃ a vs F2, v = .ref a ∧ W.H a = some (.lst vs) ∧ F = a :: F2 ∧ HetO W vs ps F2, fun h e k => by
  obtain ⟨a, vs, F2, h1, h2, h3, h4⟩ := h
  subst h3
  exact ⟨a, vs, F2, h1, (k a List.mem_cons_self).trans h2, rfl, h4.loc e fun b hb => k b (List.mem_cons_of_mem _ hb)⟩⟩
/-! ### the slots -/
abbrev Ctx := List (Option OP)
def Holds : Ctx → St → Wd → List Addr → Prop
  | [], _, _, F => F = []
  | none :: Γ, σ, W, F => Holds Γ σ.tail W F
  | some o :: Γ, σ, W, F => ∃ v F1 F2, σ.head? = some (some v) ∧ F = F1 ++ F2 ∧ o.C W v F1 ∧ Holds Γ σ.tail W F2
theorem Holds.loc {W W' : Wd} (e : Ex W.B W'.B) : ∀ {Γ : Ctx} {σ : St} {F : List Addr}, Holds Γ σ W F → (∀ a ∈ F, W'.H a = W.H a) → Holds Γ σ W' F
  | [], _, _, h, _ => h
  | none :: Γ, σ, F, h, k => Holds.loc e (Γ := Γ) (σ := σ.tail) (F := F) h k
  | some o :: Γ, σ, _, ⟨v, F1, F2, h1, h2, h3, h4⟩, k => by
    subst h2
    exact ⟨v, F1, F2, h1, rfl, o.loc h3 e fun a ha => k a (List.mem_append_left _ ha), Holds.loc e (Γ := Γ) h4 fun a ha => k a (List.mem_append_right _ ha)⟩
/-- the entry at a place, and what may stand there instead -/
theorem Holds.at {W : Wd} : ∀ {Γ : Ctx} {σ : St} {F : List Addr} {i : Nat} {o : OP}, Holds Γ σ W F → Γ[i]? = some (some o) →
    ∃ v F1 F2, σ[i]? = some (some v) ∧ o.C W v F1 ∧ F.Perm (F1 ++ F2) ∧ ∀ (W' : Wd) (o' : OP) (v' : V) (F1' : List Addr), Ex W.B W'.B → (∀ a ∈ F2, W'.H a = W.H a) → o'.C W' v' F1' →
      ∃ F', Holds (Γ.set i (some o')) (σ.set i (some v')) W' F' ∧ F'.Perm (F1' ++ F2)
  | [], _, _, _, _, _, e => by simp at e
  | none :: Γ, σ, F, 0, o, h, e => by simp at e
  | none :: Γ, [], F, i + 1, o, h, e => by
    obtain ⟨u, G1, G2, a1, _⟩ := Holds.at (i := i) (Γ := Γ) (σ := []) h (by simpa using e)
    simp at a1
  | none :: Γ, s :: σ, F, i + 1, o, h, e => by
    obtain ⟨u, G1, G2, a1, a2, a3, a4⟩ := Holds.at (i := i) (Γ := Γ) (σ := σ) h (by simpa using e)
    exact ⟨u, G1, G2, by simpa using a1, a2, a3, fun W' o' v' F1' eb hk hc => a4 W' o' v' F1' eb hk hc⟩
  | some p :: Γ, [], F, i, o, ⟨v, F1, F2, h1, h2, h3, h4⟩, e => by simp at h1
  | some p :: Γ, s :: σ, F, 0, o, ⟨v, F1, F2, h1, h2, h3, h4⟩, e => by
    have : p = o := by simpa using e
    subst this h2
    refine ⟨v, F1, F2, by simpa using h1, h3, .refl _, fun W' o' v' F1' eb hk hc => ⟨F1' ++ F2, ⟨v', F1', F2, rfl, rfl, hc, Holds.loc eb (Γ := Γ) h4 hk⟩, .refl _⟩⟩
  | some p :: Γ, s :: σ, F, i + 1, o, ⟨v, F1, F2, h1, h2, h3, h4⟩, e => by
    subst h2
    obtain ⟨u, G1, G2, a1, a2, a3, a4⟩ := Holds.at (i := i) (Γ := Γ) (σ := σ) h4 (by simpa using e)
    refine ⟨u, G1, F1 ++ G2, by simpa using a1, a2, ?_, fun W' x' v' F1' eb hk hc => ?_⟩
    · refine (List.Perm.append_left F1 a3).trans ?_
      rw [← List.append_assoc, ← List.append_assoc]
      exact List.Perm.append_right G2 List.perm_append_comm
    · obtain ⟨F', b1, b2⟩ := a4 W' x' v' F1' eb (fun a ha => hk a (List.mem_append_right _ ha)) hc
      refine ⟨F1 ++ F', ⟨v, F1, F', h1, rfl, OP.loc _ h3 eb fun a ha => hk a (List.mem_append_left _ ha), b1⟩, ?_⟩
      refine (List.Perm.append_left F1 b2).trans ?_
      rw [← List.append_assoc, ← List.append_assoc]
      exact List.Perm.append_right G2 List.perm_append_comm
/-- a slot is stored anew -/
theorem Holds.put {W : Wd} {o : OP} {v : V} {F1 : List Addr} (hc : o.C W v F1) : ∀ {Γ : Ctx} {σ : St} {F : List Addr} {i : Nat}, Holds Γ σ W F → i < Γ.length → i < σ.length →
    ∃ F' G, Holds (Γ.set i (some o)) (σ.set i (some v)) W F' ∧ F'.Perm (F1 ++ G) ∧ ∃ G', F.Perm (G ++ G')
  | [], _, _, _, _, h, _ => by simp at h
  | _ :: _, [], _, _, _, _, h => by simp at h
  | none :: Γ, s :: σ, F, 0, h, _, _ => ⟨F1 ++ F, F, ⟨v, F1, F, rfl, rfl, hc, h⟩, .refl _, [], by rw [List.append_nil]⟩
  | some p :: Γ, s :: σ, F, 0, ⟨u, G1, G2, h1, h2, h3, h4⟩, _, _ => ⟨F1 ++ G2, G2, ⟨v, F1, G2, rfl, rfl, hc, h4⟩, .refl _, G1, by subst h2; exact List.perm_append_comm⟩
  | none :: Γ, s :: σ, F, i + 1, h, l1, l2 => by
    obtain ⟨F', G, a1, a2, a3⟩ := Holds.put hc (i := i) (Γ := Γ) (σ := σ) h (by simpa using l1) (by simpa using l2)
    exact ⟨F', G, a1, a2, a3⟩
  | some p :: Γ, s :: σ, F, i + 1, ⟨u, G1, G2, h1, h2, h3, h4⟩, l1, l2 => by
    obtain ⟨F', G, a1, a2, G', a3⟩ := Holds.put hc (i := i) (Γ := Γ) (σ := σ) h4 (by simpa using l1) (by simpa using l2)
    subst h2
    refine ⟨G1 ++ F', G1 ++ G, ⟨u, G1, F', h1, rfl, h3, a1⟩, ?_, G', ?_⟩
    · refine (List.Perm.append_left G1 a2).trans ?_
      rw [← List.append_assoc, ← List.append_assoc]
      exact List.Perm.append_right G List.perm_append_comm
    · rw [List.append_assoc]
      exact List.Perm.append_left G1 a3
/-- less is known -/
inductive Weak : Ctx → Ctx → Prop
  | nil : Weak [] []
  | same {e Γ Δ} : Weak Γ Δ → Weak (e :: Γ) (e :: Δ)
  | drop {e Γ Δ} : Weak Γ Δ → Weak (e :: Γ) (none :: Δ)
theorem Weak.refl : ∀ Γ : Ctx, Weak Γ Γ
  | [] => .nil
  | _ :: Γ => .same (Weak.refl Γ)
theorem Weak.len {Γ Δ : Ctx} (w : Weak Γ Δ) : Γ.length = Δ.length := by induction w <;> simp_all
theorem Weak.holds {W : Wd} {Γ Δ : Ctx} (w : Weak Γ Δ) : ∀ {σ : St} {F : List Addr}, Holds Γ σ W F → ∃ F' G, Holds Δ σ W F' ∧ F.Perm (F' ++ G) := by
  induction w with
  | nil => exact fun {σ F} h => ⟨[], F, rfl, .refl _⟩
  | @same e Γ Δ w ih =>
    intro σ F h
    cases e with
    | none => exact ih (σ := σ.tail) h
    | some o =>
      obtain ⟨v, F1, F2, h1, h2, h3, h4⟩ := h
      obtain ⟨F', G, a1, a2⟩ := ih (σ := σ.tail) h4
      subst h2
      refine ⟨F1 ++ F', G, ⟨v, F1, F', h1, rfl, h3, a1⟩, ?_⟩
      rw [List.append_assoc]
      exact List.Perm.append_left F1 a2
  | @drop e Γ Δ w ih =>
    intro σ F h
    cases e with
    | none => exact ih (σ := σ.tail) h
    | some o =>
      obtain ⟨v, F1, F2, h1, h2, h3, h4⟩ := h
      obtain ⟨F', G, a1, a2⟩ := ih (σ := σ.tail) h4
      subst h2
      refine ⟨F', G ++ F1, a1, ?_⟩
      rw [← List.append_assoc]
      exact (List.Perm.append_left F1 a2).trans List.perm_append_comm
structure Sta (Γ : Ctx) (σ : St) (W : Wd) (F : List Addr) : Prop where
  ok : Ex W.B W.H
  fp : FpOk W F
  len : σ.length = Γ.length
  hold : Holds Γ σ W F
theorem Sta.ext {Γ : Ctx} {σ : St} {W W' : Wd} {F : List Addr} (s : Sta Γ σ W F) (e : Ext W W') : Sta Γ σ W' F :=
  ⟨e.ok, s.fp.ext e, s.len, s.hold.loc e.b fun a ha => e.h.eq (s.fp.al a ha)⟩
theorem Sta.weak {Γ Δ : Ctx} {σ : St} {W : Wd} {F : List Addr} (s : Sta Γ σ W F) (w : Weak Γ Δ) : ∃ F', Sta Δ σ W F' ∧ ∀ a ∈ F', a ∈ F := by
  obtain ⟨F', G, a1, a2⟩ := w.holds s.hold
  exact ⟨F', ⟨s.ok, (s.fp.perm a2).left, s.len.trans w.len, a1⟩, fun a h => a2.mem_iff.mpr (List.mem_append_left _ h)⟩
/-- a shared slot -/
theorem Sta.get {Γ : Ctx} {σ : St} {W : Wd} {F : List Addr} {i : Nat} {p : SP} (s : Sta Γ σ W F) (h : Γ[i]? = some (some (sh p))) : ∃ v, σ[i]? = some (some v) ∧ p.P W.B v := by
  obtain ⟨v, F1, F2, h1, h2, _⟩ := s.hold.at h
  exact ⟨v, h1, h2.2⟩
theorem Sta.put {Γ : Ctx} {σ : St} {W : Wd} {F F1 : List Addr} {i : Nat} {o : OP} {v : V} (s : Sta Γ σ W F) (hi : i < Γ.length) (hc : o.C W v F1) (f : FpOk W (F ++ F1)) :
    ∃ F', Sta (Γ.set i (some o)) (σ.set i (some v)) W F' ∧ ∀ a ∈ F', a ∈ F ++ F1 := by
  obtain ⟨F', G, a1, a2, G', a3⟩ := Holds.put hc (i := i) s.hold hi (by rw [s.len]; exact hi)
  have f2 : FpOk W ((F1 ++ G) ++ G') := f.perm (by
    refine List.perm_append_comm.trans ?_
    rw [List.append_assoc]
    exact List.Perm.append_left F1 a3)
  refine ⟨F', ⟨s.ok, f2.left.perm a2.symm, by rw [List.length_set, List.length_set]; exact s.len, a1⟩, fun a h => ?_⟩
  rcases List.mem_append.mp (a2.mem_iff.mp h) with z | z
  · exact List.mem_append_right _ z
  · exact List.mem_append_left _ (a3.mem_iff.mpr (List.mem_append_left _ z))
end CC
set_option maxHeartbeats 4000000
/-! Judgements: a piece of Python and its mirror. -/
namespace CC
open PySem PySem.Spec L2
open PyProof.Rows hiding St
/-- what does not change while a def's body (or a comprehension's block) runs -/
structure Stc where
  P : Program
  w : World
  K : PySem.W.Frag
  mg : Str → Option Value
  base : Heap
  N : List Str
  sc : Scope
  k : Nat
  fn : Str → Bool
  prot : List Nat
  W : WX := fun _ _ _ _ => False
  calm : Bool := true
  top : Bool := true
  ex : Option (Addr × Addr × Option Addr) := none
structure Stc.In (S : Stc) (X : Cx) : Prop where
  prog : X.prog = S.P
  w : X.w = S.w
  K : X.K = S.K
  mg : X.mg = S.mg
  base : X.base = S.base
  N : X.N = S.N
  sc : X.env.scope = S.sc
  fn : X.fn = S.fn
  calm : X.calm = S.calm
  room : S.calm = true → Room S.k X.A
  un : X.A.units + 64 < cLine
  pass : PassesOwn (model X.prog X.w) X.A X.env X.xe
  tk : Takes X S.W
  top : S.top = true → X.stack = X.env :: X.outer ∧ X.env.frame = some X.env.locals
  ex : ∀ a C d, S.ex = some (a, C, d) → ∃ X' oe pn, X = Cx.suite X' a ((a, oe) :: pn) ∧ Zc (.ref C) d oe ∧ ∃ vs, oe.data = .fields vs
theorem takes_none {X : Cx} : Takes X (fun _ _ _ _ => False) := fun _ _ ⟨_, _, _, _, _, _, _, _, _, _, _, _, _, _, _, _, z⟩ => z.elim
abbrev Stc.blk (S : Stc) (scope : Scope) : Stc := { S with sc := relS scope S.sc, fn := fun x => scope.names.lookup x == some .cell, W := fun _ _ _ _ => False, top := false, ex := none }
theorem Stc.In.blk {S : Stc} {X : Cx} (h : S.In X) (scope : Scope) (s : Shared) (H : Hp) (C : Addr) (cl : List (Str × Addr)) (fp : List Addr) : (S.blk scope).In (X.blk s H scope (compEnvC scope cl C X.env) fp) :=
  ⟨h.prog, h.w, h.K, h.mg, h.base, h.N, by
    show relabel scope X.env = relS scope S.sc
    rw [← h.sc]
    rfl, rfl, h.calm, h.room, h.un, PassesOwn.never, takes_none, nofun, nofun⟩
/-- what an exception is like -/
structure XP where
  P : Hp → Value → Option Addr → Prop
  mono : ∀ {B B' c d}, P B c d → Ex B B' → P B' c d
/-! ### readings for every context at once -/
def tOf (S : Stc) (e : Expr) : TE := fun σ H Q => ∃ t : TE, (∀ X, S.In X → PE X e t) ∧ t σ H Q
def ttOf (S : Stc) (e : Expr) : TT := fun σ H Q => ∃ t : TT, (∀ X, S.In X → PT X e t) ∧ t σ H Q
def twOf (S : Stc) (e : Expr) : TT := fun σ H Q => ∃ t : TT, (∀ X, S.In X → PW X e t) ∧ t σ H Q
def taOf (S : Stc) (es : List Expr) : TA := fun σ H Q => ∃ t : TA, (∀ X, S.In X → PA X es t) ∧ t σ H Q
def tsOf (S : Stc) (st : Stmt) : TS := fun D σ H => ∃ t : TS, (∀ X, S.In X → PS X st t) ∧ t D σ H
def tbOf (S : Stc) (sts : List Stmt) : TS := fun D σ H => ∃ t : TS, (∀ X, S.In X → PSs X sts t) ∧ t D σ H
section
variable {S : Stc} {X : Cx}
theorem peO {e : Expr} (h : S.In X) : PE X e (tOf S e) := ⟨fun pins s σ H Q I ⟨_, p, q⟩ => (p X h).run pins s σ H Q I q⟩
theorem ptO {e : Expr} (h : S.In X) : PT X e (ttOf S e) := ⟨fun pins s σ H Q I ⟨_, p, q⟩ => (p X h).run pins s σ H Q I q⟩
theorem pwO {e : Expr} (h : S.In X) : PW X e (twOf S e) := ⟨fun wh pins s σ H Q I ⟨_, p, q⟩ => (p X h).run wh pins s σ H Q I q⟩
theorem paO {es : List Expr} (h : S.In X) : PA X es (taOf S es) := ⟨fun pos pins s σ H Q I ⟨_, p, q⟩ => (p X h).run pos pins s σ H Q I q⟩
theorem psO {st : Stmt} (h : S.In X) : PS X st (tsOf S st) := ⟨fun pins s σ H D I ⟨_, p, q⟩ => (p X h).run pins s σ H D I q⟩
theorem pbO {sts : List Stmt} (h : S.In X) : PSs X sts (tbOf S sts) := ⟨fun pins s σ H D I ⟨_, p, q⟩ => (p X h).run pins s σ H D I q⟩
end
def GlS (S : Stc) (x : Str) : Prop := S.sc.names.lookup x = some .globalImplicit
theorem GlS.gl {S : Stc} {X : Cx} {x : Str} (g : GlS S x) (h : S.In X) : Gl X x := by
  show X.env.scope.names.lookup x = some .globalImplicit
  rw [h.sc]
  exact g
theorem visS {S : Stc} {X : Cx} {x : Str} (g : Vis S.sc x) (h : S.In X) : Vis X.env.scope x := by rw [h.sc]; exact g
theorem locS {S : Stc} {X : Cx} {x : Str} (g : Loc S.sc x) (h : S.In X) : Loc X.env.scope x := by rw [h.sc]; exact g
theorem mgS {S : Stc} {X : Cx} {x : Str} {u : Option Value} (g : S.mg x = u) (h : S.In X) : X.mg x = u := by rw [h.mg]; exact g
theorem fnokS {S : Stc} {X : Cx} {CX : CXT} {k : Nat} {f : Addr} {fd : FuncData} {ps : List Str} {sp : Sp} (F : FnOk S.P S.w S.K S.mg S.base CX k f fd ps sp) (h : S.In X) : FnOk X.prog X.w X.K X.mg X.base CX k f fd ps sp := by
  rw [h.prog, h.w, h.K, h.mg, h.base]
  exact F
/-! ### the judgements -/
variable {α β γ δ τ ω ρ : Type}
/-- a value has come, things were added -/
def Got (R : OP) (W : Wd) (Q : VK) : Prop := ∀ v W' Fv, Ext W W' → (∀ a ∈ Fv, W.H a = none) → FpOk W' Fv → R.C W' v Fv → Q v W'.H
/-- a pure expression: its mirror m (none: no claim), what its value is -/
def JN (S : Stc) (e : Expr) (Γ : Ctx) (m : Option α) (R : α → OP) : Prop :=
  ∀ σ W F, Sta Γ σ W F → ∀ x, m = some x → ∀ Q : VK, Got (R x) W Q → tOf S e σ W.H Q
/-- .. read where it stands: what is owned stays with its owner -/
def JR (S : Stc) (e : Expr) (Γ : Ctx) (m : Option α) (R : α → OP) : Prop :=
  ∀ σ W F, Sta Γ σ W F → ∀ x, m = some x → ∀ Q : VK, (∀ v W', Ext W W' → (∃ F1, (R x).C W' v F1 ∧ ∀ a ∈ F1, W'.H a ≠ none) → Q v W'.H) → tOf S e σ W.H Q
/-- a pure test -/
def JT (S : Stc) (e : Expr) (Γ : Ctx) (m : Option Bool) : Prop :=
  ∀ σ W F, Sta Γ σ W F → ∀ b, m = some b → ∀ Q : Bool → Hp → Prop, (∀ W', Ext W W' → Q b W'.H) → ttOf S e σ W.H Q
def JW (S : Stc) (e : Expr) (Γ : Ctx) (m : Option Bool) : Prop :=
  ∀ σ W F, Sta Γ σ W F → ∀ b, m = some b → ∀ Q : Bool → Hp → Prop, (∀ W', Ext W W' → Q b W'.H) → twOf S e σ W.H Q
/-- pure arguments, all shared -/
def JA (S : Stc) (es : List Expr) (Γ : Ctx) (m : Option α) (R : α → List SP) : Prop :=
  ∀ σ W F, Sta Γ σ W F → ∀ x, m = some x → ∀ Q : List V → Hp → Prop, (∀ vs W', Ext W W' → Hets W'.B vs (R x) → Q vs W'.H) → taOf S es σ W.H Q
/-- an expression that changes what is owned: Γ by the state s -/
def JE (S : Stc) (e : Expr) (Γ : τ → Ctx) (s : τ) (m : Option (α × τ)) (R : α → OP) : Prop :=
  ∀ σ W F, Sta (Γ s) σ W F → ∀ x, m = some x → ∀ Q : VK, (∀ v W' F' Fv, Stp W F W' (F' ++ Fv) → Sta (Γ x.2) σ W' F' → FpOk W' (F' ++ Fv) → (R x.1).C W' v Fv → Q v W'.H) → tOf S e σ W.H Q
/-- how a block may end -/
inductive Kd where
  | nx (Γ : Ctx)
  | rt (Γ : Ctx) (R : OP)
  | bk (Γ : Ctx)
  | ct (Γ : Ctx)
  | xc (Γ : Ctx) (R : XP)
/-- the slots that must stay -/
def Keep (prot : List Nat) (σ σ' : St) : Prop := ∀ p ∈ prot, σ'[p]? = σ[p]?
theorem Keep.refl {prot : List Nat} {σ : St} : Keep prot σ σ := fun _ _ => rfl
theorem Keep.trans {prot : List Nat} {σ σ1 σ2 : St} (a : Keep prot σ σ1) (b : Keep prot σ1 σ2) : Keep prot σ σ2 := fun p h => (b p h).trans (a p h)
theorem Keep.set {prot : List Nat} {σ : St} {i : Nat} {v : Option V} (h : i ∉ prot) : Keep prot σ (σ.set i v) := fun p hp => List.getElem?_set_ne fun e => h (by rw [e]; exact hp)
theorem ncon {prot : List Nat} {i : Nat} (h : prot.contains i = false) : i ∉ prot := fun z => by
  rw [List.contains_iff_mem.mpr z] at h
  cases h
def Post (wx : WX) (prot : List Nat) (σ : St) (W : Wd) (F : List Addr) (D : Ends) : Kd → Prop
  | .nx Γ => ∀ σ' W' F', Keep prot σ σ' → Stp W F W' F' → Sta Γ σ' W' F' → D.nx σ' W'.H
  | .bk Γ => ∀ σ' W' F', Keep prot σ σ' → Stp W F W' F' → Sta Γ σ' W' F' → D.bk σ' W'.H
  | .ct Γ => ∀ σ' W' F', Keep prot σ σ' → Stp W F W' F' → Sta Γ σ' W' F' → D.ct σ' W'.H
  | .rt Γ R => ∀ v σ' W' F' Fv, Keep prot σ σ' → Stp W F W' (F' ++ Fv) → Sta Γ σ' W' F' → FpOk W' (F' ++ Fv) → R.C W' v Fv → D.rt v W'.H
  | .xc Γ R => ∀ c d σ' W' F', Keep prot σ σ' → Stp W F W' F' → Sta Γ σ' W' F' → R.P W'.B c d → wx c d σ' W'.H
/-- a block: its mirror, and how each outcome ends -/
def JB (S : Stc) (sts : List Stmt) (Γ : Ctx) (m : Option ω) (D : ω → Kd) : Prop :=
  ∀ σ W F, Sta Γ σ W F → ∀ x, m = some x → ∀ E : Ends, Post S.W S.prot σ W F E (D x) → tbOf S sts E σ W.H
/-- one statement -/
def JS (S : Stc) (st : Stmt) (Γ : Ctx) (m : Option ω) (D : ω → Kd) : Prop :=
  ∀ σ W F, Sta Γ σ W F → ∀ x, m = some x → ∀ E : Ends, Post S.W S.prot σ W F E (D x) → tsOf S st E σ W.H
theorem Post.before {wx : WX} {prot : List Nat} {σ σ1 : St} {W W1 : Wd} {F F1 : List Addr} {D : Ends} {k : Kd} (p : Post wx prot σ W F D k) (hk : Keep prot σ σ1) (hs : Stp W F W1 F1) : Post wx prot σ1 W1 F1 D k := by
  cases k with
  | nx Γ => exact fun σ' W' F' a b c => p σ' W' F' (hk.trans a) (hs.trans b) c
  | bk Γ => exact fun σ' W' F' a b c => p σ' W' F' (hk.trans a) (hs.trans b) c
  | ct Γ => exact fun σ' W' F' a b c => p σ' W' F' (hk.trans a) (hs.trans b) c
  | rt Γ R => exact fun v σ' W' F' Fv a b c d e => p v σ' W' F' Fv (hk.trans a) (hs.trans b) c d e
  | xc Γ R => exact fun v d σ' W' F' a b c e => p v d σ' W' F' (hk.trans a) (hs.trans b) c e
section
variable {S : Stc} {Γ Δ : Ctx} {a b c e : Expr} {es : List Expr} {pos : Pos}
theorem JN.cong {m m' : Option α} {R : α → OP} (h : JN S e Γ m R) (q : m = m') : JN S e Γ m' R := q ▸ h
theorem JB.cong {sts : List Stmt} {m m' : Option ω} {D : ω → Kd} (h : JB S sts Γ m D) (q : m = m') : JB S sts Γ m' D := q ▸ h
theorem JN.weak {m : Option α} {R : α → OP} (w : Weak Γ Δ) (h : JN S e Δ m R) : JN S e Γ m R := fun σ W F st x hx Q k => by
  obtain ⟨F', st', _⟩ := st.weak w
  exact h σ W F' st' x hx Q k
theorem JB.weak {sts : List Stmt} {m : Option ω} {D : ω → Kd} (w : Weak Γ Δ) (h : JB S sts Δ m D) : JB S sts Γ m D := fun σ W F st x hx E k => by
  obtain ⟨F', st', sub⟩ := st.weak w
  exact h σ W F' st' x hx E (k.before Keep.refl ((Stp.refl st.ok).perm sub))
/-- mirrors of the value and of the description -/
theorem JN.map {m : Option α} {R : α → OP} {R' : β → OP} {f : α → β} (h : JN S e Γ m R) (hR : ∀ x W v F, (R x).C W v F → (R' (f x)).C W v F) : JN S e Γ (m.bind fun x => some (f x)) R' := fun σ W F st y hy Q k => by
  cases hm : m with
  | none => rw [hm] at hy; cases hy
  | some x =>
    rw [hm] at hy
    cases hy
    exact h σ W F st x hm Q fun v W' Fv e fr fp r => k v W' Fv e fr fp (hR x W' v Fv r)
/-! ### what is owned becomes shared -/
theorem FpOk.head {W : Wd} {a : Addr} {F : List Addr} (f : FpOk W (a :: F)) : a ∉ F := (List.nodup_cons.mp f.nd).1
/-- freezing with the footprint's own facts -/
structure FrzN (R : OP) (P : SP) : Prop where
  run : ∀ {W v F}, R.C W v F → F.Nodup → (∀ a ∈ F, W.B a = none) → Ex W.B W.H → ∃ B', Ex W.B B' ∧ Ex B' W.H ∧ (∀ a, W.B a = none → a ∉ F → B' a = none) ∧ P.P B' v
theorem fz_sh {p : SP} : FrzN (sh p) p := ⟨fun {W v F} h _ _ ok => ⟨W.B, Ex.refl _, ok, fun _ h _ => h, h.2⟩⟩
theorem fz_owns {E : α → OP} {G : α → SP} (f : ∀ x, FrzN (E x) (G x)) : ∀ {vs : List V} {xs : List α} {W : Wd} {F : List Addr}, Owns E W vs xs F → F.Nodup → (∀ a ∈ F, W.B a = none) → Ex W.B W.H →
    ∃ B', Ex W.B B' ∧ Ex B' W.H ∧ (∀ a, W.B a = none → a ∉ F → B' a = none) ∧ Each G B' vs xs
  | [], [], W, F, _, _, _, ok => ⟨W.B, Ex.refl _, ok, fun _ h _ => h, trivial⟩
  | v :: vs, x :: xs, W, F, ⟨F1, F2, h1, h2, h3⟩, nd, fr, ok => by
    subst h1
    have nd' := List.nodup_append.mp nd
    obtain ⟨B1, a1, a2, a3, a4⟩ := (f x).run h2 nd'.1 (fun a ha => fr a (List.mem_append_left _ ha)) ok
    obtain ⟨B2, b1, b2, b3, b4⟩ := fz_owns f (W := ⟨W.H, B1⟩) (h3.loc (W' := ⟨W.H, B1⟩) a1 fun _ _ => rfl) nd'.2.1 (fun a ha => a3 a (fr a (List.mem_append_right _ ha)) fun z => nd'.2.2 a z a ha rfl) a2
    exact ⟨B2, a1.trans b1, b2, fun a h n => b3 a (a3 a h fun z => n (List.mem_append_left _ z)) fun z => n (List.mem_append_right _ z), SP.mono _ a4 b1, b4⟩
  | [], _ :: _, _, _, h, _, _, _ => h.elim
  | _ :: _, [], _, _, h, _, _, _ => h.elim
theorem fz_lst {E : α → OP} {G : α → SP} (f : ∀ x, FrzN (E x) (G x)) (xs : List α) : FrzN (lstO E xs) (lstS G xs) := ⟨fun {W v F} h nd fr ok => by
  obtain ⟨a, vs, F2, rfl, h2, rfl, h4⟩ := h
  have nd' := List.nodup_cons.mp nd
  obtain ⟨B1, a1, a2, a3, a4⟩ := fz_owns f h4 nd'.2 (fun b hb => fr b (List.mem_cons_of_mem _ hb)) ok
  have na : B1 a = none := a3 a (fr a List.mem_cons_self) nd'.1
  refine ⟨upd B1 a (.lst vs), a1.trans (Ex.new na), fun b o e => ?_, fun b hb n => ?_, a, vs, rfl, upd_same, a4.mono (Ex.new na)⟩
  · by_cases z : b = a
    · subst z
      rw [upd_same] at e
      rw [h2]
      exact e
    · rw [upd_ne z] at e
      exact a2 b o e
  · have z : b ≠ a := fun z => n (z ▸ List.mem_cons_self)
    rw [upd_ne z]
    exact a3 b hb fun q => n (List.mem_cons_of_mem _ q)⟩
theorem fz_het {ps : List OP} {qs : List SP} : ∀ {vs : List V} {ps : List OP} {qs : List SP} {W : Wd} {F : List Addr}, HetO W vs ps F → Paired FrzN ps qs → F.Nodup → (∀ a ∈ F, W.B a = none) → Ex W.B W.H →
    ∃ B', Ex W.B B' ∧ Ex B' W.H ∧ (∀ a, W.B a = none → a ∉ F → B' a = none) ∧ Hets B' vs qs
  | [], [], _, W, F, _, .nil, _, _, ok => ⟨W.B, Ex.refl _, ok, fun _ h _ => h, trivial⟩
  | v :: vs, x :: xs, _, W, F, ⟨F1, F2, h1, h2, h3⟩, .cons f fs, nd, fr, ok => by
    subst h1
    have nd' := List.nodup_append.mp nd
    obtain ⟨B1, a1, a2, a3, a4⟩ := f.run h2 nd'.1 (fun a ha => fr a (List.mem_append_left _ ha)) ok
    obtain ⟨B2, b1, b2, b3, b4⟩ := fz_het (ps := ps) (qs := qs) (W := ⟨W.H, B1⟩) (h3.loc (W' := ⟨W.H, B1⟩) a1 fun _ _ => rfl) fs nd'.2.1 (fun a ha => a3 a (fr a (List.mem_append_right _ ha)) fun z => nd'.2.2 a z a ha rfl) a2
    exact ⟨B2, a1.trans b1, b2, fun a h n => b3 a (a3 a h fun z => n (List.mem_append_left _ z)) fun z => n (List.mem_append_right _ z), SP.mono _ a4 b1, b4⟩
  | [], _ :: _, _, _, _, h, _, _, _, _ => h.elim
  | _ :: _, [], _, _, _, h, _, _, _, _ => h.elim
/-- a fresh value frozen on the way -/
theorem JN.frz {m : Option α} {R : α → OP} {P : α → SP} (f : ∀ x, FrzN (R x) (P x)) (h : JN S e Γ m R) : JN S e Γ m fun x => sh (P x) := fun σ W F st x hx Q k =>
  h σ W F st x hx Q fun v W' Fv ext fresh fp r => by
    obtain ⟨B', b1, b2, b3, b4⟩ := (f x).run r fp.nd fp.fr ext.ok
    have e2 : Ext W ⟨W'.H, B'⟩ := ⟨b2, ext.h, ext.b.trans b1, fun a h1 h2 => b3 a (ext.fr a h1 h2) fun z => h1 (fresh a z)⟩
    exact k v ⟨W'.H, B'⟩ [] e2 (fun _ h => (List.not_mem_nil h).elim) FpOk.nil ⟨rfl, b4⟩
theorem FrzN.lst (E : α → SP) : ∀ xs : List α, FrzN (lstO (fun x => sh (E x)) xs) (lstS E xs) := fz_lst fun _ => fz_sh
theorem FrzN.lst2 (E : α → SP) : ∀ xs : List (List α), FrzN (lstO (fun ys => lstO (fun x => sh (E x)) ys) xs) (lstS (lstS E) xs) := fz_lst fun ys => fz_lst (fun _ => fz_sh) ys
/-- a slot frozen -/
theorem JB.frz {sts : List Stmt} {m : Option ω} {D : ω → Kd} {i : Nat} {o : OP} {p : SP} (hi : Γ[i]? = some (some o)) (f : FrzN o p) (h : JB S sts (Γ.set i (some (sh p))) m D) : JB S sts Γ m D := fun σ W F st x hx E k => by
  obtain ⟨v, F1, F2, a1, a2, a3, a4⟩ := st.hold.at hi
  have fp := st.fp.perm a3
  obtain ⟨B', b1, b2, b3, b4⟩ := f.run a2 fp.left.nd fp.left.fr st.ok
  obtain ⟨F', c1, c2⟩ := a4 ⟨W.H, B'⟩ (sh p) v [] b1 (fun _ _ => rfl) ⟨rfl, b4⟩
  have sub : ∀ a ∈ F', a ∈ F2 := fun a ha => by simpa using c2.mem_iff.mp ha
  have fp' : FpOk ⟨W.H, B'⟩ F' := by
    refine FpOk.perm (F := F2) ?_ (by simpa using c2.symm)
    exact ⟨fp.right.nd, fp.right.al, fun a ha => b3 a (fp.right.fr a ha) fun z => fp.disj a z ha⟩
  have hset : σ.set i (some v) = σ := by
    refine List.ext_getElem? fun j => ?_
    by_cases e : i = j
    · subst e
      rw [a1, List.getElem?_set_self (List.getElem?_eq_some_iff.mp a1).1]
    · rw [List.getElem?_set_ne e]
  rw [hset] at c1
  refine h σ ⟨W.H, B'⟩ F' ⟨b2, fp', by rw [List.length_set]; exact st.len, c1⟩ x hx E (k.before Keep.refl ?_)
  refine ⟨b2, b1, fun a o h _ => h, fun a h => h, fun a h1 h2 n => b3 a h2 fun z => n (a3.mem_iff.mpr (List.mem_append_left _ z)), fun a ha => .inl (a3.mem_iff.mpr (List.mem_append_right _ (sub a ha)))⟩
/-! ### names and constants -/
theorem jn_var {E : α → SP} {a : α} {x : Str} (i : Nat) (hi : Γ[i]? = some (some (sh (E a))) := by rfl) (hN : S.N[i]? = some x := by rfl) (hv : Vis S.sc x := by first | exact Or.inl rfl | exact Or.inr (Or.inl rfl) | exact Or.inr (Or.inr rfl))
    (hd : (x == ("__debug__" : Str)) = false := by decide) (hcd : (x == ("__classdict__" : Str)) = false := by decide) : JN S (.Name x pos) Γ (some a) fun a => sh (E a) := fun σ W F st y hy Q k => by
  cases hy
  obtain ⟨v, h1, h2⟩ := st.get hi
  exact ⟨tVar i, fun X hX => pe_var (by rw [hX.N]; exact hN) (visS hv hX) hd hcd, v, h1, k v W [] (Ext.refl st.ok) (fun _ h => (List.not_mem_nil h).elim) FpOk.nil ⟨rfl, h2⟩⟩
theorem jr_var {R : α → OP} {a : α} {x : Str} (i : Nat) (hi : Γ[i]? = some (some (R a)) := by rfl) (hN : S.N[i]? = some x := by rfl) (hv : Vis S.sc x := by first | exact Or.inl rfl | exact Or.inr (Or.inl rfl) | exact Or.inr (Or.inr rfl))
    (hd : (x == ("__debug__" : Str)) = false := by decide) (hcd : (x == ("__classdict__" : Str)) = false := by decide) : JR S (.Name x pos) Γ (some a) R := fun σ W F st y hy Q k => by
  cases hy
  obtain ⟨v, F1, F2, h1, h2, h3, _⟩ := st.hold.at hi
  exact ⟨tVar i, fun X hX => pe_var (by rw [hX.N]; exact hN) (visS hv hX) hd hcd, v, h1, k v W (Ext.refl st.ok) ⟨F1, h2, fun a ha => st.fp.al a (h3.mem_iff.mpr (List.mem_append_left _ ha))⟩⟩
theorem jr_of {m : Option α} {R : α → OP} (h : JN S e Γ m R) : JR S e Γ m R := fun σ W F st x hx Q k => h σ W F st x hx Q fun v W' Fv e _ fp r => k v W' e ⟨Fv, r, fp.al⟩
theorem jn_of {m : Option α} {P : α → SP} (h : JR S e Γ m fun x => sh (P x)) : JN S e Γ m fun x => sh (P x) := fun σ W F st x hx Q k => h σ W F st x hx Q fun v W' e r => by
  obtain ⟨F1, r, _⟩ := r
  exact k v W' [] e (fun _ h => (List.not_mem_nil h).elim) FpOk.nil ⟨rfl, r.2⟩
theorem jn_c {v : V} {E : α → SP} {a : α} (hp : ∀ X, S.In X → PE X e (tC v)) (hv : ∀ B, (E a).P B v) : JN S e Γ (some a) fun a => sh (E a) := fun σ W F st y hy Q k => by
  cases hy
  exact ⟨tC v, hp, k v W [] (Ext.refl st.ok) (fun _ h => (List.not_mem_nil h).elim) FpOk.nil ⟨rfl, hv _⟩⟩
theorem jn_int {i j} : JN S (.Constant (.int i) j pos) Γ (some i) fun a => sh (intS a) := jn_c (fun _ _ => pe_int) fun _ => rfl
theorem jn_bl {b j} : JN S (.Constant (.bool b) j pos) Γ (some b) fun a => sh (boolS a) := jn_c (fun _ _ => pe_bl) fun _ => rfl
theorem jn_str {x j} : JN S (.Constant (.str x) j pos) Γ (some x) fun a => sh (strS a) := jn_c (fun _ _ => pe_str) fun _ => rfl
theorem jn_non {j} : JN S (.Constant .none j pos) Γ (some ()) fun _ => sh nonS := jn_c (E := fun _ => nonS) (fun _ _ => pe_non) fun _ => rfl
/-! ### operators -/
/-- a two-place operation on shared values -/
def OpV (r : R2) (E : α → SP) (G : β → SP) (f : α → β → Option γ) (R : γ → OP) : Prop :=
  ∀ W x y v u z, Ex W.B W.H → (E x).P W.B v → (G y).P W.B u → f x y = some z → ∀ Q : VK, Got (R z) W Q → r v u W.H Q
theorem Got.val {p : SP} {W : Wd} {Q : VK} {v : V} (k : Got (sh p) W Q) (ok : Ex W.B W.H) (h : p.P W.B v) : Q v W.H := k v W [] (Ext.refl ok) (fun _ h => (List.not_mem_nil h).elim) FpOk.nil ⟨rfl, h⟩
theorem Got.ext {R : OP} {W W1 : Wd} {Q : VK} (k : Got R W Q) (e : Ext W W1) : Got R W1 Q := fun v W' Fv e1 fr fp r => k v W' Fv (e.trans e1) (fun a ha => e.h.back (fr a ha)) fp r
theorem run2 {ma : Option α} {mb : Option β} {f : α → β → Option γ} {z : γ} (h : (ma.bind fun x => mb.bind fun y => f x y) = some z) : ∃ x y, ma = some x ∧ mb = some y ∧ f x y = some z := by
  cases ma with
  | none => cases h
  | some x =>
    cases mb with
    | none => cases h
    | some y => exact ⟨x, y, rfl, rfl, h⟩
theorem run1 {ma : Option α} {f : α → Option γ} {z : γ} (h : (ma.bind fun x => f x) = some z) : ∃ x, ma = some x ∧ f x = some z := by
  cases ma with
  | none => cases h
  | some x => exact ⟨x, rfl, h⟩
theorem tOp_run {r : R2} {E : α → SP} {G : β → SP} {f : α → β → Option γ} {R : γ → OP} {ma : Option α} {mb : Option β} (ha : JN S a Γ ma fun x => sh (E x)) (hb : JN S b Γ mb fun y => sh (G y)) (hr : OpV r E G f R)
    {σ : L2.St} {W : Wd} {F : List Addr} (st : Sta Γ σ W F) {z : γ} (hz : (ma.bind fun x => mb.bind fun y => f x y) = some z) {Q : VK} (k : Got (R z) W Q) : tOp r (tOf S a) (tOf S b) σ W.H Q := by
  obtain ⟨x, y, h1, h2, h3⟩ := run2 hz
  refine ha σ W F st x h1 _ fun v W1 F1 e1 _ _ r1 => ?_
  refine hb σ W1 F (st.ext e1) y h2 _ fun u W2 F2 e2 _ _ r2 => ?_
  exact hr W2 x y v u z e2.ok (SP.mono _ r1.2 e2.b) r2.2 h3 Q (k.ext (e1.trans e2))
theorem jn_bin {op : Operator} {r : R2} {E : α → SP} {G : β → SP} {f : α → β → Option γ} {R : γ → OP} {ma : Option α} {mb : Option β} (ho : ∀ X, S.In X → OpR X (binaryOp op) r) (hr : OpV r E G f R)
    (ha : JN S a Γ ma fun x => sh (E x)) (hb : JN S b Γ mb fun y => sh (G y)) : JN S (.BinOp a op b pos) Γ (ma.bind fun x => mb.bind fun y => f x y) R := fun σ W F st z hz Q k =>
  ⟨tOp r (tOf S a) (tOf S b), fun X hX => pe_op (ho X hX) (peO hX) (peO hX), tOp_run ha hb hr st hz k⟩
theorem jn_cmp {op : CmpOp} {r : R2} {E : α → SP} {G : β → SP} {f : α → β → Option γ} {R : γ → OP} {ma : Option α} {mb : Option β} (ho : ∀ X, S.In X → OpR X (compareOp op) r) (hr : OpV r E G f R)
    (ha : JN S a Γ ma fun x => sh (E x)) (hb : JN S b Γ mb fun y => sh (G y)) (hm : behindInMarks op b = false := by first | exact nomark _ | rfl) : JN S (.Compare a [op] [b] pos) Γ (ma.bind fun x => mb.bind fun y => f x y) R := fun σ W F st z hz Q k =>
  ⟨tOp r (tOf S a) (tOf S b), fun X hX => pe_cmpR (ho X hX) (peO hX) (peO hX) hm, tOp_run ha hb hr st hz k⟩
theorem jt_cmp {op : CmpOp} {r : R2} {E : α → SP} {G : β → SP} {f : α → β → Option Bool} {ma : Option α} {mb : Option β} (ho : ∀ X, S.In X → OpR X (compareOp op) r) (hr : OpV r E G f fun z => sh (boolS z))
    (ha : JN S a Γ ma fun x => sh (E x)) (hb : JN S b Γ mb fun y => sh (G y)) (hm : behindInMarks op b = false := by first | exact nomark _ | rfl) : JT S (.Compare a [op] [b] pos) Γ (ma.bind fun x => mb.bind fun y => f x y) := fun σ W F st z hz Q k =>
  ⟨tTest (tOp r (tOf S a) (tOf S b)), fun X hX => pt_cmpR (ho X hX) (peO hX) (peO hX) hm, tOp_run ha hb hr st hz fun v W' Fv e _ _ h => ⟨z, h.2, k W' e⟩⟩
/-- a subscript of something read where it stands -/
def IxV (r : R2) (R0 : α → OP) (G : β → SP) (f : α → β → Option γ) (R : γ → OP) : Prop :=
  ∀ W x y v u z F1, Ex W.B W.H → (R0 x).C W v F1 → (G y).P W.B u → f x y = some z → ∀ Q : VK, (∀ t, (∃ F2, (R z).C W t F2 ∧ ∀ a ∈ F2, a ∈ F1) → Q t W.H) → r v u W.H Q
theorem jr_ix {r : R2} {R0 : α → OP} {G : β → SP} {f : α → β → Option γ} {R : γ → OP} {ma : Option α} {mb : Option β} (ho : ∀ X, S.In X → IxR X r) (hr : IxV r R0 G f R)
    (ha : JR S a Γ ma R0) (hb : JN S b Γ mb fun y => sh (G y)) (hs : PlainIx b := by exact fun _ _ => rfl) : JR S (.Subscript a b pos) Γ (ma.bind fun x => mb.bind fun y => f x y) R := fun σ W F st z hz Q k => by
  refine ⟨tOp r (tOf S a) (tOf S b), fun X hX => pe_ix (ho X hX) (peO hX) (peO hX) hs, ?_⟩
  obtain ⟨x, y, h1, h2, h3⟩ := run2 hz
  refine ha σ W F st x h1 _ fun v W1 e1 ⟨F1, r1, al1⟩ => ?_
  refine hb σ W1 F (st.ext e1) y h2 _ fun u W2 F2 e2 _ _ r2 => ?_
  have r1' : (R0 x).C W2 v F1 := OP.loc _ r1 e2.b fun a ha => e2.h.eq (al1 a ha)
  exact hr W2 x y v u z F1 e2.ok r1' r2.2 h3 _ fun t ⟨F3, q1, q2⟩ => k t W2 (e1.trans e2) ⟨F3, q1, fun a ha => e2.h.ne (al1 a (q2 a ha))⟩
theorem jn_un {op : UnaryOp} {r : V → Hp → VK → Prop} {E : α → SP} {f : α → Option γ} {R : γ → OP} {ma : Option α} (ho : ∀ X, S.In X → UnR X (unaryOp op) r)
    (hr : ∀ W x v z, Ex W.B W.H → (E x).P W.B v → f x = some z → ∀ Q : VK, Got (R z) W Q → r v W.H Q) (ha : JN S a Γ ma fun x => sh (E x)) : JN S (.UnaryOp op a pos) Γ (ma.bind fun x => f x) R := fun σ W F st z hz Q k => by
  refine ⟨tUn r (tOf S a), fun X hX => pe_un (ho X hX) (peO hX), ?_⟩
  obtain ⟨x, h1, h3⟩ := run1 hz
  exact ha σ W F st x h1 _ fun v W1 F1 e1 _ _ r1 => hr W1 x v z e1.ok r1.2 h3 Q (k.ext e1)
theorem jn_neg {ma : Option Int} (ha : JN S a Γ ma fun x => sh (intS x)) : JN S (.UnaryOp .USub a pos) Γ (ma.bind fun x => some (-x)) fun z => sh (intS z) :=
  jn_un (f := fun x : Int => some (-x)) (fun _ _ => un_neg) (fun W x v z ok h e Q k => by cases e; cases h; exact ⟨x, rfl, k.val ok rfl⟩) ha
/-! ### tests -/
theorem jt_val {m : Option Bool} (h : JN S e Γ m fun z => sh (boolS z)) (he : ∀ env whole, isTrue e env whole = (do let v ← whole; standAt e.pos; holding [v] (truthy v)) := by intro _ _; rfl) : JT S e Γ m := fun σ W F st z hz Q k =>
  ⟨tB (tOf S e), fun X hX => pt_val (peO hX) (he _), h σ W F st z hz _ fun v W' Fv e _ _ r => ⟨z, r.2, k W' e⟩⟩
theorem jt_not {m : Option Bool} (h : JT S e Γ m) : JT S (.UnaryOp .Not e pos) Γ (m.bind fun x => some (!x)) := fun σ W F st z hz Q k => by
  obtain ⟨x, h1, h2⟩ := run1 hz
  cases h2
  exact ⟨tNot (ttOf S e), fun X hX => pt_not (ptO hX), h σ W F st x h1 _ fun W' e => k W' e⟩
theorem jw_and1 {m : Option Bool} (h : JT S a Γ m) : JW S (.BoolOp .And [a] pos) Γ m := fun σ W F st z hz Q k => ⟨ttOf S a, fun X hX => pw_and1 (ptO hX), h σ W F st z hz _ k⟩
theorem jw_or1 {m : Option Bool} (h : JT S a Γ m) : JW S (.BoolOp .Or [a] pos) Γ m := fun σ W F st z hz Q k => ⟨ttOf S a, fun X hX => pw_or1 (ptO hX), h σ W F st z hz _ k⟩
theorem jw_and {ma mb : Option Bool} (ha : JT S a Γ ma) (hb : JW S (.BoolOp .And (b :: es) pos) Γ mb) : JW S (.BoolOp .And (a :: b :: es) pos) Γ (ma.bind fun x => bif x then mb else some false) := fun σ W F st z hz Q k => by
  obtain ⟨x, h1, h2⟩ := run1 hz
  refine ⟨tAnd (ttOf S a) (twOf S (.BoolOp .And (b :: es) pos)), fun X hX => pw_and (ptO hX) (pwO hX), ha σ W F st x h1 _ fun W' e => ?_⟩
  cases x with
  | true => exact iteT (hb σ W' F (st.ext e) z h2 Q fun W'' e' => k W'' (e.trans e'))
  | false =>
    cases h2
    exact iteF (k W' e)
theorem jw_or {ma mb : Option Bool} (ha : JT S a Γ ma) (hb : JW S (.BoolOp .Or (b :: es) pos) Γ mb) : JW S (.BoolOp .Or (a :: b :: es) pos) Γ (ma.bind fun x => bif x then some true else mb) := fun σ W F st z hz Q k => by
  obtain ⟨x, h1, h2⟩ := run1 hz
  refine ⟨tOr (ttOf S a) (twOf S (.BoolOp .Or (b :: es) pos)), fun X hX => pw_or (ptO hX) (pwO hX), ha σ W F st x h1 _ fun W' e => ?_⟩
  cases x with
  | false => exact iteF (hb σ W' F (st.ext e) z h2 Q fun W'' e' => k W'' (e.trans e'))
  | true =>
    cases h2
    exact iteT (k W' e)
theorem jt_w {m : Option Bool} (h : JW S e Γ m) : JT S e Γ m := fun σ W F st z hz Q k => ⟨twOf S e, fun X hX => (pwO hX).pt, h σ W F st z hz Q k⟩
/-- as values: all True or False -/
theorem jn_one {op : BoolOp} {m : Option α} {R : α → OP} (h : JN S a Γ m R) : JN S (.BoolOp op [a] pos) Γ m R := fun σ W F st z hz Q k => ⟨tOf S a, fun X hX => pe_one (peO hX), h σ W F st z hz Q k⟩
theorem jn_and {ma mb : Option Bool} (ha : JN S a Γ ma fun z => sh (boolS z)) (hb : JN S (.BoolOp .And (b :: es) pos) Γ mb fun z => sh (boolS z)) :
    JN S (.BoolOp .And (a :: b :: es) pos) Γ (ma.bind fun x => bif x then mb else some false) fun z => sh (boolS z) := fun σ W F st z hz Q k => by
  obtain ⟨x, h1, h2⟩ := run1 hz
  refine ⟨tAndV (tOf S a) (tOf S (.BoolOp .And (b :: es) pos)), fun X hX => pe_and (peO hX) (peO hX), ha σ W F st x h1 _ fun v W' Fv e _ _ r => ⟨x, r.2, ?_⟩⟩
  cases x with
  | true => exact iteT (hb σ W' F (st.ext e) z h2 Q (k.ext e))
  | false =>
    cases h2
    exact iteF ((k.ext e).val e.ok rfl)
theorem jn_or {ma mb : Option Bool} (ha : JN S a Γ ma fun z => sh (boolS z)) (hb : JN S (.BoolOp .Or (b :: es) pos) Γ mb fun z => sh (boolS z)) :
    JN S (.BoolOp .Or (a :: b :: es) pos) Γ (ma.bind fun x => bif x then some true else mb) fun z => sh (boolS z) := fun σ W F st z hz Q k => by
  obtain ⟨x, h1, h2⟩ := run1 hz
  refine ⟨tOrV (tOf S a) (tOf S (.BoolOp .Or (b :: es) pos)), fun X hX => pe_or (peO hX) (peO hX), ha σ W F st x h1 _ fun v W' Fv e _ _ r => ⟨x, r.2, ?_⟩⟩
  cases x with
  | false => exact iteF (hb σ W' F (st.ext e) z h2 Q (k.ext e))
  | true =>
    cases h2
    exact iteT ((k.ext e).val e.ok rfl)
theorem jn_notV {m : Option Bool} (h : JN S e Γ m fun z => sh (boolS z)) : JN S (.UnaryOp .Not e pos) Γ (m.bind fun x => some (!x)) fun z => sh (boolS z) := fun σ W F st z hz Q k => by
  obtain ⟨x, h1, h2⟩ := run1 hz
  cases h2
  exact ⟨tNotV (tOf S e), fun X hX => pe_not (peO hX), h σ W F st x h1 _ fun v W' Fv e _ _ r => ⟨x, r.2, (k.ext e).val e.ok rfl⟩⟩
theorem jn_if {mc : Option Bool} {ma mb : Option α} {R : α → OP} (hc : JT S c Γ mc) (ha : JN S a Γ ma R) (hb : JN S b Γ mb R) : JN S (.IfExp c a b pos) Γ (mc.bind fun x => bif x then ma else mb) R := fun σ W F st z hz Q k => by
  obtain ⟨x, h1, h2⟩ := run1 hz
  refine ⟨tIf (ttOf S c) (tOf S a) (tOf S b), fun X hX => pe_ifExp (ptO hX) (peO hX) (peO hX), hc σ W F st x h1 _ fun W' e => ?_⟩
  cases x with
  | true => exact iteT (ha σ W' F (st.ext e) z h2 Q (k.ext e))
  | false => exact iteF (hb σ W' F (st.ext e) z h2 Q (k.ext e))
/-! ### arguments, displays, calls -/
theorem ja_nil : JA S [] Γ (some ()) fun _ => [] := fun σ W F st x hx Q k => ⟨tNil, fun _ _ => pa_nil, k [] W (Ext.refl st.ok) trivial⟩
theorem ja_cons {ma : Option α} {mb : Option β} {E : α → SP} {G : β → List SP} (ha : JN S e Γ ma fun x => sh (E x)) (hb : JA S es Γ mb G) (hs : ∀ env, starEach (e :: es) env = (false, eval e env) :: starEach es env := by intro _; rfl) :
    JA S (e :: es) Γ (ma.bind fun x => mb.bind fun y => some (x, y)) fun p => E p.1 :: G p.2 := fun σ W F st z hz Q k => by
  obtain ⟨x, y, h1, h2, h3⟩ := run2 hz
  cases h3
  refine ⟨tCons (tOf S e) (taOf S es), fun X hX => pa_cons (peO hX) (paO hX) (hs _), ?_⟩
  refine ha σ W F st x h1 _ fun v W1 F1 e1 _ _ r1 => ?_
  exact hb σ W1 F (st.ext e1) y h2 _ fun vs W2 e2 h => k (v :: vs) W2 (e1.trans e2) ⟨SP.mono _ r1.2 e2.b, h⟩
theorem jn_tup {m : Option α} {R : α → List SP} {p : SP → Prop} (h : JA S es Γ m R) {k : Nat} (hl : ∀ x, (R x).length ≤ 1000 := by intro _; decide) : JN S (.Tuple es k pos) Γ m fun x => sh (htupS (R x)) := fun σ W F st x hx Q kk =>
  ⟨tTup (taOf S es), fun X hX => pe_tup (paO hX), h σ W F st x hx _ fun vs W' e hh => by
    refine ⟨Nat.le_trans (by rw [hh.len]; exact hl x) (by decide), fun q hq => ?_⟩
    have e2 := Ext.newB e.ok (o := .tup vs) hq
    exact kk (.ref q) ⟨upd W'.H q (.tup vs), upd W'.B q (.tup vs)⟩ [] (e.trans e2) (fun _ h => (List.not_mem_nil h).elim) FpOk.nil ⟨rfl, q, vs, rfl, upd_same, hh.mono e2.b⟩⟩
/-- a call of a builtin by values -/
theorem jn_callB {x : Str} {id : String} {p : Pos} {r : List V → Hp → VK → Prop} {m : Option α} {G : α → List SP} {f : α → Option γ} {R : γ → OP} (hc : ∀ X, S.In X → CallR X (.builtin id) r)
    (hr : ∀ W x vs z, Ex W.B W.H → Hets W.B vs (G x) → f x = some z → ∀ Q : VK, Got (R z) W Q → r vs W.H Q) (hm : S.mg x = none) (ha : JA S (e :: es) Γ m G)
    (hg : GlS S x := by rfl) (hv : bootBuiltins x = some (.builtin id) := by decide +kernel) (hn : x ≠ "__name__" := by decide) (hdb : (x == ("__debug__" : Str)) = false := by decide)
    (he : ∀ env, starEach (e :: es) env = (false, eval e env) :: starEach es env := by intro _; rfl) (hpl : ∀ env, (backTo pos (starEach es env)).any (·.1) = false := by intro _; rfl) : JN S (.Call (.Name x p) (e :: es) [] pos) Γ (m.bind fun y => f y) R := fun σ W F st z hz Q k => by
  obtain ⟨y, h1, h2⟩ := run1 hz
  exact ⟨tCB r (taOf S (e :: es)), fun X hX => pe_callB (hc X hX) (hg.gl hX) (mgS hm hX) hv (paO hX) hn hdb (he _) (hpl _), ha σ W F st y h1 _ fun vs W' e hh => hr W' y vs z e.ok hh h2 Q (k.ext e)⟩
theorem jn_callTy {x : Str} {T : String} {p : Pos} {r : List V → Hp → VK → Prop} {m : Option α} {G : α → List SP} {f : α → Option γ} {R : γ → OP} (hc : ∀ X, S.In X → CallR X (.type T) r)
    (hr : ∀ W x vs z, Ex W.B W.H → Hets W.B vs (G x) → f x = some z → ∀ Q : VK, Got (R z) W Q → r vs W.H Q) (hm : S.mg x = none) (ha : JA S (e :: es) Γ m G)
    (hg : GlS S x := by rfl) (hv : bootBuiltins x = some (.type T) := by decide +kernel) (hn : x ≠ "__name__" := by decide) (hdb : (x == ("__debug__" : Str)) = false := by decide)
    (he : ∀ env, starEach (e :: es) env = (false, eval e env) :: starEach es env := by intro _; rfl) (hpl : ∀ env, (backTo pos (starEach es env)).any (·.1) = false := by intro _; rfl) : JN S (.Call (.Name x p) (e :: es) [] pos) Γ (m.bind fun y => f y) R := fun σ W F st z hz Q k => by
  obtain ⟨y, h1, h2⟩ := run1 hz
  exact ⟨tCB r (taOf S (e :: es)), fun X hX => pe_callTy (hc X hX) (hg.gl hX) (mgS hm hX) hv (paO hX) hn hdb (he _) (hpl _), ha σ W F st y h1 _ fun vs W' e hh => hr W' y vs z e.ok hh h2 Q (k.ext e)⟩
end
end CC
set_option maxHeartbeats 4000000
/-! Walks, comprehensions, loops, calls. -/
namespace CC
open PySem PySem.Spec L2
open PyProof.Rows hiding St
variable {α β γ δ τ ω ρ : Type}
/-- the length up to which lists are claimed -/
def LIM : Nat := 1000000
theorem lim_le {n : Nat} (h : n ≤ LIM) : n ≤ sizeLine := Nat.le_trans h (by decide)
theorem lim_lt {n : Nat} (h : n < LIM) : n < sizeLine := Nat.lt_of_lt_of_le h (by decide)
/-! ### walks -/
def ItOk (J : It) (C : Wd → Prop) (xs : List α) (E : α → SP) : Prop :=
  ∀ W1, C W1 → (∀ i x, xs[i]? = some x → J.go i W1.H ∧ ∀ v H', J.yld i W1.H v H' → ∃ W2, W2.H = H' ∧ Ext W1 W2 ∧ (E x).P W2.B v) ∧ ∀ i, xs.length ≤ i → J.stop i W1.H
def tiOf (S : Stc) (tg iter : Expr) : TI := fun σ H R => ∃ wi : TI, (∀ X, S.In X → PI X tg iter wi) ∧ wi σ H R
theorem piO {S : Stc} {X : Cx} {tg e : Expr} (h : S.In X) : PI X tg e (tiOf S tg e) := ⟨fun pins s σ H R I ⟨_, p, q⟩ => (p X h).run pins s σ H R I q⟩
/-- a walk over what is shared -/
def JI (S : Stc) (tg iter : Expr) (Γ : Ctx) (m : Option (List α)) (E : α → SP) : Prop :=
  ∀ σ W F, Sta Γ σ W F → ∀ xs, m = some xs → ∀ R : It → Hp → Prop, (∀ J W', Ext W W' → ItOk J (fun W1 => Ex W1.B W1.H ∧ Ex W'.B W1.B) xs E → R J W'.H) → tiOf S tg iter σ W.H R
/-- .. over what stands as it stands now -/
def JIc (S : Stc) (tg iter : Expr) (Γ : Ctx) (m : Option (List α)) (E : α → SP) : Prop :=
  ∀ σ W F, Sta Γ σ W F → ∀ xs, m = some xs → ∀ R : It → Hp → Prop, (∀ J W', Ext W W' → ItOk J (fun W1 => Ext W' W1) xs E → R J W'.H) → tiOf S tg iter σ W.H R
section
variable {S : Stc} {Γ Δ : Ctx} {a b c e tg iter elt : Expr} {es ifs : List Expr} {pos : Pos}
theorem jic_of {m : Option (List α)} {E : α → SP} (h : JI S tg iter Γ m E) : JIc S tg iter Γ m E := fun σ W F st xs hx R k => h σ W F st xs hx R fun J W' e ok => k J W' e fun W1 e1 => ok W1 ⟨e1.ok, e1.b⟩
theorem ok_list {K : PySem.W.Frag} {C : Wd → Prop} {p : Addr} {xs : List α} {E : α → SP} (h : ∀ W1, C W1 → Ex W1.B W1.H ∧ ∃ vs, W1.H p = some (.lst vs) ∧ Each E W1.B vs xs) : ItOk (Itl K p) C xs E := fun W1 c => by
  obtain ⟨ok, vs, h1, h2⟩ := h W1 c
  have hq : SqL K W1.H p vs := .inl (.inl h1)
  refine ⟨fun i x hx => ?_, fun i hi => ⟨vs, hq, by rw [h2.len]; exact hi⟩⟩
  obtain ⟨v, hv, pv⟩ := h2.get hx
  refine ⟨⟨vs, v, hq, hv⟩, fun u H' ⟨e1, e2⟩ => ⟨W1, e1.symm, Ext.refl ok, ?_⟩⟩
  have q := e2 vs hq
  rw [hv] at q
  cases q
  exact pv
theorem ok_tup {K : PySem.W.Frag} {C : Wd → Prop} {p : Addr} {xs : List α} {E : α → SP} (h : ∀ W1, C W1 → Ex W1.B W1.H ∧ ∃ vs, W1.H p = some (.tup vs) ∧ Each E W1.B vs xs) : ItOk (Itt K p) C xs E := fun W1 c => by
  obtain ⟨ok, vs, h1, h2⟩ := h W1 c
  have hq : SqT K W1.H p vs := .inl (.inl h1)
  refine ⟨fun i x hx => ?_, fun i hi => ⟨vs, hq, by rw [h2.len]; exact hi⟩⟩
  obtain ⟨v, hv, pv⟩ := h2.get hx
  refine ⟨⟨vs, v, hq, hv⟩, fun u H' ⟨e1, e2⟩ => ⟨W1, e1.symm, Ext.refl ok, ?_⟩⟩
  have q := e2 vs hq
  rw [hv] at q
  cases q
  exact pv
theorem ji_lst {m : Option (List α)} {E : α → SP} (h : JN S iter Γ m fun xs => sh (lstS E xs)) : JI S tg iter Γ m E := fun σ W F st xs hx R k => by
  refine ⟨iList S.K (tOf S iter), fun X hX => hX.K ▸ pi_list (peO hX), h σ W F st xs hx _ fun v W' Fv ext _ _ r => ?_⟩
  obtain ⟨_, a, vs, rfl, h2, h3⟩ := r
  refine ⟨a, rfl, ⟨vs, .inl (.inl (ext.ok a _ h2))⟩, k _ W' ext (ok_list fun W1 c => ⟨c.1, vs, c.1 a _ (c.2 a _ h2), h3.mono c.2⟩)⟩
theorem ji_tup {m : Option (List α)} {E : α → SP} (h : JN S iter Γ m fun xs => sh (tupS E xs)) : JI S tg iter Γ m E := fun σ W F st xs hx R k => by
  refine ⟨iTup S.K (tOf S iter), fun X hX => hX.K ▸ pi_tup (peO hX), h σ W F st xs hx _ fun v W' Fv ext _ _ r => ?_⟩
  obtain ⟨_, a, vs, rfl, h2, h3⟩ := r
  refine ⟨a, rfl, ⟨vs, .inl (.inl (ext.ok a _ h2))⟩, k _ W' ext (ok_tup fun W1 c => ⟨c.1, vs, c.1 a _ (c.2 a _ h2), h3.mono c.2⟩)⟩
theorem ji_scr {m : Option (List Int)} (h : JN S iter Γ m fun xs => sh (scrS S.K xs)) : JI S tg iter Γ m intS := fun σ W F st xs hx R k => by
  refine ⟨iList S.K (tOf S iter), fun X hX => hX.K ▸ pi_list (peO hX), h σ W F st xs hx _ fun v W' Fv ext _ _ r => ?_⟩
  obtain ⟨_, a, rfl, h2⟩ := r
  have mv : ∀ {B : Hp} {W1 : Wd}, SqL S.K B a (xs.map V.int) → Ex B W1.H → SqL S.K W1.H a (xs.map V.int) := fun {B W1} h e => by
    rcases h with (h | ⟨o, h⟩) | h
    · exact .inl (.inl (e _ _ h))
    · exact .inl (.inr ⟨o, e _ _ h⟩)
    · exact .inr h
  refine ⟨a, rfl, ⟨_, mv (W1 := W') h2 ext.ok⟩, k _ W' ext fun W1 c => ?_⟩
  have hq := mv (W1 := W1) h2 (c.2.trans c.1)
  refine ⟨fun i x hx => ?_, fun i hi => ⟨_, hq, by rw [List.length_map]; exact hi⟩⟩
  have hv : (xs.map V.int)[i]? = some (.int x) := by rw [List.getElem?_map, hx]; rfl
  refine ⟨⟨_, _, hq, hv⟩, fun u H' ⟨e1, e2⟩ => ⟨W1, e1.symm, Ext.refl c.1, ?_⟩⟩
  have q := e2 _ hq
  rw [hv] at q
  cases q
  rfl
/-- over a list of one's own, as it stands -/
theorem jic_own {m : Option (List α)} {E : α → SP} (h : JR S iter Γ m fun xs => lstO (fun x => sh (E x)) xs) : JIc S tg iter Γ m E := fun σ W F st xs hx R k => by
  refine ⟨iList S.K (tOf S iter), fun X hX => hX.K ▸ pi_list (peO hX), h σ W F st xs hx _ fun v W' ext ⟨F1, r, _⟩ => ?_⟩
  obtain ⟨a, vs, F2, rfl, h2, _, h4⟩ := r
  obtain ⟨_, h5⟩ := h4.each
  exact ⟨a, rfl, ⟨vs, .inl (.inl h2)⟩, k _ W' ext (ok_list fun W1 c => ⟨c.ok, vs, c.h a _ h2, h5.mono c.b⟩)⟩
/-- range -/
def rng (lo hi : Int) : Option (List Int) := if hi - lo ≤ LIM ∧ -LIM ≤ lo ∧ lo ≤ LIM ∧ -LIM ≤ hi ∧ hi ≤ LIM then some ((List.range (hi - lo).toNat).map fun i : Nat => lo + (i : Int)) else none
theorem ok_rng {lo : Int} {n : Nat} {C : Wd → Prop} (hC : ∀ W1, C W1 → Ex W1.B W1.H) : ItOk (Itr lo n) C ((List.range n).map fun i : Nat => lo + (i : Int)) intS := fun W1 c => by
  refine ⟨fun i x hx => ?_, fun i hi => by
    show n ≤ i
    simpa using hi⟩
  have hi : i < n := by
    have := (List.getElem?_eq_some_iff.mp hx).1
    simpa using this
  have e : lo + (i : Int) = x := by
    rw [List.getElem?_map, List.getElem?_range hi] at hx
    exact Option.some.inj hx
  exact ⟨hi, fun v H' ⟨e1, e2⟩ => ⟨W1, e1.symm, Ext.refl (hC W1 c), by rw [e2, e]; rfl⟩⟩
theorem ji_rng1 {p : Pos} {m : Option Int} (hm : S.mg "range" = none) (h : JN S a Γ m fun x => sh (intS x)) (hg : GlS S "range" := by rfl) (hs : ∀ env, starEach [a] env = [(false, eval a env)] := by intro _; rfl) :
    JI S tg (.Call (.Name "range" p) [a] [] pos) Γ (m.bind fun n => rng 0 n) intS := fun σ W F st xs hx R k => by
  obtain ⟨n, h1, h2⟩ := run1 hx
  unfold rng at h2
  split at h2
  · rename_i hb
    cases h2
    refine ⟨iRng1 (tCons (tOf S a) tNil), fun X hX => pi_range1 (hg.gl hX) (mgS hm hX) (pa_cons (peO hX) pa_nil (hs _)) (hs _), h σ W F st n h1 _ fun v W' Fv ext _ _ r => ?_⟩
    obtain ⟨_, rfl⟩ := r
    have z : (LIM : Int) = 1000000 := rfl
    refine ⟨n, rfl, by omega, by omega, ?_⟩
    have e : (n - 0).toNat = n.toNat := by rw [Int.sub_zero]
    rw [← e]
    exact k _ W' ext (ok_rng fun W1 c => c.1)
  · cases h2
theorem ji_rng2 {p : Pos} {m m' : Option Int} (hm : S.mg "range" = none) (h : JN S a Γ m fun x => sh (intS x)) (h' : JN S b Γ m' fun x => sh (intS x)) (hg : GlS S "range" := by rfl) (hs : ∀ env, starEach [a, b] env = [(false, eval a env), (false, eval b env)] := by intro _; rfl)
    (hs2 : ∀ env, starEach [b] env = [(false, eval b env)] := by intro _; rfl) : JI S tg (.Call (.Name "range" p) [a, b] [] pos) Γ (m.bind fun lo => m'.bind fun hi => rng lo hi) intS := fun σ W F st xs hx R k => by
  obtain ⟨lo, hi, h1, h1', h2⟩ := run2 hx
  unfold rng at h2
  split at h2
  · rename_i hb
    cases h2
    refine ⟨iRng2 (tCons (tOf S a) (tCons (tOf S b) tNil)), fun X hX => pi_range2 (hg.gl hX) (mgS hm hX) (pa_cons (peO hX) (pa_cons (peO hX) pa_nil (hs2 _)) ((hs _).trans (by rw [hs2]))) (hs _) (hs2 _), h σ W F st lo h1 _ fun v W1 Fv ext _ _ r => ?_⟩
    obtain ⟨_, rfl⟩ := r
    refine h' σ W1 F (st.ext ext) hi h1' _ fun v W2 Fv ext2 _ _ r => ?_
    obtain ⟨_, rfl⟩ := r
    have z : (LIM : Int) = 1000000 := rfl
    exact ⟨lo, hi, rfl, by omega, k _ W2 (ext.trans ext2) (ok_rng fun W1 c => c.1)⟩
  · cases h2
/-! ### targets -/
def tgOf (S : Stc) (tg : Expr) : TG := fun v σ H Q => ∃ g : TG, (∀ X, S.In X → PG X tg g) ∧ g v σ H Q
theorem pgO {S : Stc} {X : Cx} {tg : Expr} (h : S.In X) : PG X tg (tgOf S tg) := ⟨fun pins s σ H v u Q I r ⟨_, p, q⟩ => (p X h).run pins s σ H v u Q I r q⟩
/-- a target that stores into the slots ws -/
def JG (S : Stc) (tg : Expr) (E : α → SP) (up : α → Ctx → Ctx) (ws : List Nat) : Prop :=
  ∀ Γ σ W F x v, Sta Γ σ W F → (∀ i ∈ ws, i < Γ.length) → (E x).P W.B v → ∀ Q : L2.St → Hp → Prop, (∀ σ' F', (∀ vs : List Nat, (∀ i ∈ ws, i ∈ vs) → wipe σ' vs = wipe σ vs) → Keep S.prot σ σ' → Sta (up x Γ) σ' W F' → (∀ a ∈ F', a ∈ F) → Q σ' W.H) → tgOf S tg v σ W.H Q
theorem wipe_set {i : Nat} {x : Option V} : ∀ {vs : List Nat} {σ : L2.St}, i ∈ vs → wipe (σ.set i x) vs = wipe σ vs
  | [], _, h => by simp at h
  | v :: vs, σ, h => by
    show (wipe (σ.set i x) vs).set v none = (wipe σ vs).set v none
    by_cases hi : i ∈ vs
    · rw [wipe_set hi]
    · have e : i = v := by simpa [hi] using h
      subst e
      have go : ∀ (ws : List Nat) (σ : L2.St), i ∉ ws → wipe (σ.set i x) ws = (wipe σ ws).set i x := by
        intro ws
        induction ws with
        | nil => intro σ _; rfl
        | cons w ws ih =>
          intro σ hn
          have h1 : w ≠ i := fun z => hn (z ▸ List.mem_cons_self)
          show (wipe (σ.set i x) ws).set w none = ((wipe σ ws).set w none).set i x
          rw [ih σ fun z => hn (List.mem_cons_of_mem _ z), List.set_comm _ _ h1.symm]
      rw [go vs σ hi, List.set_set]
theorem set_keeps {Γ : Ctx} {σ : L2.St} {W : Wd} {F : List Addr} {i : Nat} {p : SP} {v : V} (st : Sta Γ σ W F) (hi : i < Γ.length) (h : p.P W.B v) : ∃ F', Sta (Γ.set i (some (sh p))) (σ.set i (some v)) W F' ∧ ∀ a ∈ F', a ∈ F := by
  obtain ⟨F', s', sub⟩ := st.put (o := sh p) (F1 := []) hi ⟨rfl, h⟩ (by rw [List.append_nil]; exact st.fp)
  exact ⟨F', s', fun a ha => by simpa using sub a ha⟩
theorem jg_name {E : α → SP} {x : Str} {pos : Pos} (i : Nat) (nd : S.N.Nodup) (hN : S.N[i]? = some x := by rfl) (hx : Loc S.sc x := by first | exact Or.inl rfl | exact Or.inr rfl) (hp : (S.prot.contains i) = false := by rfl)
    (hf : S.fn x = true ∨ S.sc.names.lookup x = some .local := by first | exact .inl rfl | exact .inr rfl) : JG S (.Name x pos) E (fun a Γ => Γ.set i (some (sh (E a)))) [i] := fun Γ σ W F y v st hl h Q k => by
  refine ⟨gName i, fun X hX => pg_name (by rw [hX.N]; exact nd) (by rw [hX.N]; exact hN) (locS hx hX) (by rw [hX.fn, hX.sc]; exact hf), ?_⟩
  obtain ⟨F', s', sub⟩ := set_keeps st (hl i (by simp)) h
  exact k _ F' (fun vs hv => wipe_set (hv i (by simp))) (Keep.set (ncon hp)) s' sub
/-- a name that is not read any more -/
theorem jg_pair {E : α → SP} {G : β → SP} {x y : Str} {pos p1 p2 : Pos} {k : Nat} (i j : Nat) (nd : S.N.Nodup) (hN : S.N[i]? = some x := by rfl) (hM : S.N[j]? = some y := by rfl) (hx : Loc S.sc x := by first | exact Or.inl rfl | exact Or.inr rfl) (hy : Loc S.sc y := by first | exact Or.inl rfl | exact Or.inr rfl)
    (hp : (S.prot.contains i) = false := by rfl) (hq : (S.prot.contains j) = false := by rfl) (hf : S.fn x = true ∨ S.sc.names.lookup x = some .local := by first | exact .inl rfl | exact .inr rfl) (hf2 : S.fn y = true ∨ S.sc.names.lookup y = some .local := by first | exact .inl rfl | exact .inr rfl)
    (hs : ∀ env, (assignEach [Expr.Name x p1, .Name y p2] env).map (·.2) = assign (.Name x p1) env :: (assignEach [Expr.Name y p2] env).map (·.2) := by intro _; rfl) (hs2 : ∀ env, (assignEach [Expr.Name y p2] env).map (·.2) = assign (.Name y p2) env :: (assignEach [] env).map (·.2) := by intro _; rfl)
    (hn : ∀ env, (assignEach [Expr.Name x p1, .Name y p2] env).length = 2 := by intro _; rfl) (hst : ∀ env, (assignEach [Expr.Name x p1, .Name y p2] env).findIdx? (·.1) = none := by intro _; rfl) (hcm : S.calm = true := by rfl) :
    JG S (.Tuple [.Name x p1, .Name y p2] k pos) (prS E G) (fun a Γ => (Γ.set i (some (sh (E a.1)))).set j (some (sh (G a.2)))) [i, j] := fun Γ σ W F q v st hl h Q kk => by
  refine ⟨gTup S.K 2 (gCons (gName i) (gCons (gName j) gNil)), fun X hX => hX.K ▸ pg_tup (hX.calm.trans hcm) (pgs_cons (pg_name (by rw [hX.N]; exact nd) (by rw [hX.N]; exact hN) (locS hx hX) (by rw [hX.fn, hX.sc]; exact hf)) (pgs_cons (pg_name (by rw [hX.N]; exact nd) (by rw [hX.N]; exact hM) (locS hy hX) (by rw [hX.fn, hX.sc]; exact hf2)) pgs_nil (hs2 _)) (hs _)) (hn _) (hst _), ?_⟩
  obtain ⟨a, vs, rfl, h2, h3⟩ := h
  match vs, h3 with
  | [u, w], ⟨p1, p2, _⟩ =>
    refine ⟨a, [u, w], rfl, .inl (.inl (st.ok a _ h2)), rfl, u, [w], rfl, w, [], rfl, rfl, ?_⟩
    obtain ⟨F1, s1, sub1⟩ := set_keeps st (hl i (by simp)) p1
    obtain ⟨F2, s2, sub2⟩ := set_keeps s1 (by rw [List.length_set]; exact hl j (by simp)) p2
    refine kk _ F2 (fun vs hv => ?_) ((Keep.set (ncon hp)).trans (Keep.set (ncon hq))) s2 fun b hb => sub1 b (sub2 b hb)
    rw [wipe_set (hv j (by simp)), wipe_set (hv i (by simp))]
/-! ### comprehensions -/
/-- the items that pass, turned -/
def compGo (t : α → Option Bool) (f : α → Option β) : List α → Option (List β)
  | [] => some []
  | x :: xs => (t x).bind fun b => bif b then (f x).bind fun y => (compGo t f xs).bind fun ys => some (y :: ys) else compGo t f xs
def compM (t : α → Option Bool) (f : α → Option β) (xs : List α) : Option (List β) := if xs.length ≤ LIM then compGo t f xs else none
def mapGo (f : α → Option β) : List α → Option (List β)
  | [] => some []
  | x :: xs => (f x).bind fun y => (mapGo f xs).bind fun ys => some (y :: ys)
def mapM (f : α → Option β) (xs : List α) : Option (List β) := if xs.length ≤ LIM then mapGo f xs else none
theorem compGo_yes (f : α → Option β) : ∀ xs : List α, compGo (fun _ => some true) f xs = mapGo f xs
  | [] => rfl
  | x :: xs => by
    show (f x).bind _ = (f x).bind _
    rw [compGo_yes f xs]
def ttsOf (S : Stc) (ifs : List Expr) : TT := fun σ H Q => ∃ t : TT, (∀ X, S.In X → PTs X ifs t) ∧ t σ H Q
theorem ptsO {S : Stc} {X : Cx} {ifs : List Expr} (h : S.In X) : PTs X ifs (ttsOf S ifs) := ⟨fun pins s σ H Q I ⟨_, p, q⟩ => (p X h).run pins s σ H Q I q⟩
def JTs (S : Stc) (ifs : List Expr) (Γ : Ctx) (m : Option Bool) : Prop :=
  ∀ σ W F, Sta Γ σ W F → ∀ b, m = some b → ∀ Q : Bool → Hp → Prop, (∀ W', Ext W W' → Q b W'.H) → ttsOf S ifs σ W.H Q
theorem jts_nil : JTs S [] Γ (some true) := fun σ W F st b hb Q k => by
  cases hb
  exact ⟨tYes, fun _ _ => pts_nil, k W (Ext.refl st.ok)⟩
theorem jts_one {m : Option Bool} (h : JT S c Γ m) : JTs S [c] Γ m := fun σ W F st b hb Q k => ⟨ttOf S c, fun X hX => pts_one (ptO hX), h σ W F st b hb Q k⟩
/-- the block's own slots forgotten -/
def wipeC (Γ : Ctx) : List Nat → Ctx
  | [] => Γ
  | v :: vs => (wipeC Γ vs).set v none
theorem wipeC_len (Γ : Ctx) : ∀ vs, (wipeC Γ vs).length = Γ.length
  | [] => rfl
  | v :: vs => by
    show ((wipeC Γ vs).set v none).length = _
    rw [List.length_set, wipeC_len Γ vs]
theorem Holds.wipe1 {W : Wd} : ∀ {Γ : Ctx} {σ : L2.St} {F : List Addr} (i : Nat), Holds Γ σ W F → ∃ F' G, Holds (Γ.set i none) (σ.set i none) W F' ∧ F.Perm (F' ++ G)
  | [], σ, F, i, h => ⟨[], F, rfl, .refl _⟩
  | none :: Γ, σ, F, 0, h => ⟨F, [], by
      show Holds Γ (σ.set 0 none).tail W F
      cases σ <;> exact h, by rw [List.append_nil]⟩
  | some o :: Γ, σ, F, 0, ⟨v, F1, F2, h1, h2, h3, h4⟩ => ⟨F2, F1, by
      show Holds Γ (σ.set 0 none).tail W F2
      cases σ <;> exact h4, by subst h2; exact List.perm_append_comm⟩
  | none :: Γ, σ, F, i + 1, h => by
    cases σ with
    | nil =>
      obtain ⟨F', G, a1, a2⟩ := Holds.wipe1 (Γ := Γ) (σ := []) i h
      exact ⟨F', G, a1, a2⟩
    | cons s σ =>
      obtain ⟨F', G, a1, a2⟩ := Holds.wipe1 (Γ := Γ) (σ := σ) i h
      exact ⟨F', G, a1, a2⟩
  | some o :: Γ, σ, F, i + 1, ⟨v, F1, F2, h1, h2, h3, h4⟩ => by
    cases σ with
    | nil => simp at h1
    | cons s σ =>
      obtain ⟨F', G, a1, a2⟩ := Holds.wipe1 (Γ := Γ) (σ := σ) i h4
      subst h2
      refine ⟨F1 ++ F', G, ⟨v, F1, F', h1, rfl, h3, a1⟩, ?_⟩
      rw [List.append_assoc]
      exact List.Perm.append_left F1 a2
theorem Sta.wipe {Γ : Ctx} {σ : L2.St} {W : Wd} {F : List Addr} (st : Sta Γ σ W F) : ∀ vs : List Nat, ∃ F', Sta (wipeC Γ vs) (L2.wipe σ vs) W F' ∧ ∀ a ∈ F', a ∈ F
  | [] => ⟨F, st, fun _ h => h⟩
  | v :: vs => by
    obtain ⟨F1, s1, sub1⟩ := st.wipe vs
    obtain ⟨F', G, a1, a2⟩ := s1.hold.wipe1 v
    exact ⟨F', ⟨st.ok, (s1.fp.perm a2).left, by
      show ((L2.wipe σ vs).set v none).length = ((wipeC Γ vs).set v none).length
      rw [List.length_set, List.length_set]; exact s1.len, a1⟩, fun a h => sub1 a (a2.mem_iff.mpr (List.mem_append_left _ h))⟩
/-- a comprehension's parts, and its reading -/
def JC (S : Stc) (elt tg iter : Expr) (ifs : List Expr) (scope : Scope) (Γ : Ctx) (m : Option α) (R : α → OP) : Prop :=
  ∃ own : List (Str × Nat), BlkOk S.N S.sc scope own ∧ ∀ σ W F, Sta Γ σ W F → ∀ x, m = some x → ∀ Q : VK, Got (R x) W Q → tLc (tiOf S tg iter) (tgOf (S.blk scope) tg) (ttsOf (S.blk scope) ifs) (tOf (S.blk scope) elt) (own.map (·.2)) σ W.H Q
theorem jn_lc {scope : Scope} {m : Option α} {R : α → OP} (nd : S.N.Nodup) (h : JC S elt tg iter ifs scope Γ m R) (hs : ∀ env x, foldedSetIterable iter env x = pure x := by intro _ _; rfl) (hcm : S.calm = true := by rfl) : JN S (.ListComp elt [⟨tg, iter, ifs, 0⟩] scope pos) Γ m R := fun σ W F st x hx Q k => by
  obtain ⟨own, ok, go⟩ := h
  exact ⟨_, fun X hX => pe_lc (hX.calm.trans hcm) (by rw [hX.N]; exact nd) (piO hX) (by rw [hX.N, hX.sc]; exact ok) (fun s H C cl fp => pgO (hX.blk scope s H C cl fp)) (fun s H C cl fp => ptsO (hX.blk scope s H C cl fp)) (fun s H C cl fp => peO (hX.blk scope s H C cl fp)) (hs _), go σ W F st x hx Q k⟩
theorem compGo_len {t : α → Option Bool} {f : α → Option β} : ∀ {xs : List α} {ys : List β}, compGo t f xs = some ys → ys.length ≤ xs.length
  | [], ys, h => by cases h; exact Nat.le_refl _
  | x :: xs, ys, h => by
    obtain ⟨b, h1, h2⟩ := run1 (f := fun b => bif b then (f x).bind fun y => (compGo t f xs).bind fun ys => some (y :: ys) else compGo t f xs) h
    cases b with
    | true =>
      obtain ⟨y, ys', h3, h4, h5⟩ := run2 (f := fun y ys => some (y :: ys)) h2
      cases h5
      exact Nat.succ_le_succ (compGo_len h4)
    | false => exact Nat.le_succ_of_le (compGo_len (xs := xs) h2)
/-- the block's turns, over a walk -/
theorem jc_of {scope : Scope} {mi : Option (List α)} {E : α → SP} {up : α → Ctx → Ctx} {ws : List Nat} {mt : α → Option Bool} {me : α → Option β} {R : β → OP} (own : List (Str × Nat)) (hi : JIc S tg iter Γ mi E) (ok : blkC S.N S.sc scope own = true) (hg : JG (S.blk scope) tg E up ws)
    (hw : ∀ i ∈ ws, i ∈ own.map (·.2)) (hl : ∀ i ∈ ws, i < Γ.length) (ht : ∀ x, JTs (S.blk scope) ifs (up x (wipeC Γ (own.map (·.2)))) (mt x)) (he : ∀ x, JN (S.blk scope) elt (up x (wipeC Γ (own.map (·.2)))) (me x) R) :
    JC S elt tg iter ifs scope Γ (mi.bind fun xs => compM mt me xs) fun ys => lstO R ys := by
  refine ⟨own, blkOk_by ok, fun σ W F st ys hx Q k => ?_⟩
  obtain ⟨xs, h1, h2⟩ := run1 hx
  unfold compM at h2
  split at h2
  · rename_i hlen
    refine hi σ W F st xs h1 _ fun J W' ext iok => fun D hD => ?_
    have st' := st.ext ext
    -- the invariant: what is made so far, what is left
    refine ⟨fun i m H => m = xs.length - i ∧ i ≤ xs.length ∧ ∃ (W1 : Wd) (acc : List V) (as : List β) (bs : List β) (Fa : List Addr), W1.H = H ∧ Ext W' W1 ∧ W1.H D = some (.lst acc) ∧ W1.B D = none ∧ as.length ≤ i ∧
      compGo mt me (xs.drop i) = some bs ∧ as ++ bs = ys ∧ Owns R W1 acc as Fa ∧ FpOk W1 Fa ∧ D ∉ Fa ∧ ∀ a ∈ Fa, W'.H a = none, ⟨xs.length, by simp, Nat.zero_le _, ⟨upd W'.H D (.lst []), W'.B⟩, [], [], ys, [], rfl, Ext.new ext.ok hD, upd_same, ext.ok.back hD, Nat.le_refl _, by simpa using h2, rfl, rfl, FpOk.nil, by simp, by simp⟩, ?_⟩
    rintro i m H ⟨rfl, hi', W1, acc, as, bs, Fa, rfl, e1, d1, d2, la, c1, c2, o1, o2, o3, o4⟩
    obtain ⟨iok1, iok2⟩ := iok W1 e1
    by_cases hlt : i < xs.length
    · obtain ⟨g1, g2⟩ := iok1 i xs[i] (List.getElem?_eq_getElem hlt)
      refine .inr ⟨g1, fun H' => ∃ m', m' < xs.length - i ∧ (m' = xs.length - (i + 1) ∧ i + 1 ≤ xs.length ∧ ∃ (W1 : Wd) (acc : List V) (as : List β) (bs : List β) (Fa : List Addr), W1.H = H' ∧ Ext W' W1 ∧ W1.H D = some (.lst acc) ∧ W1.B D = none ∧ as.length ≤ i + 1 ∧
        compGo mt me (xs.drop (i + 1)) = some bs ∧ as ++ bs = ys ∧ Owns R W1 acc as Fa ∧ FpOk W1 Fa ∧ D ∉ Fa ∧ ∀ a ∈ Fa, W'.H a = none), fun H' h => h, fun v H' y => ?_⟩
      obtain ⟨W2, rfl, e2, p2⟩ := g2 v H' y
      have hDrop : xs.drop i = xs[i] :: xs.drop (i + 1) := List.drop_eq_getElem_cons hlt
      rw [hDrop] at c1
      obtain ⟨b, t1, t2⟩ := run1 (f := fun b => bif b then (me xs[i]).bind fun y => (compGo mt me (xs.drop (i + 1))).bind fun ys => some (y :: ys) else compGo mt me (xs.drop (i + 1))) c1
      obtain ⟨Fw, sw, subw⟩ := (st'.ext (e1.trans e2)).wipe (own.map (·.2))
      refine hg _ _ W2 Fw xs[i] v sw (fun j hj => by rw [wipeC_len]; exact hl j hj) p2 _ fun σ2 F2 wp _ s2 sub2 => ⟨?_, ?_⟩
      · rw [wp _ hw]
        exact wipe_wipe σ (own.map (·.2))
      refine ht xs[i] σ2 W2 F2 s2 b t1 _ fun W3 e3 => ?_
      have eAll : Ext W1 W3 := e2.trans e3
      cases b with
      | true =>
        obtain ⟨y1, ys1, t3, t4, t5⟩ := run2 (f := fun y ys => some (y :: ys)) t2
        cases t5
        refine iteT (he xs[i] σ2 W3 F2 (s2.ext e3) y1 t3 _ fun u W4 Fu e4 fr4 fp4 r4 => ?_)
        have eA : Ext W1 W4 := eAll.trans e4
        have hD4 : W4.H D = some (.lst acc) := eA.h D _ d1
        have hB4 : W4.B D = none := eA.fr D (by rw [d1]; exact fun z => nomatch z) d2
        have ha4 : acc.length < LIM := by
          have := o1.len
          omega
        refine ⟨acc, hD4, lim_lt ha4, xs.length - (i + 1), by omega, rfl, hlt, ⟨upd W4.H D (.lst (acc ++ [u])), W4.B⟩, acc ++ [u], as ++ [y1], ys1, Fa ++ Fu, rfl, ?_, upd_same, hB4, ?_, t4, by rw [List.append_assoc]; exact c2, ?_, ?_, ?_, ?_⟩
        · have q := e1.trans eA
          refine ⟨fun a o h => ?_, fun a o h => ?_, q.b, q.fr⟩
          · have z : a ≠ D := fun z => by
              rw [z] at h
              rw [show W4.B D = some o from h] at hB4
              cases hB4
            show upd W4.H D _ a = some o
            rw [upd_ne z]
            exact q.ok a o h
          · show upd W4.H D _ a = some o
            rw [upd_ne (ne_of_none h hD)]
            exact q.h a o h
        · rw [List.length_append, List.length_singleton]
          omega
        · have nD : ∀ a ∈ Fa ++ Fu, a ≠ D := fun a ha z => by
            rcases List.mem_append.mp ha with h | h
            · exact o3 (z ▸ h)
            · have q := e3.h.back (fr4 a h)
              rw [z] at q
              have q2 := e2.h.back q
              rw [d1] at q2
              cases q2
          have A1 : Owns R W4 acc as Fa := o1.loc eA.b fun a ha => eA.h.eq (o2.al a ha)
          have A2 : Owns R W4 [u] [y1] Fu := ⟨Fu, [], (List.append_nil _).symm, r4, rfl⟩
          have A3 : Owns R W4 (acc ++ [u]) (as ++ [y1]) (Fa ++ Fu) := A1.app A2
          refine Owns.loc (W := W4) (W' := ⟨upd W4.H D (.lst (acc ++ [u])), W4.B⟩) (fun _ _ h => h) A3 fun a ha => ?_
          show upd W4.H D (.lst (acc ++ [u])) a = W4.H a
          exact upd_ne (nD a ha)
        · have fpA : FpOk W4 (Fa ++ Fu) := (o2.ext eAll).fresh e4 fp4 fr4
          refine ⟨fpA.nd, fun a ha => ?_, fpA.fr⟩
          show upd W4.H D _ a ≠ none
          by_cases z : a = D
          · rw [z, upd_same]
            exact fun z => nomatch z
          · rw [upd_ne z]
            exact fpA.al a ha
        · intro h
          rcases List.mem_append.mp h with h | h
          · exact o3 h
          · have q := e3.h.back (fr4 D h)
            have q2 := e2.h.back q
            rw [d1] at q2
            cases q2
        · intro a ha
          rcases List.mem_append.mp ha with h | h
          · exact o4 a h
          · exact (e1.trans eAll).h.back (fr4 a h)
      | false =>
        refine iteF ⟨xs.length - (i + 1), by omega, rfl, hlt, W3, acc, as, bs, Fa, rfl, e1.trans eAll, eAll.h D _ d1, eAll.fr D (by rw [d1]; exact fun z => nomatch z) d2, by omega, t2, c2, o1.loc eAll.b fun a ha => eAll.h.eq (o2.al a ha), o2.ext eAll, o3, o4⟩
    · have ei : i = xs.length := by omega
      subst ei
      rw [List.drop_length] at c1
      cases c1
      rw [List.append_nil] at c2
      subst c2
      refine .inl ⟨iok2 _ (Nat.le_refl _), k (.ref D) W1 (D :: Fa) (ext.trans e1) (fun a ha => ?_) ?_ ⟨D, acc, Fa, rfl, d1, rfl, o1⟩⟩
      · rcases List.mem_cons.mp ha with z | z
        · rw [z]; exact ext.h.back hD
        · exact ext.h.back (o4 a z)
      · refine ⟨List.nodup_cons.mpr ⟨o3, o2.nd⟩, fun a ha => ?_, fun a ha => ?_⟩
        · rcases List.mem_cons.mp ha with z | z
          · rw [z, d1]; exact fun z => nomatch z
          · exact o2.al a z
        · rcases List.mem_cons.mp ha with z | z
          · rw [z]; exact d2
          · exact o2.fr a z
  · cases h2
where
  wipe_wipe (σ : L2.St) : ∀ vs : List Nat, L2.wipe (L2.wipe σ vs) vs = L2.wipe σ vs := by
    intro vs
    have go : ∀ (us : List Nat), (∀ i ∈ us, i ∈ vs) → L2.wipe (L2.wipe σ us) vs = L2.wipe σ vs := by
      intro us
      induction us with
      | nil => intro _; rfl
      | cons u us ih =>
        intro h
        show L2.wipe ((L2.wipe σ us).set u none) vs = _
        rw [wipe_set (h u List.mem_cons_self)]
        exact ih fun i hi => h i (List.mem_cons_of_mem _ hi)
    exact go vs fun _ h => h
end
end CC
set_option maxHeartbeats 4000000
/-! Statements, loops, defs. -/
namespace CC
open PySem PySem.Spec L2
open PyProof.Rows hiding St
variable {α β γ δ τ ω ρ υ : Type}
/-! ### a def's promise -/
def spP (G : α → List SP) (fM : α → Option ρ) (R : ρ → OP) : Sp := fun vs H Q _ => ∃ x W r, W.H = H ∧ Ex W.B W.H ∧ Hets W.B vs (G x) ∧ fM x = some r ∧ Got (R r) W Q
/-- the first argument is owned, and changed -/
def spS (O : τ → OP) (G : α → List SP) (fM : α → τ → Option (ρ × τ)) (R : ρ → OP) : Sp := fun vs H Q _ => ∃ x s W F v0 vr r, vs = v0 :: vr ∧ W.H = H ∧ Ex W.B W.H ∧ FpOk W F ∧ (O s).C W v0 F ∧ Hets W.B vr (G x) ∧ fM x s = some r ∧
  ∀ v W' F' Fv, Stp W F W' (F' ++ Fv) → FpOk W' (F' ++ Fv) → (O r.2).C W' v0 F' → (R r.1).C W' v Fv → Q v W'.H
section
variable {S : Stc} {Γ Δ : Ctx} {a b c e tg iter elt : Expr} {es ifs : List Expr} {pos : Pos} {st : Stmt} {rest A B : List Stmt}
theorem passE0 {X : Cx} : Passes CX0 X E0 := fun _ _ _ _ _ _ _ h => h.elim
theorem bindsS {S : Stc} {X : Cx} {fd : FuncData} {ps : List Str} {ds : List Value} (h : S.In X) (b : Binds S.K fd ps ds) : Binds X.K fd ps ds := by rw [h.K]; exact b
theorem jn_call {x : Str} {p : Pos} {f : Addr} {fd : FuncData} {ps : List Str} {k : Nat} {G : α → List SP} {fM : α → Option ρ} {R : ρ → OP} {m : Option α} (Fn : FnOk S.P S.w S.K S.mg S.base CX0 k f fd ps (spP G fM R)) (hm : S.mg x = some (.ref f)) (kp : PySem.W.keepIn S.K (.ref f) = true) (hb : Binds S.K fd ps [])
    (hk : k ≤ S.k) (ha : JA S (e :: es) Γ m G) (hg : GlS S x := by rfl) (hdb : (x == ("__debug__" : Str)) = false := by decide) (he : ∀ env, starEach (e :: es) env = (false, eval e env) :: starEach es env := by intro _; rfl) (hpl : ∀ env, (backTo pos (starEach es env)).any (·.1) = false := by intro _; rfl) (hcm : S.calm = true := by rfl) :
    JN S (.Call (.Name x p) (e :: es) [] pos) Γ (m.bind fun y => fM y) R := fun σ W F st z hz Q kk => by
  obtain ⟨y, h1, h2⟩ := run1 hz
  refine ⟨tCall (spP G fM R) [] E0 (taOf S (e :: es)), fun X hX => pe_call (fnokS Fn hX) ((hX.room hcm).mono hk) (hg.gl hX) (mgS hm hX) (by rw [hX.K]; exact kp) (bindsS hX hb) .nil passE0 (paO hX) hdb (he _) (hpl _), ha σ W F st y h1 _ fun vs W' ext hh => ?_⟩
  show spP G fM R (vs ++ []) W'.H Q E0
  rw [List.append_nil]
  exact ⟨y, W', z, rfl, ext.ok, hh, h2, kk.ext ext⟩
/-! ### statements -/
def NoNx : Kd → Prop
  | .nx _ => False
  | _ => True
theorem jb_one {m : Option ω} {D : ω → Kd} (h : JS S st Γ m D) : JB S [st] Γ m D := fun σ W F sta x hx E k => ⟨tsOf S st, fun X hX => pss_one (psO hX), h σ W F sta x hx E k⟩
/-- the end of a block that falls through -/
theorem jb_nil {x : ω} {D : ω → Kd} (hD : D x = .nx Δ) (w : Weak Γ Δ) : JB S [] Γ (some x) D := fun σ W F sta y hy E k => by
  cases hy
  obtain ⟨F', s', sub⟩ := sta.weak w
  rw [hD] at k
  exact ⟨tNext, fun _ _ => pss_nil, k σ W F' Keep.refl ((Stp.refl sta.ok).perm sub) s'⟩
theorem post_nox {wx : WX} {prot : List Nat} {σ : L2.St} {W : Wd} {F : List Addr} {E : Ends} {N : L2.St → Hp → Prop} {k : Kd} (h : Post wx prot σ W F E k) (n : NoNx k) : Post wx prot σ W F { E with nx := N } k := by
  cases k with
  | nx Γ => exact n.elim
  | bk Γ => exact h
  | ct Γ => exact h
  | rt Γ R => exact h
  | xc Γ R => exact h
/-- one statement, then the rest -/
theorem jb_cons {ms : Option α} {Ds : α → Ctx} {mr : α → Option ω} {D : ω → Kd} (h : JS S st Γ ms fun x => .nx (Ds x)) (hr : ∀ x, JB S rest (Ds x) (mr x) D) : JB S (st :: rest) Γ (ms.bind fun x => mr x) D := fun σ W F sta z hz E k => by
  obtain ⟨x, h1, h2⟩ := run1 hz
  refine ⟨tSeq (tsOf S st) (tbOf S rest), fun X hX => pss_cons (psO hX) (pbO hX), ?_⟩
  exact h σ W F sta x h1 { E with nx := tbOf S rest E } fun σ' W' F' kp stp sta' => hr x σ' W' F' sta' z h2 E (k.before kp stp)
/-- an if whose branch never falls through -/
theorem jb_ifx {mc : Option Bool} {ma : Option υ} {mr : Option ω} {D : ω → Kd} {D' : υ → Kd} (ι : υ → ω) (hc : JT S c Γ mc) (ha : JB S A Γ ma D') (hι : ∀ x, D (ι x) = D' x) (hn : ∀ x, NoNx (D' x)) (hr : JB S rest Γ mr D) :
    JB S (.If c A [] pos :: rest) Γ (mc.bind fun b => bif b then ma.bind fun x => some (ι x) else mr) D := fun σ W F sta z hz E k => by
  obtain ⟨x, h1, h2⟩ := run1 hz
  refine ⟨tSeq (tIfS (ttOf S c) (tbOf S A) tNext) (tbOf S rest), fun X hX => pss_cons (ps_if (ptO hX) (pbO hX) pss_nil) (pbO hX), ?_⟩
  refine hc σ W F sta x h1 _ fun W' ext => ?_
  have stp : Stp W F W' F := by have := ext.stp (F := F) (Fv := []) (by simp); rwa [List.append_nil] at this
  cases x with
  | true =>
    obtain ⟨y, h3, h4⟩ := run1 h2
    cases h4
    refine iteT (ha σ W' F (sta.ext ext) y h3 _ ?_)
    rw [hι] at k
    exact post_nox (k.before Keep.refl stp) (hn y)
  | false => exact iteF (hr σ W' F (sta.ext ext) z h2 E (k.before Keep.refl stp))
/-- the same, the outcome being the block's own -/
theorem jb_ifr {mc : Option Bool} {ma mr : Option ω} {D : ω → Kd} (hc : JT S c Γ mc) (ha : JB S A Γ ma D) (hn : ∀ x, NoNx (D x)) (hr : JB S rest Γ mr D) : JB S (.If c A [] pos :: rest) Γ (mc.bind fun b => bif b then ma else mr) D := fun σ W F sta z hz E k => by
  obtain ⟨x, h1, h2⟩ := run1 hz
  refine ⟨tSeq (tIfS (ttOf S c) (tbOf S A) tNext) (tbOf S rest), fun X hX => pss_cons (ps_if (ptO hX) (pbO hX) pss_nil) (pbO hX), ?_⟩
  refine hc σ W F sta x h1 _ fun W' ext => ?_
  have stp : Stp W F W' F := by have := ext.stp (F := F) (Fv := []) (by simp); rwa [List.append_nil] at this
  cases x with
  | true => exact iteT (ha σ W' F (sta.ext ext) z h2 _ (post_nox (k.before Keep.refl stp) (hn z)))
  | false => exact iteF (hr σ W' F (sta.ext ext) z h2 E (k.before Keep.refl stp))
/-- an if that cannot be taken -/
theorem jb_ifF {mr : Option ω} {D : ω → Kd} (hc : JT S c Γ (some false)) (hr : JB S rest Γ mr D) : JB S (.If c A [] pos :: rest) Γ mr D := fun σ W F sta z hz E k => by
  refine ⟨tSeq (tIfS (ttOf S c) tNever tNext) (tbOf S rest), fun X hX => pss_cons (ps_if (ptO hX) pss_never pss_nil) (pbO hX), ?_⟩
  refine hc σ W F sta false rfl _ fun W' ext => ?_
  have stp : Stp W F W' F := by have := ext.stp (F := F) (Fv := []) (by simp); rwa [List.append_nil] at this
  exact iteF (hr σ W' F (sta.ext ext) z hz E (k.before Keep.refl stp))
/-- an if that is taken and does not fall through -/
theorem jb_ifT {ma : Option ω} {D : ω → Kd} (hc : JT S c Γ (some true)) (ha : JB S A Γ ma D) (hn : ∀ x, NoNx (D x)) : JB S (.If c A [] pos :: rest) Γ ma D := fun σ W F sta z hz E k => by
  refine ⟨tSeq (tIfS (ttOf S c) (tbOf S A) tNext) tNever, fun X hX => pss_cons (ps_if (ptO hX) (pbO hX) pss_nil) pss_never, ?_⟩
  refine hc σ W F sta true rfl _ fun W' ext => ?_
  have stp : Stp W F W' F := by have := ext.stp (F := F) (Fv := []) (by simp); rwa [List.append_nil] at this
  exact iteT (ha σ W' F (sta.ext ext) z hz _ (post_nox (k.before Keep.refl stp) (hn z)))
/-- if .. else -/
theorem js_if {mc : Option Bool} {ma mb : Option ω} {D : ω → Kd} (hc : JT S c Γ mc) (ha : JB S A Γ ma D) (hb : JB S B Γ mb D) : JS S (.If c A B pos) Γ (mc.bind fun b => bif b then ma else mb) D := fun σ W F sta z hz E k => by
  obtain ⟨x, h1, h2⟩ := run1 hz
  refine ⟨tIfS (ttOf S c) (tbOf S A) (tbOf S B), fun X hX => ps_if (ptO hX) (pbO hX) (pbO hX), ?_⟩
  refine hc σ W F sta x h1 _ fun W' ext => ?_
  have stp : Stp W F W' F := by have := ext.stp (F := F) (Fv := []) (by simp); rwa [List.append_nil] at this
  cases x with
  | true => exact iteT (ha σ W' F (sta.ext ext) z h2 _ (k.before Keep.refl stp))
  | false => exact iteF (hb σ W' F (sta.ext ext) z h2 _ (k.before Keep.refl stp))
theorem jb_ret {m : Option α} {R : α → OP} (w : Weak Γ Δ) (h : JN S e Γ m R) : JB S (.Return (some e) pos :: rest) Γ m fun r => .rt Δ (R r) := fun σ W F sta x hx E k => by
  refine ⟨tSeq (tRet (tOf S e)) tNever, fun X hX => pss_cons (ps_ret (peO hX)) pss_never, h σ W F sta x hx _ fun v W' Fv ext fr fp r => ?_⟩
  obtain ⟨F', s', sub⟩ := (sta.ext ext).weak w
  have fpA : FpOk W' (F ++ Fv) := sta.fp.fresh ext fp fr
  have fpB : FpOk W' (F' ++ Fv) := s'.fp.app fpA.right fun a ha => fpA.disj a (sub a ha)
  refine k v σ W' F' Fv Keep.refl ((ext.stp fr).perm fun a ha => ?_) s' fpB r
  rcases List.mem_append.mp ha with h | h
  · exact List.mem_append_left _ (sub a h)
  · exact List.mem_append_right _ h
theorem jb_cont {x : ω} {D : ω → Kd} (hD : D x = .ct Δ) (w : Weak Γ Δ) : JB S (.Continue pos :: rest) Γ (some x) D := fun σ W F sta y hy E k => by
  cases hy
  obtain ⟨F', s', sub⟩ := sta.weak w
  rw [hD] at k
  exact ⟨tSeq tCont tNever, fun _ _ => pss_cons ps_continue pss_never, k σ W F' Keep.refl ((Stp.refl sta.ok).perm sub) s'⟩
theorem jb_brk {x : ω} {D : ω → Kd} (hD : D x = .bk Δ) (w : Weak Γ Δ) : JB S (.Break pos :: rest) Γ (some x) D := fun σ W F sta y hy E k => by
  cases hy
  obtain ⟨F', s', sub⟩ := sta.weak w
  rw [hD] at k
  exact ⟨tSeq tBreak tNever, fun _ _ => pss_cons ps_break pss_never, k σ W F' Keep.refl ((Stp.refl sta.ok).perm sub) s'⟩
/-- name = e -/
theorem sta_set {σ : L2.St} {W W' : Wd} {F Fv : List Addr} {i : Nat} {o : OP} {v : V} (sta : Sta Γ σ W F) (ext : Ext W W') (fr : ∀ a ∈ Fv, W.H a = none) (fp : FpOk W' Fv) (r : o.C W' v Fv) (hi : (Γ[i]?).isSome = true) :
    ∃ F', Sta (Γ.set i (some o)) (σ.set i (some v)) W' F' ∧ Stp W F W' F' := by
  have hl : i < Γ.length := by
    cases h : Γ[i]? with
    | none => rw [h] at hi; cases hi
    | some o => exact (List.getElem?_eq_some_iff.mp h).1
  obtain ⟨F', s', sub⟩ := (sta.ext ext).put hl r (sta.fp.fresh ext fp fr)
  exact ⟨F', s', (ext.stp fr).perm sub⟩
theorem js_set {x : Str} {pos' : Pos} {m : Option α} {R : α → OP} (i : Nat) (nd : S.N.Nodup) (h : JN S e Γ m R) (hi : (Γ[i]?).isSome = true := by rfl) (hN : S.N[i]? = some x := by rfl) (hx : Loc S.sc x := by first | exact Or.inl rfl | exact Or.inr rfl) (hp : (S.prot.contains i) = false := by rfl)
    (hs : ∀ env, swapsWith e (some (.Name x pos')) pos.line env = pure false := by intro _; rfl) (hf : S.fn x = true ∨ S.sc.names.lookup x = some .local := by first | exact .inl rfl | exact .inr rfl) : JS S (.Assign [.Name x pos'] e pos) Γ m fun a => .nx (Γ.set i (some (R a))) := fun σ W F sta y hy E k => by
  refine ⟨tAsg (tOf S e) (gName i), fun X hX => ps_set (by rw [hX.N]; exact nd) (by rw [hX.N]; exact hN) (locS hx hX) (peO hX) (hs _) (by rw [hX.fn, hX.sc]; exact hf), h σ W F sta y hy _ fun v W' Fv ext fr fp r => ?_⟩
  obtain ⟨F', s', stp⟩ := sta_set sta ext fr fp r hi
  exact k _ W' F' (Keep.set (ncon hp)) stp s'
theorem js_setLc {x : Str} {py spos : Pos} {scope : Scope} {m : Option α} {R : α → OP} (i : Nat) (nd : S.N.Nodup) (h : JC S elt tg iter ifs scope Γ m R) (hi : (Γ[i]?).isSome = true := by rfl) (hN : S.N[i]? = some x := by rfl) (hx : S.sc.names.lookup x = some .local := by rfl) (hp : (S.prot.contains i) = false := by rfl)
    (hk : S.sc.kind = .function := by rfl) (hl : (py.line == pos.line) = true := by rfl) (hown : (scope.names.any fun (n, k) => n == x && (k == .local || k == .cell)) = false := by decide +kernel) (hs : ∀ env x, foldedSetIterable iter env x = pure x := by intro _ _; rfl) (hcm : S.calm = true := by rfl) :
    JS S (.Assign [.Name x py] (.ListComp elt [⟨tg, iter, ifs, 0⟩] scope pos) spos) Γ m fun a => .nx (Γ.set i (some (R a))) := fun σ W F sta y hy E k => by
  obtain ⟨own, ok, go⟩ := h
  refine ⟨_, fun X hX => ps_setLc (hX.calm.trans hcm) (by rw [hX.N]; exact nd) (by rw [hX.N]; exact hN) (by rw [hX.sc]; exact hx) (sw_true (by rw [hX.sc]; exact hk) (by rw [hX.sc]; exact hx) hl hown) (piO hX) (by rw [hX.N, hX.sc]; exact ok) (fun s H C cl fp => pgO (hX.blk scope s H C cl fp)) (fun s H C cl fp => ptsO (hX.blk scope s H C cl fp)) (fun s H C cl fp => peO (hX.blk scope s H C cl fp)) (hs _), go σ W F sta y hy _ fun v W' Fv ext fr fp r => ?_⟩
  obtain ⟨F', s', stp⟩ := sta_set sta ext fr fp r hi
  exact k _ W' F' (Keep.set (ncon hp)) stp s'
/-- target = e, a target of names -/
theorem js_asg {m : Option α} {E : α → SP} {up : α → Ctx → Ctx} {ws : List Nat} (h : JN S e Γ m fun x => sh (E x)) (hg : JG S tg E up ws) (hl : ∀ i ∈ ws, i < Γ.length) (hs : ∀ env, swapsWithSole [tg] e pos.line env = pure false := by intro _; rfl) (hw : ∀ env, swappedStores [tg] e env = pure none := by intro _; rfl)
    (h1 : ∀ env, (assignEach [tg] env).map (·.2) = [assign tg env] := by intro _; rfl) : JS S (.Assign [tg] e pos) Γ m fun a => .nx (up a Γ) := fun σ W F sta y hy Ed k => by
  refine ⟨tAsg (tOf S e) (tgOf S tg), fun X hX => ps_asg (peO hX) (pgO hX) (hs _) (hw _) (h1 _), h σ W F sta y hy _ fun v W' Fv ext fr fp r => ?_⟩
  refine hg Γ σ W' F y v (sta.ext ext) hl r.2 _ fun σ' F' _ kp s' sub => ?_
  have stp : Stp W F W' F := by have := ext.stp (F := F) (Fv := []) (by simp); rwa [List.append_nil] at this
  exact k σ' W' F' kp (stp.perm sub) s'
/-! ### for -/
inductive Out (τ ρ : Type) where
  | nx (s : τ)
  | rt (r : ρ)
  | bk (s : τ)
  | ct (s : τ)
def Out.k (o : Out τ ρ) (f : τ → Option ω) (g : ρ → Option ω) : Option ω := match o with
  | .nx s => f s
  | .ct s => f s
  | .bk s => f s
  | .rt r => g r
/-- behind a turn -/
def Out.step (o : Out τ ρ) (k : τ → Option (Out τ ρ)) : Option (Out τ ρ) := match o with
  | .nx s => k s
  | .ct s => k s
  | .bk s => some (.nx s)
  | .rt r => some (.rt r)
def loopGo (f : α → τ → Option (Out τ ρ)) : List α → τ → Option (Out τ ρ)
  | [], s => some (.nx s)
  | x :: xs, s => (f x s).bind fun o => o.step fun s' => loopGo f xs s'
def foldGo (f : α → τ → Option τ) : List α → τ → Option τ
  | [], s => some s
  | x :: xs, s => (f x s).bind fun s' => foldGo f xs s'
/-- the ends of a loop's body, of the loop -/
def DL (Γl : τ → Ctx) (T : ρ → Kd) : Out τ ρ → Kd
  | .nx s => .nx (Γl s)
  | .ct s => .ct (Γl s)
  | .bk s => .bk (Γl s)
  | .rt r => T r
def DF (Γl : τ → Ctx) (T : ρ → Kd) : Out τ ρ → Kd
  | .nx s => .nx (Γl s)
  | .ct s => .nx (Γl s)
  | .bk s => .nx (Γl s)
  | .rt r => T r
theorem js_for {mi : Option (List α)} {E : α → SP} {up : α → Ctx → Ctx} {ws : List Nat} {Γl : τ → Ctx} {T : ρ → Kd} {f : α → τ → Option (Out τ ρ)} (s0 : τ) (hi : JI S tg iter Γ mi E) (hg : JG S tg E up ws) (w : Weak Γ (Γl s0)) (hl : ∀ s, ∀ i ∈ ws, i < (Γl s).length)
    (hT : ∀ r, NoNx (T r) ∧ (∀ Δ, T r ≠ .bk Δ) ∧ ∀ Δ, T r ≠ .ct Δ) (hb : ∀ x s, JB S A (up x (Γl s)) (f x s) (DL Γl T)) (hs : ∀ env x, foldedSetIterable iter env x = pure x := by intro _ _; rfl) (hcm : S.calm = true := by rfl) : JS S (.For tg iter A [] pos) Γ (mi.bind fun xs => loopGo f xs s0) (DF Γl T) := fun σ W F sta z hz Ed k => by
  obtain ⟨xs, h1, h2⟩ := run1 hz
  refine ⟨tFor (tiOf S tg iter) (tgOf S tg) (tbOf S A), fun X hX => ps_for hX.pass (hX.calm.trans hcm) (piO hX) (pgO hX) (pbO hX) (hs _), ?_⟩
  refine hi σ W F sta xs h1 _ fun J W' ext iok => ?_
  have stp0 : Stp W F W' F := by have := ext.stp (F := F) (Fv := []) (by simp); rwa [List.append_nil] at this
  obtain ⟨F0, sa0, sub0⟩ := (sta.ext ext).weak w
  refine ⟨fun i m σ1 H => m = xs.length - i ∧ i ≤ xs.length ∧ ∃ (W1 : Wd) (F1 : List Addr) (s : τ), W1.H = H ∧ Keep S.prot σ σ1 ∧ Stp W' F W1 F1 ∧ Sta (Γl s) σ1 W1 F1 ∧ loopGo f (xs.drop i) s = some z,
    ⟨xs.length, by simp, Nat.zero_le _, W', F0, s0, rfl, Keep.refl, (Stp.refl ext.ok).perm sub0, sa0, by simpa using h2⟩, ?_⟩
  rintro i m σ1 H ⟨rfl, hi', W1, F1, s, rfl, kp, stp, sa, go⟩
  obtain ⟨iok1, iok2⟩ := iok W1 ⟨sa.ok, stp.b⟩
  by_cases hlt : i < xs.length
  · obtain ⟨g1, g2⟩ := iok1 i xs[i] (List.getElem?_eq_getElem hlt)
    refine .inr ⟨g1, fun σ' H' => ∃ m', m' < xs.length - i ∧ (m' = xs.length - (i + 1) ∧ i + 1 ≤ xs.length ∧ ∃ (W1 : Wd) (F1 : List Addr) (s : τ), W1.H = H' ∧ Keep S.prot σ σ' ∧ Stp W' F W1 F1 ∧ Sta (Γl s) σ' W1 F1 ∧ loopGo f (xs.drop (i + 1)) s = some z), fun σ' H' h => h, fun v H' y => ?_⟩
    obtain ⟨W2, rfl, e2, p2⟩ := g2 v H' y
    have stp2 : Stp W1 F1 W2 F1 := by have := e2.stp (F := F1) (Fv := []) (by simp); rwa [List.append_nil] at this
    refine hg (Γl s) σ1 W2 F1 xs[i] v (sa.ext e2) (hl s) p2 _ fun σ2 F2 _ kp2 sa2 sub2 => ?_
    rw [List.drop_eq_getElem_cons hlt] at go
    obtain ⟨o, o1, o2⟩ := run1 (f := fun o : Out τ ρ => o.step fun s' => loopGo f (xs.drop (i + 1)) s') go
    have stpA : Stp W' F W2 F2 := (stp.trans stp2).perm sub2
    refine hb xs[i] s σ2 W2 F2 sa2 o o1 _ ?_
    cases o with
    | nx s' => exact fun σ3 W3 F3 k3 t3 a3 => ⟨xs.length - (i + 1), by omega, rfl, hlt, W3, F3, s', rfl, (kp.trans kp2).trans k3, stpA.trans t3, a3, o2⟩
    | ct s' => exact fun σ3 W3 F3 k3 t3 a3 => ⟨xs.length - (i + 1), by omega, rfl, hlt, W3, F3, s', rfl, (kp.trans kp2).trans k3, stpA.trans t3, a3, o2⟩
    | bk s' =>
      cases o2
      exact fun σ3 W3 F3 k3 t3 a3 => k σ3 W3 F3 ((kp.trans kp2).trans k3) (stp0.trans (stpA.trans t3)) a3
    | rt r =>
      cases o2
      obtain ⟨n1, n2, n3⟩ := hT r
      have k' : Post S.W S.prot σ W F Ed (T r) := k
      show Post S.W S.prot σ2 W2 F2 _ (T r)
      have k'' := k'.before (kp.trans kp2) (stp0.trans stpA)
      generalize hq : T r = q at k'' n1
      cases q with
      | nx Γ => exact n1.elim
      | bk Γ => exact absurd hq (n2 Γ)
      | ct Γ => exact absurd hq (n3 Γ)
      | rt Γ R => exact k''
      | xc Γ R => exact k''
  · have ei : i = xs.length := by omega
    subst ei
    rw [List.drop_length] at go
    cases go
    exact .inl ⟨iok2 _ (Nat.le_refl _), k σ1 W1 F1 kp (stp0.trans stp) sa⟩
theorem loopGo_fold {f : α → τ → Option τ} : ∀ (xs : List α) (s : τ), loopGo (ρ := Empty) (fun x s => (f x s).bind fun s' => some (.nx s')) xs s = (foldGo f xs s).bind fun s' => some (.nx s')
  | [], s => rfl
  | x :: xs, s => by
    show ((f x s).bind fun s' => some (Out.nx s')).bind _ = ((f x s).bind fun s' => foldGo f xs s').bind _
    cases f x s with
    | none => rfl
    | some s' => exact loopGo_fold xs s'
theorem JB.map {sts : List Stmt} {m : Option α} {D : ω → Kd} {g : α → ω} {D' : α → Kd} (h : JB S sts Γ m D') (hD : ∀ x, D (g x) = D' x) : JB S sts Γ (m.bind fun x => some (g x)) D := fun σ W F sta z hz E k => by
  obtain ⟨x, h1, h2⟩ := run1 hz
  cases h2
  rw [hD] at k
  exact h σ W F sta x h1 E k
theorem js_forS {mi : Option (List α)} {E : α → SP} {up : α → Ctx → Ctx} {ws : List Nat} {Γl : τ → Ctx} {f : α → τ → Option τ} (s0 : τ) (hi : JI S tg iter Γ mi E) (hg : JG S tg E up ws) (w : Weak Γ (Γl s0)) (hl : ∀ s, ∀ i ∈ ws, i < (Γl s).length)
    (hb : ∀ x s, JB S A (up x (Γl s)) (f x s) fun s' => .nx (Γl s')) (hs : ∀ env x, foldedSetIterable iter env x = pure x := by intro _ _; rfl) (hcm : S.calm = true := by rfl) : JS S (.For tg iter A [] pos) Γ (mi.bind fun xs => foldGo f xs s0) fun s => .nx (Γl s) := fun σ W F sta z hz Ed k => by
  have h := js_for (ρ := Empty) (T := fun r => nomatch r) (f := fun x s => (f x s).bind fun s' => some (.nx s')) (pos := pos) s0 hi hg w hl (fun r => nomatch r) (fun x s => JB.map (hb x s) fun s' => rfl) hs hcm
  refine h σ W F sta (.nx z) ?_ Ed k
  obtain ⟨xs, h1, h2⟩ := run1 hz
  rw [h1]
  show loopGo _ xs s0 = _
  rw [loopGo_fold, h2]
  rfl
/-- a statement that may return, then the rest -/
theorem jb_consO {ms : Option (Out τ υ)} {Γl : τ → Ctx} {T : υ → Kd} {mr : τ → Option ω} {D : ω → Kd} (ι : υ → ω) (h : JS S st Γ ms (DF Γl T)) (hι : ∀ r, D (ι r) = T r) (hT : ∀ r, NoNx (T r)) (hr : ∀ s, JB S rest (Γl s) (mr s) D) :
    JB S (st :: rest) Γ (ms.bind fun o => o.k mr fun r => some (ι r)) D := fun σ W F sta z hz E k => by
  obtain ⟨o, h1, h2⟩ := run1 hz
  refine ⟨tSeq (tsOf S st) (tbOf S rest), fun X hX => pss_cons (psO hX) (pbO hX), ?_⟩
  refine h σ W F sta o h1 { E with nx := tbOf S rest E } ?_
  cases o with
  | nx s => exact fun σ' W' F' kp stp sta' => hr s σ' W' F' sta' z h2 E (k.before kp stp)
  | ct s => exact fun σ' W' F' kp stp sta' => hr s σ' W' F' sta' z h2 E (k.before kp stp)
  | bk s => exact fun σ' W' F' kp stp sta' => hr s σ' W' F' sta' z h2 E (k.before kp stp)
  | rt r =>
    cases h2
    rw [hι] at k
    exact post_nox k (hT r)
/-! ### while -/
def whileGo (c : τ → Option Bool) (f : τ → Option (Out τ ρ)) : Nat → τ → Option (Out τ ρ)
  | 0, _ => none
  | n + 1, s => (c s).bind fun b => bif b then (f s).bind fun o => o.step fun s' => whileGo c f n s' else some (.nx s)
theorem js_while {Γl : τ → Ctx} {T : ρ → Kd} {mc : τ → Option Bool} {f : τ → Option (Out τ ρ)} (n : Nat) (s0 : τ) (w : Weak Γ (Γl s0)) (hT : ∀ r, NoNx (T r) ∧ (∀ Δ, T r ≠ .bk Δ) ∧ ∀ Δ, T r ≠ .ct Δ) (hc : ∀ s, JT S c (Γl s) (mc s)) (hb : ∀ s, JB S A (Γl s) (f s) (DL Γl T)) :
    JS S (.While c A [] pos) Γ (whileGo mc f n s0) (DF Γl T) := fun σ W F sta z hz Ed k => by
  refine ⟨tWhile (ttOf S c) (tbOf S A), fun X hX => ps_while hX.pass (ptO hX) (pbO hX), ?_⟩
  obtain ⟨F0, sa0, sub0⟩ := sta.weak w
  refine ⟨fun m σ1 H => ∃ (W1 : Wd) (F1 : List Addr) (s : τ), W1.H = H ∧ Keep S.prot σ σ1 ∧ Stp W F W1 F1 ∧ Sta (Γl s) σ1 W1 F1 ∧ whileGo mc f m s = some z, ⟨n, W, F0, s0, rfl, Keep.refl, (Stp.refl sta.ok).perm sub0, sa0, hz⟩, ?_⟩
  rintro m σ1 H ⟨W1, F1, s, rfl, kp, stp, sa, go⟩
  cases m with
  | zero => cases go
  | succ m =>
    obtain ⟨b, b1, b2⟩ := run1 (f := fun b => bif b then (f s).bind fun o : Out τ ρ => o.step fun s' => whileGo mc f m s' else some (.nx s)) go
    refine hc s σ1 W1 F1 sa b b1 _ fun W2 e2 => ?_
    have stp2 : Stp W1 F1 W2 F1 := by have := e2.stp (F := F1) (Fv := []) (by simp); rwa [List.append_nil] at this
    have stpA := stp.trans stp2
    cases b with
    | true =>
      obtain ⟨o, o1, o2⟩ := run1 (f := fun o : Out τ ρ => o.step fun s' => whileGo mc f m s') b2
      refine iteT ⟨fun σ' H' => ∃ m', m' < m + 1 ∧ ∃ (W1 : Wd) (F1 : List Addr) (s : τ), W1.H = H' ∧ Keep S.prot σ σ' ∧ Stp W F W1 F1 ∧ Sta (Γl s) σ' W1 F1 ∧ whileGo mc f m' s = some z, fun σ' H' h => h, ?_⟩
      refine hb s σ1 W2 F1 (sa.ext e2) o o1 _ ?_
      cases o with
      | nx s' => exact fun σ3 W3 F3 k3 t3 a3 => ⟨m, Nat.lt_succ_self m, W3, F3, s', rfl, kp.trans k3, stpA.trans t3, a3, o2⟩
      | ct s' => exact fun σ3 W3 F3 k3 t3 a3 => ⟨m, Nat.lt_succ_self m, W3, F3, s', rfl, kp.trans k3, stpA.trans t3, a3, o2⟩
      | bk s' =>
        cases o2
        exact fun σ3 W3 F3 k3 t3 a3 => k σ3 W3 F3 (kp.trans k3) (stpA.trans t3) a3
      | rt r =>
        cases o2
        obtain ⟨n1, n2, n3⟩ := hT r
        have k' : Post S.W S.prot σ W F Ed (T r) := k
        show Post S.W S.prot σ1 W2 F1 _ (T r)
        have k'' := k'.before kp stpA
        generalize hq : T r = q at k'' n1
        cases q with
        | nx Γ => exact n1.elim
        | bk Γ => exact absurd hq (n2 Γ)
        | ct Γ => exact absurd hq (n3 Γ)
        | rt Γ R => exact k''
        | xc Γ R => exact k''
    | false =>
      cases b2
      exact iteF (k σ1 W2 F1 kp stpA (sa.ext e2))
/-! ### writing into what is owned -/
theorem set_back {σ : L2.St} {i : Nat} {v : V} (h : σ[i]? = some (some v)) : σ.set i (some v) = σ := by
  refine List.ext_getElem? fun j => ?_
  by_cases e : i = j
  · subst e
    rw [h, List.getElem?_set_self (List.getElem?_eq_some_iff.mp h).1]
  · rw [List.getElem?_set_ne e]
/-- the owned slot i is rewritten: its own addresses F1 become F1' (with some of the owned temporaries G), all else stays -/
theorem sta_own {σ : L2.St} {W W' : Wd} {F F1 F2 F1' : List Addr} {i : Nat} {o' : OP} {v : V} (G : List Addr) (sta : Sta Γ σ W F) (fpG : FpOk W (F ++ G)) (h1 : σ[i]? = some (some v)) (hp : F.Perm (F1 ++ F2))
    (re : ∀ (W' : Wd) (o' : OP) (v' : V) (F1' : List Addr), Ex W.B W'.B → (∀ a ∈ F2, W'.H a = W.H a) → o'.C W' v' F1' → ∃ F', Holds (Γ.set i (some o')) (σ.set i (some v')) W' F' ∧ F'.Perm (F1' ++ F2))
    (ok : Ex W'.B W'.H) (eb : W'.B = W.B) (hh : ∀ a, a ∉ F1 → W.H a ≠ none → W'.H a = W.H a) (al : ∀ a, W.H a ≠ none → W'.H a ≠ none) (fp1 : FpOk W' F1') (fr1 : ∀ a ∈ F1', a ∈ F1 ∨ a ∈ G ∨ W.H a = none) (r : o'.C W' v F1') :
    ∃ F', Sta (Γ.set i (some o')) σ W' F' ∧ Stp W (F ++ G) W' F' := by
  have fp := sta.fp.perm hp
  have ne2 : ∀ a ∈ F2, a ∉ F1 := fun a ha h => fp.disj a h ha
  obtain ⟨F', c1, c2⟩ := re W' o' v F1' (by rw [eb]; exact Ex.refl _) (fun a ha => hh a (ne2 a ha) (fp.right.al a ha)) r
  rw [set_back h1] at c1
  have fpB : FpOk W' (F1' ++ F2) := fp1.app ⟨fp.right.nd, fun a ha => al a (fp.right.al a ha), fun a ha => by rw [eb]; exact fp.right.fr a ha⟩ fun a ha h => by
    rcases fr1 a ha with z | z | z
    · exact ne2 a h z
    · exact fpG.disj a (hp.mem_iff.mpr (List.mem_append_right _ h)) z
    · exact fp.right.al a h z
  refine ⟨F', ⟨ok, fpB.perm c2.symm, by rw [List.length_set]; exact sta.len, c1⟩, ok, by rw [eb]; exact Ex.refl _, fun a o h n => ?_, al, fun a _ h2 _ => by rw [eb]; exact h2, fun a ha => ?_⟩
  · rw [hh a (fun z => n (List.mem_append_left _ (hp.mem_iff.mpr (List.mem_append_left _ z)))) (by rw [h]; exact fun z => nomatch z)]
    exact h
  · rcases List.mem_append.mp (c2.mem_iff.mp ha) with z | z
    · rcases fr1 a z with q | q | q
      · exact .inl (List.mem_append_left _ (hp.mem_iff.mpr (List.mem_append_left _ q)))
      · exact .inl (List.mem_append_right _ q)
      · exact .inr q
    · exact .inl (List.mem_append_left _ (hp.mem_iff.mpr (List.mem_append_right _ z)))
/-- one address of an owned thing is written -/
theorem wr_ok {W : Wd} {p : Addr} {o : HO} (ok : Ex W.B W.H) (hB : W.B p = none) : Ex W.B (upd W.H p o) := fun a u h => by
  have z : a ≠ p := fun z => by rw [z, hB] at h; cases h
  rw [upd_ne z]
  exact ok a u h
theorem wr_al {W : Wd} {p : Addr} {o : HO} : ∀ a, W.H a ≠ none → upd W.H p o a ≠ none := fun a h => by
  by_cases z : a = p
  · rw [z, upd_same]; exact fun z => nomatch z
  · rw [upd_ne z]; exact h
def appM (xs : List α) (x : α) : Option (List α) := if xs.length < LIM then some (xs ++ [x]) else none
theorem js_app {x : Str} {p0 apos cpos spos : Pos} {E : α → OP} {xs : List α} {m : Option α} (i : Nat) (h : JN S e Γ m E) (hi : Γ[i]? = some (some (lstO E xs)) := by rfl) (hN : S.N[i]? = some x := by rfl) (hv : Vis S.sc x := by first | exact Or.inl rfl | exact Or.inr (Or.inl rfl) | exact Or.inr (Or.inr rfl))
    (hd : (x == ("__debug__" : Str)) = false := by decide) (hcd : (x == ("__classdict__" : Str)) = false := by decide)
    (hbase : ∀ env, attributeBase (.Name x p0) "append" env (eval (.Name x p0) env) = eval (.Name x p0) env := by intro _; rfl)
    (hfew : ∀ env, ((backTo cpos (starEach [e] env)).all (fun x => !x.1) && (backToKw cpos (keywordEach [] env)).all (fun x => x.1.isSome) && decide ([e].length + ([] : List Keyword).length + (if ([] : List Keyword).isEmpty then 0 else 1) < 30)) = true := by intro _; rfl)
    (hline : (apos.endLine == cpos.line) = true := by rfl) (hs : ∀ env, starEach [e] env = (false, eval e env) :: starEach [] env := by intro _; rfl) (hsw : ∀ env, swapsWith (.Call (.Attribute (.Name x p0) "append" apos) [e] [] cpos) none spos.line env = pure false := by intro _; rfl) :
    JS S (.Expr (.Call (.Attribute (.Name x p0) "append" apos) [e] [] cpos) spos) Γ (m.bind fun y => appM xs y) fun ys => .nx (Γ.set i (some (lstO E ys))) := fun σ W F sta z hz Ed k => by
  obtain ⟨y, h1, h2⟩ := run1 hz
  unfold appM at h2
  split at h2
  · rename_i hlen
    cases h2
    refine ⟨tDrop (tBM S.K "list" rAppend (tVar i) (tCons (tOf S e) tNil)), fun X hX => ps_expr (hX.K ▸ pe_bm PySem.F.plainAttrs_list PySem.F.slot_list_append PySem.F.type_list_append mt_append (pe_var (by rw [hX.N]; exact hN) (visS hv hX) hd hcd) (pa_cons (peO hX) pa_nil (hs _)) (hbase _) (hfew _) hline (hs _) rfl) (hsw _), ?_⟩
    obtain ⟨v, F1, F2, a1, a2, a3, a4⟩ := sta.hold.at hi
    obtain ⟨p, vs, G2, rfl, b2, rfl, b4⟩ := id a2
    refine ⟨.ref p, a1, .inl ⟨rfl, vs, .inl (.inl b2)⟩, h σ W F sta y h1 _ fun u W1 Fv ext fr fp r => ?_⟩
    have sta1 := sta.ext ext
    obtain ⟨v', F1', F2', c1, c2, c3, c4⟩ := sta1.hold.at hi
    have ev : v' = .ref p := by rw [a1] at c1; exact (Option.some.inj (Option.some.inj c1)).symm
    subst ev
    obtain ⟨p', vs', G2', e1, d2, rfl, d4⟩ := c2
    cases e1
    have hp1 : W1.H p = some (.lst vs) := ext.h p _ b2
    have evs : vs' = vs := by
      rw [hp1] at d2
      cases d2
      rfl
    subst evs
    have hB : W1.B p = none := (sta1.fp.perm c3).fr p (by simp)
    have fpA : FpOk W1 ((p :: G2') ++ Fv) := by
      have q : FpOk W1 (F ++ Fv) := sta.fp.fresh ext fp fr
      have q2 : FpOk W1 (((p :: G2') ++ F2') ++ Fv) := q.perm (List.Perm.append_right Fv c3)
      refine FpOk.left (F' := F2') (q2.perm ?_)
      rw [List.append_assoc, List.append_assoc]
      exact List.Perm.append_left _ List.perm_append_comm
    have q : FpOk W1 (F ++ Fv) := sta.fp.fresh ext fp fr
    refine ⟨p, vs', u, rfl, rfl, hp1, lim_lt (by rw [d4.len]; exact hlen), ?_⟩
    have nP : ∀ a ∈ G2' ++ Fv, a ≠ p := fun a ha z => (List.nodup_cons.mp fpA.nd).1 (z ▸ ha)
    have A3 : Owns E W1 (vs' ++ [u]) (xs ++ [y]) (G2' ++ Fv) := d4.app ⟨Fv, [], (List.append_nil _).symm, r, rfl⟩
    have A4 : Owns E ⟨upd W1.H p (.lst (vs' ++ [u])), W1.B⟩ (vs' ++ [u]) (xs ++ [y]) (G2' ++ Fv) := Owns.loc (W := W1) (W' := ⟨upd W1.H p (.lst (vs' ++ [u])), W1.B⟩) (fun _ _ h => h) A3 fun a ha => by
      show upd W1.H p (.lst (vs' ++ [u])) a = W1.H a
      exact upd_ne (nP a ha)
    obtain ⟨F', s', stp⟩ := sta_own (W' := ⟨upd W1.H p (.lst (vs' ++ [u])), W1.B⟩) (F1' := p :: (G2' ++ Fv)) (o' := lstO E (xs ++ [y])) Fv sta1 q c1 c3 c4 (wr_ok ext.ok hB) rfl (fun a ha _ => upd_ne fun z => ha (z ▸ List.mem_cons_self)) wr_al
      ⟨fpA.nd, fun a ha => wr_al a (fpA.al a ha), fpA.fr⟩ (fun a ha => by
        rcases List.mem_cons.mp ha with z | z
        · exact .inl (z ▸ List.mem_cons_self)
        · rcases List.mem_append.mp z with z | z
          · exact .inl (List.mem_cons_of_mem _ z)
          · exact .inr (.inl z)) ⟨p, vs' ++ [u], G2' ++ Fv, rfl, upd_same, rfl, A4⟩
    exact k σ _ F' Keep.refl ((ext.stp fr).trans stp) s'
  · cases h2
end
end CC
set_option maxHeartbeats 4000000
/-! Operations by values; writing; defs; state. -/
namespace CC
open PySem PySem.Spec L2
open PyProof.Rows hiding St
variable {α β γ δ τ ω ρ υ : Type}
/-! ### operations -/
theorem ov_I0 {g : Int → Int → V} {h : Int → Int → γ} {E : γ → SP} (hg : ∀ i j B, (E (h i j)).P B (g i j)) : OpV (rI0 g) intS intS (fun i j => some (h i j)) fun z => sh (E z) := fun W x y v u z ok hx hy e Q k => by
  cases e
  cases hx
  cases hy
  exact ⟨x, y, rfl, rfl, k.val ok (hg _ _ _)⟩
theorem ov_I {C : Int → Int → Prop} {g : Int → Int → V} {h : Int → Int → Option γ} {E : γ → SP} (hc : ∀ i j z, h i j = some z → C i j ∧ ∀ B, (E z).P B (g i j)) : OpV (rI C g) intS intS h fun z => sh (E z) := fun W x y v u z ok hx hy e Q k => by
  cases hx
  cases hy
  exact ⟨x, y, rfl, rfl, (hc _ _ _ e).1, k.val ok ((hc _ _ _ e).2 _)⟩
def addO (x y : Int) : Option Int := some (x + y)
def subO (x y : Int) : Option Int := some (x - y)
def mulO (x y : Int) : Option Int := if (-(2 ^ 64) < x ∧ x < 2 ^ 64) ∨ (-(2 ^ 64) < y ∧ y < 2 ^ 64) then some (x * y) else none
def divO (x y : Int) : Option Int := if 0 < y ∧ y < 1073741824 then some (x / y) else none
def modO (x y : Int) : Option Int := if 0 < y then some (x % y) else none
theorem ov_add : OpV (rI0 fun i j => .int (i + j)) intS intS (fun x y => some (x + y)) fun z => sh (intS z) := ov_I0 fun _ _ _ => rfl
theorem ov_sub : OpV (rI0 fun i j => .int (i - j)) intS intS (fun x y => some (x - y)) fun z => sh (intS z) := ov_I0 fun _ _ _ => rfl
theorem ov_mul : OpV (rI CMul fun i j => .int (i * j)) intS intS mulO fun z => sh (intS z) := ov_I fun i j z h => by
  unfold mulO at h
  split at h
  · cases h
    rename_i c
    exact ⟨c, fun _ => rfl⟩
  · cases h
theorem ov_div : OpV (rI CDiv fun i j => .int (i / j)) intS intS divO fun z => sh (intS z) := ov_I fun i j z h => by
  unfold divO at h
  split at h
  · cases h
    rename_i c
    exact ⟨c, fun _ => rfl⟩
  · cases h
theorem ov_mod : OpV (rI (fun _ j => 0 < j) fun i j => .int (i % j)) intS intS modO fun z => sh (intS z) := ov_I fun i j z h => by
  unfold modO at h
  split at h
  · cases h
    rename_i c
    exact ⟨c, fun _ => rfl⟩
  · cases h
theorem ov_lt : OpV (rI0 fun i j => .bl (decide (i < j))) intS intS (fun x y => some (decide (x < y))) fun z => sh (boolS z) := ov_I0 fun _ _ _ => rfl
theorem ov_le : OpV (rI0 fun i j => .bl (decide (i ≤ j))) intS intS (fun x y => some (decide (x ≤ y))) fun z => sh (boolS z) := ov_I0 fun _ _ _ => rfl
theorem ov_gt : OpV (rI0 fun i j => .bl (decide (j < i))) intS intS (fun x y => some (decide (y < x))) fun z => sh (boolS z) := ov_I0 fun _ _ _ => rfl
theorem ov_ge : OpV (rI0 fun i j => .bl (decide (j ≤ i))) intS intS (fun x y => some (decide (y ≤ x))) fun z => sh (boolS z) := ov_I0 fun _ _ _ => rfl
theorem ov_eqI : OpV rEq intS intS (fun x y => some (decide (x = y))) fun z => sh (boolS z) := fun W x y v u z ok hx hy e Q k => by
  cases e
  cases hx
  cases hy
  refine ⟨rfl, k.val ok ?_⟩
  show V.bl (decide (V.int x = V.int y)) = V.bl (decide (x = y))
  simp
theorem ov_neI : OpV rNe intS intS (fun x y => some (!decide (x = y))) fun z => sh (boolS z) := fun W x y v u z ok hx hy e Q k => by
  cases e
  cases hx
  cases hy
  refine ⟨rfl, k.val ok ?_⟩
  show V.bl (!decide (V.int x = V.int y)) = V.bl (!decide (x = y))
  simp
theorem ov_eqB : OpV rEq boolS boolS (fun x y => some (decide (x = y))) fun z => sh (boolS z) := fun W x y v u z ok hx hy e Q k => by
  cases e
  cases hx
  cases hy
  refine ⟨rfl, k.val ok ?_⟩
  show V.bl (decide (V.bl x = V.bl y)) = V.bl (decide (x = y))
  simp
theorem ov_neB : OpV rNe boolS boolS (fun x y => some (!decide (x = y))) fun z => sh (boolS z) := fun W x y v u z ok hx hy e Q k => by
  cases e
  cases hx
  cases hy
  refine ⟨rfl, k.val ok ?_⟩
  show V.bl (!decide (V.bl x = V.bl y)) = V.bl (!decide (x = y))
  simp
theorem ov_neS : OpV rNe strS strS (fun x y => some (!decide (x = y))) fun z => sh (boolS z) := fun W x y v u z ok hx hy e Q k => by
  cases e
  cases hx
  cases hy
  refine ⟨rfl, k.val ok ?_⟩
  show V.bl (!decide (V.str x = V.str y)) = V.bl (!decide (x = y))
  simp
theorem ov_eqS : OpV rEq strS strS (fun x y => some (decide (x = y))) fun z => sh (boolS z) := fun W x y v u z ok hx hy e Q k => by
  cases e
  cases hx
  cases hy
  refine ⟨rfl, k.val ok ?_⟩
  show V.bl (decide (V.str x = V.str y)) = V.bl (decide (x = y))
  simp
/-- None or not, by what the value is known to be -/
class NotNon (E : α → SP) : Prop where
  out : ∀ x B v, (E x).P B v → v ≠ .non
instance : NotNon intS := ⟨fun x B v h z => by cases h; cases z⟩
instance : NotNon boolS := ⟨fun x B v h z => by cases h; cases z⟩
instance : NotNon strS := ⟨fun x B v h z => by cases h; cases z⟩
instance {E : α → SP} : NotNon (lstS E) := ⟨fun x B v h z => by obtain ⟨a, _, rfl, _⟩ := h; cases z⟩
instance {E : α → SP} : NotNon (tupS E) := ⟨fun x B v h z => by obtain ⟨a, _, rfl, _⟩ := h; cases z⟩
instance {E : α → SP} {G : β → SP} : NotNon (prS E G) := ⟨fun x B v h z => by obtain ⟨a, _, rfl, _⟩ := h; cases z⟩
theorem ov_isN0 {E : α → SP} [n : NotNon E] : OpV (fun x y H Q => y = .non ∧ Q (.bl (decide (x = .non))) H) E (fun _ : Unit => nonS) (fun _ _ => some false) fun z => sh (boolS z) := fun W x y v u z ok hx hy e Q k => by
  cases e
  cases hy
  refine ⟨rfl, ?_⟩
  rw [decide_eq_false (n.out x _ _ hx)]
  exact k.val ok rfl
theorem ov_notN0 {E : α → SP} [n : NotNon E] : OpV (fun x y H Q => y = .non ∧ Q (.bl (!decide (x = .non))) H) E (fun _ : Unit => nonS) (fun _ _ => some true) fun z => sh (boolS z) := fun W x y v u z ok hx hy e Q k => by
  cases e
  cases hy
  refine ⟨rfl, ?_⟩
  rw [decide_eq_false (n.out x _ _ hx)]
  exact k.val ok rfl
theorem ov_isNO {E : α → SP} [n : NotNon E] : OpV (fun x y H Q => y = .non ∧ Q (.bl (decide (x = .non))) H) (optS E) (fun _ : Unit => nonS) (fun x _ => some x.isNone) fun z => sh (boolS z) := fun W x y v u z ok hx hy e Q k => by
  cases e
  cases hy
  refine ⟨rfl, ?_⟩
  cases x with
  | none =>
    cases hx
    exact k.val ok rfl
  | some x =>
    rw [decide_eq_false (n.out x _ _ hx)]
    exact k.val ok rfl
theorem ov_notNO {E : α → SP} [n : NotNon E] : OpV (fun x y H Q => y = .non ∧ Q (.bl (!decide (x = .non))) H) (optS E) (fun _ : Unit => nonS) (fun x _ => some x.isSome) fun z => sh (boolS z) := fun W x y v u z ok hx hy e Q k => by
  cases e
  cases hy
  refine ⟨rfl, ?_⟩
  cases x with
  | none =>
    cases hx
    exact k.val ok rfl
  | some x =>
    rw [decide_eq_false (n.out x _ _ hx)]
    exact k.val ok rfl
section
variable {S : Stc}
theorem oAdd : ∀ X, S.In X → OpR X (binaryOp .Add) (rI0 fun i j => .int (i + j)) := fun _ _ => op_add
theorem oSub : ∀ X, S.In X → OpR X (binaryOp .Sub) (rI0 fun i j => .int (i - j)) := fun _ _ => op_sub
theorem oMul : ∀ X, S.In X → OpR X (binaryOp .Mult) (rI CMul fun i j => .int (i * j)) := fun _ _ => op_mul
theorem oDiv : ∀ X, S.In X → OpR X (binaryOp .FloorDiv) (rI CDiv fun i j => .int (i / j)) := fun _ _ => op_fdiv
theorem oMod : ∀ X, S.In X → OpR X (binaryOp .Mod) (rI (fun _ j => 0 < j) fun i j => .int (i % j)) := fun _ _ => op_mod
theorem oLt : ∀ X, S.In X → OpR X (compareOp .Lt) (rI0 fun i j => .bl (decide (i < j))) := fun _ _ => op_lt
theorem oLe : ∀ X, S.In X → OpR X (compareOp .LtE) (rI0 fun i j => .bl (decide (i ≤ j))) := fun _ _ => op_le
theorem oGt : ∀ X, S.In X → OpR X (compareOp .Gt) (rI0 fun i j => .bl (decide (j < i))) := fun _ _ => op_gt
theorem oGe : ∀ X, S.In X → OpR X (compareOp .GtE) (rI0 fun i j => .bl (decide (j ≤ i))) := fun _ _ => op_ge
theorem oEq : ∀ X, S.In X → OpR X (compareOp .Eq) rEq := fun _ _ => op_eq
theorem oNe : ∀ X, S.In X → OpR X (compareOp .NotEq) rNe := fun _ _ => op_ne
theorem oIsN : ∀ X, S.In X → OpR X (compareOp .Is) (fun x y H Q => y = .non ∧ Q (.bl (decide (x = .non))) H) := fun _ _ => op_isN
theorem oNotN : ∀ X, S.In X → OpR X (compareOp .IsNot) (fun x y H Q => y = .non ∧ Q (.bl (!decide (x = .non))) H) := fun _ _ => op_notN
theorem oIxL : ∀ X, S.In X → IxR X (rIxL S.K) := fun _ h => h.K ▸ ix_list
theorem oIxT : ∀ X, S.In X → IxR X (rIxT S.K) := fun _ h => h.K ▸ ix_tup
end
theorem atI_each {E : α → SP} {B : Hp} {vs : List V} {xs : List α} {i : Int} {x : α} (h : Each E B vs xs) (e : atI xs i = some x) : ∃ v, atI vs i = some v ∧ (E x).P B v := by
  unfold atI at e ⊢
  rw [h.len]
  cases q : ixN xs.length i with
  | none => rw [q] at e; cases e
  | some j =>
    rw [q] at e
    exact h.get e
theorem atI_owns {E : α → OP} {W : Wd} {vs : List V} {xs : List α} {F : List Addr} {i : Int} {x : α} (h : Owns E W vs xs F) (e : atI xs i = some x) : ∃ v F1, atI vs i = some v ∧ (E x).C W v F1 ∧ ∀ a ∈ F1, a ∈ F := by
  unfold atI at e ⊢
  rw [h.len]
  cases q : ixN xs.length i with
  | none => rw [q] at e; cases e
  | some j =>
    rw [q] at e
    obtain ⟨v, F1, F2, h1, h2, h3, _⟩ := h.at e
    exact ⟨v, F1, h1, h2, fun a ha => h3.mem_iff.mpr (List.mem_append_left _ ha)⟩
theorem iv_lstO {K : PySem.W.Frag} {E : α → OP} : IxV (rIxL K) (lstO E) intS (fun xs i => atI xs i) E := fun W x y v u z F1 ok hx hy e Q k => by
  cases hy
  obtain ⟨a, vs, F2, rfl, h2, rfl, h4⟩ := hx
  obtain ⟨t, F3, q1, q2, q3⟩ := atI_owns h4 e
  exact ⟨a, vs, y, t, rfl, rfl, .inl (.inl h2), q1, k t ⟨F3, q2, fun b hb => List.mem_cons_of_mem _ (q3 b hb)⟩⟩
theorem iv_lst {K : PySem.W.Frag} {E : α → SP} : IxV (rIxL K) (fun xs => sh (lstS E xs)) intS (fun xs i => atI xs i) fun x => sh (E x) := fun W x y v u z F1 ok hx hy e Q k => by
  cases hy
  obtain ⟨_, a, vs, rfl, h2, h4⟩ := hx
  obtain ⟨t, q1, q2⟩ := atI_each h4 e
  exact ⟨a, vs, y, t, rfl, rfl, .inl (.inl (ok a _ h2)), q1, k t ⟨[], ⟨rfl, q2⟩, by simp⟩⟩
theorem iv_tup {K : PySem.W.Frag} {E : α → SP} : IxV (rIxT K) (fun xs => sh (tupS E xs)) intS (fun xs i => atI xs i) fun x => sh (E x) := fun W x y v u z F1 ok hx hy e Q k => by
  cases hy
  obtain ⟨_, a, vs, rfl, h2, h4⟩ := hx
  obtain ⟨t, q1, q2⟩ := atI_each h4 e
  exact ⟨a, vs, y, t, rfl, rfl, .inl (.inl (ok a _ h2)), q1, k t ⟨[], ⟨rfl, q2⟩, by simp⟩⟩
theorem iv_scr {K : PySem.W.Frag} : IxV (rIxL K) (fun xs => sh (scrS K xs)) intS (fun xs i => atI xs i) fun x => sh (intS x) := fun W x y v u z F1 ok hx hy e Q k => by
  cases hy
  obtain ⟨_, a, rfl, h2⟩ := hx
  have hq : SqL K W.H a (x.map V.int) := by
    rcases h2 with (h | ⟨o, h⟩) | h
    · exact .inl (.inl (ok _ _ h))
    · exact .inl (.inr ⟨o, ok _ _ h⟩)
    · exact .inr h
  have e : atI x y = some z := e
  have e' : atI (x.map V.int) y = some (.int z) := by
    unfold atI at e ⊢
    rw [List.length_map]
    cases q : ixN x.length y with
    | none => rw [q] at e; cases e
    | some j =>
      rw [q] at e
      show (x.map V.int)[j]? = some (.int z)
      rw [List.getElem?_map, show x[j]? = some z from e]
      rfl
  exact ⟨a, _, y, .int z, rfl, rfl, hq, e', k _ ⟨[], ⟨rfl, rfl⟩, by simp⟩⟩
section
variable {S : Stc} {Γ Δ : Ctx} {a b c e tg iter elt : Expr} {es ifs : List Expr} {pos : Pos} {st : Stmt} {rest A B : List Stmt}
/-- an item of a tuple (of a list) of several kinds, at a written place -/
theorem atI_k {vs : List V} {k : Nat} {v : V} (h : vs[k]? = some v) : atI vs (k : Int) = some v := atI_nat h
theorem jn_ixT {ps : α → List SP} {E : β → SP} {g : α → β} {m : Option α} {j : Int} {kk p'} (k : Nat) (h : JN S a Γ m fun x => sh (htupS (ps x))) (hk : ∀ x, (ps x)[k]? = some (E (g x)) := by intro _; rfl) (hj : j = (k : Int) := by rfl) :
    JN S (.Subscript a (.Constant (.int j) kk p') pos) Γ (m.bind fun x => some (g x)) fun z => sh (E z) := fun σ W F sta z hz Q kq => by
  obtain ⟨x, h1, h2⟩ := run1 hz
  cases h2
  refine ⟨tOp (rIxT S.K) (tOf S a) (tC (.int j)), fun X hX => pe_ix (oIxT X hX) (peO hX) pe_int (fun _ _ => rfl), h σ W F sta x h1 _ fun v W' Fv ext _ _ r => ?_⟩
  obtain ⟨_, p, vs, rfl, q2, q3⟩ := r
  obtain ⟨u, u1, u2⟩ := q3.get (hk x)
  exact ⟨p, vs, j, u, rfl, rfl, .inl (.inl (ext.ok p _ q2)), by rw [hj]; exact atI_k u1, (kq.ext ext).val ext.ok u2⟩
theorem jn_ixH {ps : α → List SP} {E : β → SP} {g : α → β} {m : Option α} {j : Int} {kk p'} (k : Nat) (h : JN S a Γ m fun x => sh (hlstS (ps x))) (hk : ∀ x, (ps x)[k]? = some (E (g x)) := by intro _; rfl) (hj : j = (k : Int) := by rfl) :
    JN S (.Subscript a (.Constant (.int j) kk p') pos) Γ (m.bind fun x => some (g x)) fun z => sh (E z) := fun σ W F sta z hz Q kq => by
  obtain ⟨x, h1, h2⟩ := run1 hz
  cases h2
  refine ⟨tOp (rIxL S.K) (tOf S a) (tC (.int j)), fun X hX => pe_ix (oIxL X hX) (peO hX) pe_int (fun _ _ => rfl), h σ W F sta x h1 _ fun v W' Fv ext _ _ r => ?_⟩
  obtain ⟨_, p, vs, rfl, q2, q3⟩ := r
  obtain ⟨u, u1, u2⟩ := q3.get (hk x)
  exact ⟨p, vs, j, u, rfl, rfl, .inl (.inl (ext.ok p _ q2)), by rw [hj]; exact atI_k u1, (kq.ext ext).val ext.ok u2⟩
/-- .. of an owned list of several kinds -/
theorem jr_ixO {ps : α → List OP} {R : β → OP} {g : α → β} {m : Option α} {j : Int} {kk p'} (k : Nat) (h : JR S a Γ m fun x => hetO (ps x)) (hk : ∀ x, (ps x)[k]? = some (R (g x)) := by intro _; rfl) (hj : j = (k : Int) := by rfl) :
    JR S (.Subscript a (.Constant (.int j) kk p') pos) Γ (m.bind fun x => some (g x)) R := fun σ W F sta z hz Q kq => by
  obtain ⟨x, h1, h2⟩ := run1 hz
  cases h2
  refine ⟨tOp (rIxL S.K) (tOf S a) (tC (.int j)), fun X hX => pe_ix (oIxL X hX) (peO hX) pe_int (fun _ _ => rfl), h σ W F sta x h1 _ fun v W' ext ⟨F1, r, al⟩ => ?_⟩
  obtain ⟨p, vs, F2, rfl, q2, rfl, q3⟩ := r
  obtain ⟨u, G1, G2, u1, u2, u3, _⟩ := q3.at (hk x)
  exact ⟨p, vs, j, u, rfl, rfl, .inl (.inl q2), by rw [hj]; exact atI_k u1, kq u W' ext ⟨G1, u2, fun b hb => al b (List.mem_cons_of_mem _ (u3.mem_iff.mpr (List.mem_append_left _ hb)))⟩⟩
/-- len -/
theorem len_lstO {E : α → OP} {m : Option (List α)} {p : Pos} (hm : S.mg "len" = none) (h : JR S a Γ m (lstO E)) (hg : GlS S "len" := by rfl) (hs : ∀ env, starEach [a] env = [(false, eval a env)] := by intro _; rfl) : JN S (.Call (.Name "len" p) [a] [] pos) Γ (m.bind fun xs => some (xs.length : Int)) fun z => sh (intS z) := fun σ W F sta z hz Q kq => by
  obtain ⟨x, h1, h2⟩ := run1 hz
  cases h2
  refine ⟨tCB (fun xs H Q => ∃ p ys, xs = [.ref p] ∧ (SqL S.K H p ys ∨ SqT S.K H p ys) ∧ Q (.int ys.length) H) (tCons (tOf S a) tNil), fun X hX => pe_callB (hX.K ▸ call_len_seq) (hg.gl hX) (mgS hm hX) PySem.boot_len (pa_cons (peO hX) pa_nil (hs _)) (by decide) (by decide) (hs _) rfl, h σ W F sta x h1 _ fun v W' ext ⟨F1, r, al⟩ => ?_⟩
  obtain ⟨p, vs, F2, rfl, q2, rfl, q3⟩ := r
  exact ⟨p, vs, rfl, .inl (.inl (.inl q2)), (kq.ext ext).val ext.ok (by rw [q3.len]; rfl)⟩
theorem hets1 {B : Hp} {vs : List V} {p : SP} (h : Hets B vs [p]) : ∃ v, vs = [v] ∧ p.P B v := by
  match vs, h with
  | [v], ⟨h, _⟩ => exact ⟨v, rfl, h⟩
theorem hets2 {B : Hp} {vs : List V} {p q : SP} (h : Hets B vs [p, q]) : ∃ v u, vs = [v, u] ∧ p.P B v ∧ q.P B u := by
  match vs, h with
  | [v, u], ⟨h, h', _⟩ => exact ⟨v, u, rfl, h, h'⟩
/-- f(x), a builtin of one shared argument -/
theorem jn_b1 {x : Str} {id : String} {p : Pos} {r : List V → Hp → VK → Prop} {m : Option α} {E : α → SP} {f : α → Option γ} {R : γ → OP} (hc : ∀ X, S.In X → CallR X (.builtin id) r)
    (hr : ∀ W x v z, Ex W.B W.H → (E x).P W.B v → f x = some z → ∀ Q : VK, Got (R z) W Q → r [v] W.H Q) (hm : S.mg x = none) (ha : JN S a Γ m fun x => sh (E x))
    (hg : GlS S x := by rfl) (hv : bootBuiltins x = some (.builtin id) := by decide +kernel) (hn : x ≠ "__name__" := by decide) (hdb : (x == ("__debug__" : Str)) = false := by decide)
    (hs : ∀ env, starEach [a] env = [(false, eval a env)] := by intro _; rfl) : JN S (.Call (.Name x p) [a] [] pos) Γ (m.bind fun y => f y) R := fun σ W F sta z hz Q k => by
  obtain ⟨y, h1, h2⟩ := run1 hz
  exact ⟨tCB r (tCons (tOf S a) tNil), fun X hX => pe_callB (hc X hX) (hg.gl hX) (mgS hm hX) hv (pa_cons (peO hX) pa_nil (hs _)) hn hdb (hs _) rfl, ha σ W F sta y h1 _ fun v W' Fv e _ _ hh => hr W' y v z e.ok hh.2 h2 Q (k.ext e)⟩
theorem jn_t1 {x : Str} {T : String} {p : Pos} {r : List V → Hp → VK → Prop} {m : Option α} {E : α → SP} {f : α → Option γ} {R : γ → OP} (hc : ∀ X, S.In X → CallR X (.type T) r)
    (hr : ∀ W x v z, Ex W.B W.H → (E x).P W.B v → f x = some z → ∀ Q : VK, Got (R z) W Q → r [v] W.H Q) (hm : S.mg x = none) (ha : JN S a Γ m fun x => sh (E x))
    (hg : GlS S x := by rfl) (hv : bootBuiltins x = some (.type T) := by decide +kernel) (hn : x ≠ "__name__" := by decide) (hdb : (x == ("__debug__" : Str)) = false := by decide)
    (hs : ∀ env, starEach [a] env = [(false, eval a env)] := by intro _; rfl) : JN S (.Call (.Name x p) [a] [] pos) Γ (m.bind fun y => f y) R := fun σ W F sta z hz Q k => by
  obtain ⟨y, h1, h2⟩ := run1 hz
  exact ⟨tCB r (tCons (tOf S a) tNil), fun X hX => pe_callTy (hc X hX) (hg.gl hX) (mgS hm hX) hv (pa_cons (peO hX) pa_nil (hs _)) hn hdb (hs _) rfl, ha σ W F sta y h1 _ fun v W' Fv e _ _ hh => hr W' y v z e.ok hh.2 h2 Q (k.ext e)⟩
theorem len_lst {E : α → SP} {m : Option (List α)} {p : Pos} (hm : S.mg "len" = none) (h : JN S a Γ m fun x => sh (lstS E x)) (hg : GlS S "len" := by rfl) (hs : ∀ env, starEach [a] env = [(false, eval a env)] := by intro _; rfl) : JN S (.Call (.Name "len" p) [a] [] pos) Γ (m.bind fun xs => some (xs.length : Int)) fun z => sh (intS z) :=
  jn_b1 (r := fun xs H Q => ∃ p ys, xs = [.ref p] ∧ (SqL S.K H p ys ∨ SqT S.K H p ys) ∧ Q (.int ys.length) H) (f := fun xs : List α => some (xs.length : Int)) (fun X hX => hX.K ▸ call_len_seq) (fun W x v z ok hh e Q k => by
    cases e
    obtain ⟨p, vs, rfl, q2, q3⟩ := hh
    exact ⟨p, vs, rfl, .inl (.inl (.inl (ok p _ q2))), k.val ok (by rw [q3.len]; rfl)⟩) hm h hg PySem.boot_len (by decide) (by decide) hs
theorem len_tup {E : α → SP} {m : Option (List α)} {p : Pos} (hm : S.mg "len" = none) (h : JN S a Γ m fun x => sh (tupS E x)) (hg : GlS S "len" := by rfl) (hs : ∀ env, starEach [a] env = [(false, eval a env)] := by intro _; rfl) : JN S (.Call (.Name "len" p) [a] [] pos) Γ (m.bind fun xs => some (xs.length : Int)) fun z => sh (intS z) :=
  jn_b1 (r := fun xs H Q => ∃ p ys, xs = [.ref p] ∧ (SqL S.K H p ys ∨ SqT S.K H p ys) ∧ Q (.int ys.length) H) (f := fun xs : List α => some (xs.length : Int)) (fun X hX => hX.K ▸ call_len_seq) (fun W x v z ok hh e Q k => by
    cases e
    obtain ⟨p, vs, rfl, q2, q3⟩ := hh
    exact ⟨p, vs, rfl, .inr (.inl (.inl (ok p _ q2))), k.val ok (by rw [q3.len]; rfl)⟩) hm h hg PySem.boot_len (by decide) (by decide) hs
theorem int_int {m : Option Int} {p : Pos} (hm : S.mg "int" = none) (h : JN S a Γ m fun x => sh (intS x)) (hg : GlS S "int" := by rfl) (hs : ∀ env, starEach [a] env = [(false, eval a env)] := by intro _; rfl) : JN S (.Call (.Name "int" p) [a] [] pos) Γ (m.bind fun x => some x) fun z => sh (intS z) :=
  jn_t1 (f := fun x : Int => some x) (fun X hX => call_int1) (fun W x v z ok hh e Q k => by
    cases e
    cases hh
    exact .inl ⟨_, rfl, k.val ok rfl⟩) hm h hg (by decide +kernel) (by decide) (by decide) hs
def b2i (b : Bool) : Int := if b then 1 else 0
theorem int_bool {m : Option Bool} {p : Pos} (hm : S.mg "int" = none) (h : JN S a Γ m fun x => sh (boolS x)) (hg : GlS S "int" := by rfl) (hs : ∀ env, starEach [a] env = [(false, eval a env)] := by intro _; rfl) : JN S (.Call (.Name "int" p) [a] [] pos) Γ (m.bind fun x => some (b2i x)) fun z => sh (intS z) :=
  jn_t1 (f := fun x : Bool => some (b2i x)) (fun X hX => call_int1) (fun W x v z ok hh e Q k => by
    cases e
    cases hh
    exact .inr ⟨_, rfl, k.val ok rfl⟩) hm h hg (by decide +kernel) (by decide) (by decide) hs
def absI (i : Int) : Int := if i < 0 then -i else i
theorem abs_int {m : Option Int} {p : Pos} (hm : S.mg "abs" = none) (h : JN S a Γ m fun x => sh (intS x)) (hg : GlS S "abs" := by rfl) (hs : ∀ env, starEach [a] env = [(false, eval a env)] := by intro _; rfl) : JN S (.Call (.Name "abs" p) [a] [] pos) Γ (m.bind fun x => some (absI x)) fun z => sh (intS z) :=
  jn_b1 (f := fun x : Int => some (absI x)) (fun X hX => call_abs) (fun W x v z ok hh e Q k => by
    cases e
    cases hh
    exact ⟨_, rfl, k.val ok rfl⟩) hm h hg (by decide +kernel) (by decide) (by decide) hs
theorem sum_scr {m : Option (List Int)} {p : Pos} (hm : S.mg "sum" = none) (h : JN S a Γ m fun x => sh (scrS S.K x)) (hg : GlS S "sum" := by rfl) (hs : ∀ env, starEach [a] env = [(false, eval a env)] := by intro _; rfl) (hcm : S.calm = true := by rfl) : JN S (.Call (.Name "sum" p) [a] [] pos) Γ (m.bind fun x => some x.sum) fun z => sh (intS z) :=
  jn_b1 (f := fun x : List Int => some x.sum) (fun X hX => hX.K ▸ cr_sum (hX.calm.trans hcm)) (fun W x v z ok hh e Q k => by
    cases e
    obtain ⟨a, rfl, h2⟩ := hh
    refine ⟨a, x, rfl, ?_, k.val ok rfl⟩
    rcases h2 with (h | ⟨o, h⟩) | h
    · exact .inl (.inl (ok _ _ h))
    · exact .inl (.inr ⟨o, ok _ _ h⟩)
    · exact .inr h) hm h hg (by decide +kernel) (by decide) (by decide) hs
theorem fp_one {W : Wd} {l : Addr} {o : HO} (h : W.B l = none) : FpOk ⟨upd W.H l o, W.B⟩ [l] :=
  ⟨by simp, fun a ha => by
    rw [List.mem_singleton.mp ha]
    show upd W.H l o l ≠ none
    rw [upd_same]
    exact Option.some_ne_none _, fun a ha => by
    rw [List.mem_singleton.mp ha]
    exact h⟩
theorem Got.newL {W : Wd} {Q : VK} {E : α → SP} {xs : List α} {vs : List V} (k : Got (lstO (fun x => sh (E x)) xs) W Q) (ok : Ex W.B W.H) (h : Each E W.B vs xs) : ∀ l, W.H l = none → Q (.ref l) (upd W.H l (.lst vs)) := fun l hl =>
  k (.ref l) ⟨upd W.H l (.lst vs), W.B⟩ [l] (Ext.new ok hl) (fun a ha => by rw [List.mem_singleton.mp ha]; exact hl) (fp_one (ok.back hl)) ⟨l, vs, [], rfl, upd_same, rfl, Owns.of_each h⟩
theorem Got.newT {W : Wd} {Q : VK} {E : α → SP} {xs : List α} {vs : List V} (k : Got (sh (tupS E xs)) W Q) (ok : Ex W.B W.H) (h : Each E W.B vs xs) : ∀ l, W.H l = none → Q (.ref l) (upd W.H l (.tup vs)) := fun l hl =>
  k (.ref l) ⟨upd W.H l (.tup vs), upd W.B l (.tup vs)⟩ [] (Ext.newB ok hl) (by simp) FpOk.nil ⟨rfl, l, vs, rfl, upd_same, h.mono (Ext.newB ok hl).b⟩
theorem list_scr {m : Option (List Int)} {p : Pos} (hm : S.mg "list" = none) (h : JN S a Γ m fun x => sh (scrS S.K x)) (hg : GlS S "list" := by rfl) (hs : ∀ env, starEach [a] env = [(false, eval a env)] := by intro _; rfl) : JN S (.Call (.Name "list" p) [a] [] pos) Γ (m.bind fun x => some x) (lstO fun x => sh (intS x)) :=
  jn_t1 (f := fun x : List Int => some x) (fun X hX => hX.K ▸ call_list_of) (fun W x v z ok hh e Q k => by
    cases e
    obtain ⟨a, rfl, h2⟩ := hh
    have hq : SqL S.K W.H a (x.map V.int) := by
      rcases h2 with (h | ⟨o, h⟩) | h
      · exact .inl (.inl (ok _ _ h))
      · exact .inl (.inr ⟨o, ok _ _ h⟩)
      · exact .inr h
    have hE : Each intS W.B (x.map V.int) x := by
      clear k h2 hq h
      induction x with
      | nil => trivial
      | cons y x ih => exact ⟨rfl, ih⟩
    exact ⟨a, _, rfl, .inl hq, k.newL ok hE⟩) hm h hg (by decide +kernel) (by decide) (by decide) hs
theorem list_lst {E : α → SP} {m : Option (List α)} {p : Pos} (hm : S.mg "list" = none) (h : JN S a Γ m fun x => sh (lstS E x)) (hg : GlS S "list" := by rfl) (hs : ∀ env, starEach [a] env = [(false, eval a env)] := by intro _; rfl) : JN S (.Call (.Name "list" p) [a] [] pos) Γ (m.bind fun x => some x) (lstO fun x => sh (E x)) :=
  jn_t1 (f := fun x : List α => some x) (fun X hX => hX.K ▸ call_list_of) (fun W x v z ok hh e Q k => by
    cases e
    obtain ⟨a, vs, rfl, h2, h3⟩ := hh
    exact ⟨a, _, rfl, .inl (.inl (.inl (ok a _ h2))), k.newL ok h3⟩) hm h hg (by decide +kernel) (by decide) (by decide) hs
theorem list_tup {E : α → SP} {m : Option (List α)} {p : Pos} (hm : S.mg "list" = none) (h : JN S a Γ m fun x => sh (tupS E x)) (hg : GlS S "list" := by rfl) (hs : ∀ env, starEach [a] env = [(false, eval a env)] := by intro _; rfl) : JN S (.Call (.Name "list" p) [a] [] pos) Γ (m.bind fun x => some x) (lstO fun x => sh (E x)) :=
  jn_t1 (f := fun x : List α => some x) (fun X hX => hX.K ▸ call_list_of) (fun W x v z ok hh e Q k => by
    cases e
    obtain ⟨a, vs, rfl, h2, h3⟩ := hh
    exact ⟨a, _, rfl, .inr (.inl (.inl (ok a _ h2))), k.newL ok h3⟩) hm h hg (by decide +kernel) (by decide) (by decide) hs
/-- tuple of a list, fresh or shared -/
theorem tup_lst {E : α → SP} {m : Option (List α)} {p : Pos} (hm : S.mg "tuple" = none) (h : JN S a Γ m fun x => sh (lstS E x)) (hg : GlS S "tuple" := by rfl) (hs : ∀ env, starEach [a] env = [(false, eval a env)] := by intro _; rfl) : JN S (.Call (.Name "tuple" p) [a] [] pos) Γ (m.bind fun x => some x) fun x => sh (tupS E x) :=
  jn_t1 (f := fun x : List α => some x) (fun X hX => hX.K ▸ call_tuple_of) (fun W x v z ok hh e Q k => by
    cases e
    obtain ⟨a, vs, rfl, h2, h3⟩ := hh
    exact ⟨a, vs, rfl, .inl ⟨.inl (.inl (ok a _ h2)), k.newT ok h3⟩⟩) hm h hg (by decide +kernel) (by decide) (by decide) hs
theorem tup_own {E : α → SP} {m : Option (List α)} {p : Pos} (hm : S.mg "tuple" = none) (h : JR S a Γ m (lstO fun x => sh (E x))) (hg : GlS S "tuple" := by rfl) (hs : ∀ env, starEach [a] env = [(false, eval a env)] := by intro _; rfl) : JN S (.Call (.Name "tuple" p) [a] [] pos) Γ (m.bind fun x => some x) fun x => sh (tupS E x) := fun σ W F sta z hz Q kq => by
  obtain ⟨x, h1, h2⟩ := run1 hz
  cases h2
  refine ⟨tCB (fun xs H Q => ∃ p ys, xs = [.ref p] ∧ ((SqL S.K H p ys ∧ ∀ l, H l = none → Q (.ref l) (upd H l (.tup ys))) ∨ (SqT S.K H p ys ∧ Q (.ref p) H))) (tCons (tOf S a) tNil), fun X hX => pe_callTy (hX.K ▸ call_tuple_of) (hg.gl hX) (mgS hm hX) (by decide +kernel) (pa_cons (peO hX) pa_nil (hs _)) (by decide) (by decide) (hs _) rfl, h σ W F sta z h1 _ fun v W' ext ⟨F1, r, al⟩ => ?_⟩
  obtain ⟨p, vs, F2, rfl, q2, rfl, q3⟩ := r
  obtain ⟨_, q4⟩ := q3.each
  exact ⟨p, vs, rfl, .inl ⟨.inl (.inl q2), (kq.ext ext).newT ext.ok q4⟩⟩
/-- list(range(n)), tuple(range(n)) -/
theorem each_rg {B : Hp} (lo hi : Int) : Each intS B (rgV lo hi) ((List.range (hi - lo).toNat).map fun i : Nat => lo + (i : Int)) := by
  unfold rgV
  generalize List.range (hi - lo).toNat = l
  induction l with
  | nil => trivial
  | cons y l ih => exact ⟨rfl, ih⟩
theorem list_rng {m : Option Int} {p p2 pos2 : Pos} (hm : S.mg "list" = none) (hm2 : S.mg "range" = none) (h : JN S a Γ m fun x => sh (intS x)) (hg : GlS S "list" := by rfl) (hg2 : GlS S "range" := by rfl) (hs : ∀ env, starEach [a] env = [(false, eval a env)] := by intro _; rfl)
    (hs2 : ∀ env, starEach [Expr.Call (.Name "range" p2) [a] [] pos2] env = [(false, eval (Expr.Call (.Name "range" p2) [a] [] pos2) env)] := by intro _; rfl) (hcm : S.calm = true := by rfl) :
    JN S (.Call (.Name "list" p) [.Call (.Name "range" p2) [a] [] pos2] [] pos) Γ (m.bind fun n => rng 0 n) (lstO fun x => sh (intS x)) := fun σ W F sta z hz Q kq => by
  obtain ⟨n, h1, h2⟩ := run1 hz
  unfold rng at h2
  split at h2
  · rename_i hb
    cases h2
    refine ⟨tLstRg (tRg1 (tOf S a)), fun X hX => pe_listRg (hX.calm.trans hcm) (hg.gl hX) (mgS hm hX) (prg_1 (hg2.gl hX) (mgS hm2 hX) (peO hX) (hs _)) (hs2 _), h σ W F sta n h1 _ fun v W' Fv ext _ _ r => ?_⟩
    obtain ⟨_, rfl⟩ := r
    have z : (LIM : Int) = 1000000 := rfl
    exact ⟨n, rfl, ⟨by omega, by omega, by omega, by omega, by omega⟩, (kq.ext ext).newL ext.ok (each_rg 0 n)⟩
  · cases h2
theorem tup_rng {m : Option Int} {p p2 pos2 : Pos} (hm : S.mg "tuple" = none) (hm2 : S.mg "range" = none) (h : JN S a Γ m fun x => sh (intS x)) (hg : GlS S "tuple" := by rfl) (hg2 : GlS S "range" := by rfl) (hs : ∀ env, starEach [a] env = [(false, eval a env)] := by intro _; rfl)
    (hs2 : ∀ env, starEach [Expr.Call (.Name "range" p2) [a] [] pos2] env = [(false, eval (Expr.Call (.Name "range" p2) [a] [] pos2) env)] := by intro _; rfl) (hcm : S.calm = true := by rfl) :
    JN S (.Call (.Name "tuple" p) [.Call (.Name "range" p2) [a] [] pos2] [] pos) Γ (m.bind fun n => rng 0 n) (fun x => sh (tupS intS x)) := fun σ W F sta z hz Q kq => by
  obtain ⟨n, h1, h2⟩ := run1 hz
  unfold rng at h2
  split at h2
  · rename_i hb
    cases h2
    refine ⟨tTupRg (tRg1 (tOf S a)), fun X hX => pe_tupRg (hX.calm.trans hcm) (hg.gl hX) (mgS hm hX) (prg_1 (hg2.gl hX) (mgS hm2 hX) (peO hX) (hs _)) (hs2 _), h σ W F sta n h1 _ fun v W' Fv ext _ _ r => ?_⟩
    obtain ⟨_, rfl⟩ := r
    have z : (LIM : Int) = 1000000 := rfl
    exact ⟨n, rfl, ⟨by omega, by omega, by omega, by omega, by omega⟩, (kq.ext ext).newT ext.ok (each_rg 0 n)⟩
  · cases h2
/-- [] and displays of shared things -/
theorem jn_nilL {E : α → SP} : JN S (.List [] pos) Γ (some []) (lstO fun x => sh (E x)) := fun σ W F sta z hz Q kq => by
  cases hz
  exact ⟨tLst tNil, fun _ _ => pe_lst pa_nil, Nat.zero_le _, fun l hl => kq.newL sta.ok (vs := []) trivial l hl⟩
theorem jn_nilLO {E : α → OP} : JN S (.List [] pos) Γ (some []) (lstO E) := fun σ W F sta z hz Q kq => by
  cases hz
  refine ⟨tLst tNil, fun _ _ => pe_lst pa_nil, Nat.zero_le _, fun l hl => ?_⟩
  exact kq (.ref l) ⟨upd W.H l (.lst []), W.B⟩ [l] (Ext.new sta.ok hl) (fun a ha => by rw [List.mem_singleton.mp ha]; exact hl) (fp_one (sta.ok.back hl)) ⟨l, [], [], rfl, upd_same, rfl, rfl⟩
/-- a list of several kinds, all shared -/
theorem HetO.of_hets {W : Wd} : ∀ {vs : List V} {ps : List SP}, Hets W.B vs ps → HetO W vs (ps.map sh) []
  | [], [], _ => rfl
  | _ :: _, _ :: _, h => ⟨[], [], rfl, ⟨rfl, h.1⟩, HetO.of_hets h.2⟩
  | [], _ :: _, h => h.elim
  | _ :: _, [], h => h.elim
theorem jn_het {m : Option α} {R : α → List SP} (h : JA S es Γ m R) (hl : ∀ x, (R x).length ≤ 1000 := by intro _; decide) : JN S (.List es pos) Γ m fun x => hetO ((R x).map sh) := fun σ W F sta x hx Q kk =>
  ⟨tLst (taOf S es), fun X hX => pe_lst (paO hX), h σ W F sta x hx _ fun vs W' e hh => by
    refine ⟨Nat.le_trans (by rw [hh.len]; exact hl x) (by decide), fun q hq => ?_⟩
    exact kk (.ref q) ⟨upd W'.H q (.lst vs), W'.B⟩ [q] (e.trans (Ext.new e.ok hq)) (fun a ha => by rw [List.mem_singleton.mp ha]; exact e.h.back hq) (fp_one (e.ok.back hq))
      ⟨q, vs, [], rfl, upd_same, rfl, HetO.of_hets (W := ⟨upd W'.H q (.lst vs), W'.B⟩) hh⟩⟩
/-- the same, shared at once -/
theorem jn_hetS {m : Option α} {R : α → List SP} (h : JA S es Γ m R) (hl : ∀ x, (R x).length ≤ 1000 := by intro _; decide) : JN S (.List es pos) Γ m fun x => sh (hlstS (R x)) := fun σ W F sta x hx Q kk =>
  ⟨tLst (taOf S es), fun X hX => pe_lst (paO hX), h σ W F sta x hx _ fun vs W' e hh => by
    refine ⟨Nat.le_trans (by rw [hh.len]; exact hl x) (by decide), fun q hq => ?_⟩
    exact kk (.ref q) ⟨upd W'.H q (.lst vs), upd W'.B q (.lst vs)⟩ [] (e.trans (Ext.newB e.ok hq)) (by simp) FpOk.nil ⟨rfl, q, vs, rfl, upd_same, hh.mono (Ext.newB e.ok hq).b⟩⟩
/-- a display of shared things of one kind -/
theorem Hets.each {E : α → SP} {B : Hp} : ∀ {vs : List V} {xs : List α}, Hets B vs (xs.map E) → Each E B vs xs
  | [], [], _ => trivial
  | _ :: _, _ :: _, h => ⟨h.1, Hets.each h.2⟩
  | [], _ :: _, h => h.elim
  | _ :: _, [], h => h.elim
theorem jn_dispL {m : Option α} {E : β → SP} {g : α → List β} {R : α → List SP} (h : JA S es Γ m R) (hR : ∀ x, R x = (g x).map E := by intro _; rfl) (hl : ∀ x, (R x).length ≤ 1000 := by intro _; exact Nat.le_of_ble_eq_true rfl) : JN S (.List es pos) Γ (m.bind fun x => some (g x)) (lstO fun x => sh (E x)) := fun σ W F sta z hz Q kk => by
  obtain ⟨x, h1, h2⟩ := run1 hz
  cases h2
  refine ⟨tLst (taOf S es), fun X hX => pe_lst (paO hX), h σ W F sta x h1 _ fun vs W' e hh => ?_⟩
  refine ⟨Nat.le_trans (by rw [hh.len]; exact hl x) (by decide), fun q hq => ?_⟩
  rw [hR] at hh
  exact (kk.ext e).newL e.ok hh.each q hq
theorem jn_dispT {m : Option α} {E : β → SP} {g : α → List β} {R : α → List SP} {k : Nat} (h : JA S es Γ m R) (hR : ∀ x, R x = (g x).map E := by intro _; rfl) (hl : ∀ x, (R x).length ≤ 1000 := by intro _; exact Nat.le_of_ble_eq_true rfl) : JN S (.Tuple es k pos) Γ (m.bind fun x => some (g x)) fun x => sh (tupS E x) := fun σ W F sta z hz Q kk => by
  obtain ⟨x, h1, h2⟩ := run1 hz
  cases h2
  refine ⟨tTup (taOf S es), fun X hX => pe_tup (paO hX), h σ W F sta x h1 _ fun vs W' e hh => ?_⟩
  refine ⟨Nat.le_trans (by rw [hh.len]; exact hl x) (by decide), fun q hq => ?_⟩
  rw [hR] at hh
  exact (kk.ext e).newT e.ok hh.each q hq
end
end CC
set_option maxHeartbeats 4000000
/-! Items stored; defs; state. -/
namespace CC
open PySem PySem.Spec L2
open PyProof.Rows hiding St
variable {α β γ δ τ ω ρ υ : Type}
/-! ### xs[i] = e -/
def setAt (xs : List α) (i : Int) (x : α) : Option (List α) := (ixN xs.length i).bind fun j => some (xs.set j x)
section
variable {S : Stc} {Γ Δ : Ctx} {a b c e tg iter elt : Expr} {es ifs : List Expr} {pos : Pos} {st : Stmt} {rest A B : List Stmt}
theorem js_setI {x : Str} {p0 tpos : Pos} {E : α → OP} {xs : List α} {mv : Option α} {mi : Option Int} (i : Nat) (h : JN S e Γ mv E) (hb : JN S b Γ mi fun z => sh (intS z)) (hi : Γ[i]? = some (some (lstO E xs)) := by rfl) (hN : S.N[i]? = some x := by rfl) (hv : Vis S.sc x := by first | exact Or.inl rfl | exact Or.inr (Or.inl rfl) | exact Or.inr (Or.inr rfl))
    (hd : (x == ("__debug__" : Str)) = false := by decide) (hcd : (x == ("__classdict__" : Str)) = false := by decide)
    (ha : ∀ env v, assign (.Subscript (.Name x p0) b tpos) env v = (do
      let ov ← holding [v] (eval (.Name x p0) env)
      let iv ← holding [v, ov] (eval b env)
      standAt tpos
      holding [v, ov, iv] (setItem ov iv v)
      release [v, ov, iv] []) := by intro _ _; rfl) (hs : ∀ env, swapsWithSole [.Subscript (.Name x p0) b tpos] e pos.line env = pure false := by intro _; rfl) (hw : ∀ env, swappedStores [.Subscript (.Name x p0) b tpos] e env = pure none := by intro _; rfl)
    (h1 : ∀ env, (assignEach [.Subscript (.Name x p0) b tpos] env).map (·.2) = [assign (.Subscript (.Name x p0) b tpos) env] := by intro _; rfl) :
    JS S (.Assign [.Subscript (.Name x p0) b tpos] e pos) Γ (mv.bind fun v => mi.bind fun k => setAt xs k v) fun ys => .nx (Γ.set i (some (lstO E ys))) := fun σ W F sta z hz Ed kk => by
  obtain ⟨y, k, m1, m2, m3⟩ := run2 hz
  obtain ⟨j, j1, j2⟩ := run1 (f := fun j => some (xs.set j y)) m3
  cases j2
  refine ⟨tAsg (tOf S e) (gSub (tVar i) (tOf S b) rSetL), fun X hX => ps_asg (peO hX) (pg_sub (pe_var (by rw [hX.N]; exact hN) (visS hv hX) hd hcd) (peO hX) set_list (ha _)) (hs _) (hw _) (h1 _), ?_⟩
  refine h σ W F sta y m1 _ fun u W1 Fv ext fr fp r => ?_
  have sta1 := sta.ext ext
  obtain ⟨v, F1, F2, a1, a2, a3, a4⟩ := sta1.hold.at hi
  obtain ⟨p, vs, G2, rfl, b2, rfl, b4⟩ := a2
  refine ⟨.ref p, a1, ?_⟩
  refine hb σ W1 F sta1 k m2 _ fun t W2 _ ext2 _ _ r2 => ?_
  obtain ⟨_, rfl⟩ := r2
  have sta2 := sta1.ext ext2
  obtain ⟨v', F1', F2', c1, c2, c3, c4⟩ := sta2.hold.at hi
  have ev : v' = .ref p := by rw [a1] at c1; exact (Option.some.inj (Option.some.inj c1)).symm
  subst ev
  obtain ⟨p', vs', G2', e1, d2, rfl, d4⟩ := c2
  cases e1
  have hB : W2.B p = none := (sta2.fp.perm c3).fr p (by simp)
  have hx : xs[j]? ≠ none := by
    have := (ixN_seq j1).2.1
    rw [List.getElem?_eq_getElem this]
    exact Option.some_ne_none _
  obtain ⟨y0, hy0⟩ := Option.ne_none_iff_exists'.mp hx
  obtain ⟨w0, K1, K2, k1, k2, k3, k4⟩ := d4.at hy0
  have q : FpOk W2 (F ++ Fv) := (sta.fp.fresh ext fp fr).ext ext2
  have q2 : FpOk W2 (((p :: G2') ++ F2') ++ Fv) := q.perm (List.Perm.append_right Fv c3)
  have fpA : FpOk W2 ((p :: G2') ++ Fv) := by
    refine FpOk.left (F' := F2') (q2.perm ?_)
    rw [List.append_assoc, List.append_assoc]
    exact List.Perm.append_left _ List.perm_append_comm
  have nP : ∀ a ∈ G2' ++ Fv, a ≠ p := fun a ha z => (List.nodup_cons.mp fpA.nd).1 (z ▸ ha)
  have r' : (E y).C ⟨upd W2.H p (.lst (vs'.set j u)), W2.B⟩ u Fv := by
    refine OP.loc _ (OP.ext _ r ext2 fp) (fun _ _ h => h) fun a ha => ?_
    show upd W2.H p _ a = W2.H a
    exact upd_ne (nP a (List.mem_append_right _ ha))
  obtain ⟨G', g1, g2⟩ := k4 ⟨upd W2.H p (.lst (vs'.set j u)), W2.B⟩ y u Fv (fun _ _ h => h) (fun a ha => by
    show upd W2.H p _ a = W2.H a
    exact upd_ne (nP a (List.mem_append_left _ (k3.mem_iff.mpr (List.mem_append_right _ ha))))) r'
  refine ⟨p, vs', k, j, rfl, rfl, d2, by rw [d4.len]; exact j1, ?_⟩
  have fpB : FpOk W2 (p :: G') := by
    refine FpOk.left (F' := K1) (fpA.perm ?_)
    refine List.Perm.cons p ?_
    refine (List.Perm.append_right Fv k3).trans ?_
    refine List.Perm.trans ?_ (List.Perm.append_right K1 g2.symm)
    rw [List.append_assoc]
    refine List.perm_append_comm.trans ?_
    refine List.Perm.append_right K1 ?_
    exact List.perm_append_comm
  obtain ⟨F', s', stp⟩ := sta_own (W' := ⟨upd W2.H p (.lst (vs'.set j u)), W2.B⟩) (F1' := p :: G') (o' := lstO E (xs.set j y)) Fv sta2 q c1 c3 c4 (wr_ok ext2.ok hB) rfl (fun a ha _ => upd_ne fun z => ha (z ▸ List.mem_cons_self)) wr_al
    ⟨fpB.nd, fun a ha => wr_al a (fpB.al a ha), fpB.fr⟩ (fun a ha => by
      rcases List.mem_cons.mp ha with z | z
      · exact .inl (z ▸ List.mem_cons_self)
      · rcases List.mem_append.mp (g2.mem_iff.mp z) with z | z
        · exact .inr (.inl z)
        · exact .inl (List.mem_cons_of_mem _ (k3.mem_iff.mpr (List.mem_append_right _ z)))) ⟨p, vs'.set j u, G', rfl, upd_same, rfl, g1⟩
  have ext02 := ext.trans ext2
  exact kk σ _ F' Keep.refl ((ext02.stp fr).trans stp) s'
/-- xs[i][k] = e, the items of xs lists of one's own with shared items -/
def setAt2 (xss : List (List α)) (i k : Int) (x : α) : Option (List (List α)) := (atI xss i).bind fun xs => (setAt xs k x).bind fun ys => setAt xss i ys
theorem js_setI2 {x : Str} {p0 tpos tp2 : Pos} {E : α → SP} {xss : List (List α)} {mv : Option α} {mi mj : Option Int} (i : Nat) (h : JN S e Γ mv fun x => sh (E x)) (ha0 : JN S a Γ mi fun z => sh (intS z)) (hb : JN S b Γ mj fun z => sh (intS z)) (hi : Γ[i]? = some (some (lstO (fun xs => lstO (fun x => sh (E x)) xs) xss)) := by rfl) (hN : S.N[i]? = some x := by rfl) (hv : Vis S.sc x := by first | exact Or.inl rfl | exact Or.inr (Or.inl rfl) | exact Or.inr (Or.inr rfl))
    (hd : (x == ("__debug__" : Str)) = false := by decide) (hcd : (x == ("__classdict__" : Str)) = false := by decide) (hpl : PlainIx a := by exact fun _ _ => rfl)
    (ha : ∀ env v, assign (.Subscript (.Subscript (.Name x p0) a tp2) b tpos) env v = (do
      let ov ← holding [v] (eval (.Subscript (.Name x p0) a tp2) env)
      let iv ← holding [v, ov] (eval b env)
      standAt tpos
      holding [v, ov, iv] (setItem ov iv v)
      release [v, ov, iv] []) := by intro _ _; rfl) (hs : ∀ env, swapsWithSole [.Subscript (.Subscript (.Name x p0) a tp2) b tpos] e pos.line env = pure false := by intro _; rfl) (hw : ∀ env, swappedStores [.Subscript (.Subscript (.Name x p0) a tp2) b tpos] e env = pure none := by intro _; rfl)
    (h1 : ∀ env, (assignEach [.Subscript (.Subscript (.Name x p0) a tp2) b tpos] env).map (·.2) = [assign (.Subscript (.Subscript (.Name x p0) a tp2) b tpos) env] := by intro _; rfl) :
    JS S (.Assign [.Subscript (.Subscript (.Name x p0) a tp2) b tpos] e pos) Γ (mv.bind fun v => mi.bind fun k => mj.bind fun l => setAt2 xss k l v) fun ys => .nx (Γ.set i (some (lstO (fun xs => lstO (fun x => sh (E x)) xs) ys))) := fun σ W F sta z hz Ed kk => by
  obtain ⟨y, m1, m2⟩ := run1 hz
  obtain ⟨k, m3, m4⟩ := run1 (f := fun k => mj.bind fun l => setAt2 xss k l y) m2
  obtain ⟨l, m5, m6⟩ := run1 (f := fun l => setAt2 xss k l y) m4
  obtain ⟨xs, n1, n2⟩ := run1 (f := fun xs => (setAt xs l y).bind fun ys => setAt xss k ys) m6
  obtain ⟨ys, n3, n4⟩ := run1 (f := fun ys => setAt xss k ys) n2
  obtain ⟨jl, o1, o2⟩ := run1 (f := fun j => some (xs.set j y)) n3
  cases o2
  obtain ⟨jk, o3, o4⟩ := run1 (f := fun j => some (xss.set j (xs.set jl y))) n4
  cases o4
  have hxs : xss[jk]? = some xs := by
    unfold atI at n1
    rw [o3] at n1
    exact n1
  refine ⟨tAsg (tOf S e) (gSub (tOp (rIxL S.K) (tVar i) (tOf S a)) (tOf S b) rSetL), fun X hX => ps_asg (peO hX) (pg_sub (pe_ix (oIxL X hX) (pe_var (by rw [hX.N]; exact hN) (visS hv hX) hd hcd) (peO hX) hpl) (peO hX) set_list (ha _)) (hs _) (hw _) (h1 _), ?_⟩
  refine h σ W F sta y m1 _ fun u W1 Fv ext fr fp r => ?_
  obtain ⟨rfl, r⟩ := r
  have sta1 := sta.ext ext
  obtain ⟨v, F1, F2, a1, a2, a3, a4⟩ := sta1.hold.at hi
  obtain ⟨p, vs, G2, rfl, b2, rfl, b4⟩ := a2
  refine ⟨.ref p, a1, ?_⟩
  refine ha0 σ W1 F sta1 k m3 _ fun t W2 _ ext2 _ _ r2 => ?_
  obtain ⟨_, rfl⟩ := r2
  have sta2 := sta1.ext ext2
  obtain ⟨v', F1', F2', c1, c2, c3, c4⟩ := sta2.hold.at hi
  have ev : v' = .ref p := by rw [a1] at c1; exact (Option.some.inj (Option.some.inj c1)).symm
  subst ev
  obtain ⟨p', vs', G2', e1, d2, rfl, d4⟩ := c2
  cases e1
  obtain ⟨w0, K1, K2, k1, k2, k3, k4⟩ := d4.at hxs
  obtain ⟨p2, us, K3, rfl, l2, rfl, l4⟩ := k2
  refine ⟨p, vs', k, .ref p2, rfl, rfl, .inl (.inl d2), by unfold atI; rw [d4.len, o3]; exact k1, ?_⟩
  refine hb σ W2 F sta2 l m5 _ fun t W3 _ ext3 _ _ r3 => ?_
  obtain ⟨_, rfl⟩ := r3
  have sta3 := sta2.ext ext3
  -- the same facts, one world on
  obtain ⟨v', F1', F2', c1', c2', c3', c4'⟩ := sta3.hold.at hi
  have ev : v' = .ref p := by rw [a1] at c1'; exact (Option.some.inj (Option.some.inj c1')).symm
  subst ev
  obtain ⟨p', vs'', G3, e1, d2', rfl, d4'⟩ := c2'
  cases e1
  have evs : vs'' = vs' := by
    rw [ext3.h p _ d2] at d2'
    cases d2'
    rfl
  subst evs
  obtain ⟨w0, K1', K2', k1', k2', k3', k4'⟩ := d4'.at hxs
  rw [k1] at k1'
  cases k1'
  obtain ⟨p2', us', K3', e2, l2', rfl, l4'⟩ := k2'
  cases e2
  obtain ⟨rfl, l5⟩ := l4'.each
  have fpA := (sta3.fp.perm c3').left
  have hB : W3.B p2 = none := fpA.fr p2 (List.mem_cons_of_mem _ (k3'.mem_iff.mpr (by simp)))
  have hne : p ≠ p2 := fun z => (List.nodup_cons.mp fpA.nd).1 (z ▸ k3'.mem_iff.mpr (by simp))
  have hK : ∀ a ∈ K2', a ≠ p2 := fun a ha z => by
    have nd := (k3'.nodup_iff.mp (List.nodup_cons.mp fpA.nd).2)
    exact (List.nodup_cons.mp nd).1 (z ▸ ha)
  refine ⟨p2, us', l, jl, rfl, rfl, l2', by rw [l5.len]; exact o1, ?_⟩
  have rN : (lstO (fun x => sh (E x)) (xs.set jl y)).C ⟨upd W3.H p2 (.lst (us'.set jl u)), W3.B⟩ (.ref p2) [p2] :=
    ⟨p2, _, [], rfl, upd_same, rfl, Owns.of_each (l5.set (SP.mono _ r (ext2.b.trans ext3.b)) jl)⟩
  obtain ⟨G', g1, g2⟩ := k4' ⟨upd W3.H p2 (.lst (us'.set jl u)), W3.B⟩ (xs.set jl y) (.ref p2) [p2] (fun _ _ h => h) (fun a ha => upd_ne (hK a ha)) rN
  have hset : vs''.set jk (.ref p2) = vs'' := by
    refine List.ext_getElem? fun n => ?_
    by_cases z : jk = n
    · subst z
      rw [k1, List.getElem?_set_self (List.getElem?_eq_some_iff.mp k1).1]
    · rw [List.getElem?_set_ne z]
  rw [hset] at g1
  have pG : (p :: G').Perm (p :: G3) := List.Perm.cons p (g2.trans k3'.symm)
  have fpB := fpA.perm pG.symm
  obtain ⟨F', s', stp⟩ := sta_own (W' := ⟨upd W3.H p2 (.lst (us'.set jl u)), W3.B⟩) (F1' := p :: G') (o' := lstO (fun xs => lstO (fun x => sh (E x)) xs) (xss.set jk (xs.set jl y))) [] sta3 (by rw [List.append_nil]; exact sta3.fp) c1' c3' c4' (wr_ok ext3.ok hB) rfl
    (fun a ha _ => upd_ne fun z => ha (z ▸ List.mem_cons_of_mem _ (k3'.mem_iff.mpr (by simp)))) wr_al ⟨fpB.nd, fun a ha => wr_al a (fpB.al a ha), fpB.fr⟩ (fun a ha => .inl (pG.mem_iff.mp ha)) ⟨p, vs'', G', rfl, (upd_ne hne).trans d2', rfl, g1⟩
  rw [List.append_nil] at stp
  have ext03 := (ext.trans ext2).trans ext3
  have stpE : Stp W F W3 F := by have := ext03.stp (F := F) (Fv := []) (by simp); rwa [List.append_nil] at this
  exact kk σ _ F' Keep.refl (stpE.trans stp) s'
/-- xs[k] = e at a written place of a list of several kinds -/
theorem js_setH {x : Str} {p0 tpos : Pos} {ps : List OP} {E : α → SP} {o : OP} {mv : Option α} {j : Int} {kk p'} (i k : Nat) (h : JN S e Γ mv fun x => sh (E x)) (hi : Γ[i]? = some (some (hetO ps)) := by rfl) (hk : ps[k]? = some o := by rfl) (hj : j = (k : Int) := by rfl) (hN : S.N[i]? = some x := by rfl) (hv : Vis S.sc x := by first | exact Or.inl rfl | exact Or.inr (Or.inl rfl) | exact Or.inr (Or.inr rfl))
    (hd : (x == ("__debug__" : Str)) = false := by decide) (hcd : (x == ("__classdict__" : Str)) = false := by decide)
    (ha : ∀ env v, assign (.Subscript (.Name x p0) (.Constant (.int j) kk p') tpos) env v = (do
      let ov ← holding [v] (eval (.Name x p0) env)
      let iv ← holding [v, ov] (eval (.Constant (.int j) kk p') env)
      standAt tpos
      holding [v, ov, iv] (setItem ov iv v)
      release [v, ov, iv] []) := by intro _ _; rfl) (hs : ∀ env, swapsWithSole [.Subscript (.Name x p0) (.Constant (.int j) kk p') tpos] e pos.line env = pure false := by intro _; rfl) (hw : ∀ env, swappedStores [.Subscript (.Name x p0) (.Constant (.int j) kk p') tpos] e env = pure none := by intro _; rfl)
    (h1 : ∀ env, (assignEach [.Subscript (.Name x p0) (.Constant (.int j) kk p') tpos] env).map (·.2) = [assign (.Subscript (.Name x p0) (.Constant (.int j) kk p') tpos) env] := by intro _; rfl) :
    JS S (.Assign [.Subscript (.Name x p0) (.Constant (.int j) kk p') tpos] e pos) Γ mv fun y => .nx (Γ.set i (some (hetO (ps.set k (sh (E y)))))) := fun σ W F sta y m1 Ed kq => by
  refine ⟨tAsg (tOf S e) (gSub (tVar i) (tC (.int j)) rSetL), fun X hX => ps_asg (peO hX) (pg_sub (pe_var (by rw [hX.N]; exact hN) (visS hv hX) hd hcd) pe_int set_list (ha _)) (hs _) (hw _) (h1 _), ?_⟩
  refine h σ W F sta y m1 _ fun u W1 Fv ext fr fp r => ?_
  obtain ⟨rfl, r⟩ := r
  have sta1 := sta.ext ext
  obtain ⟨v, F1, F2, a1, a2, a3, a4⟩ := sta1.hold.at hi
  obtain ⟨p, vs, G2, rfl, b2, rfl, b4⟩ := a2
  have hB : W1.B p = none := (sta1.fp.perm a3).fr p (by simp)
  obtain ⟨w0, K1, K2, k1, k2, k3, k4⟩ := b4.at hk
  have fpA := (sta1.fp.perm a3).left
  have nP : ∀ a ∈ G2, a ≠ p := fun a ha z => (List.nodup_cons.mp fpA.nd).1 (z ▸ ha)
  obtain ⟨G', g1, g2⟩ := k4 ⟨upd W1.H p (.lst (vs.set k u)), W1.B⟩ (sh (E y)) u [] (fun _ _ h => h) (fun a ha => upd_ne (nP a (k3.mem_iff.mpr (List.mem_append_right _ ha)))) ⟨rfl, r⟩
  have sub : ∀ a ∈ p :: G', a ∈ p :: G2 := fun a ha => by
    rcases List.mem_cons.mp ha with z | z
    · exact z ▸ List.mem_cons_self
    · exact List.mem_cons_of_mem _ (k3.mem_iff.mpr (List.mem_append_right _ (by simpa using g2.mem_iff.mp z)))
  have fpB : FpOk W1 (p :: G') := by
    refine FpOk.left (F' := K1) (fpA.perm ?_)
    refine List.Perm.cons p ?_
    refine k3.trans (List.perm_append_comm.trans (List.Perm.append_right K1 ?_))
    simpa using g2.symm
  refine ⟨.ref p, a1, p, vs, j, k, rfl, rfl, b2, ?_, ?_⟩
  · rw [hj]
    have : k < vs.length := (List.getElem?_eq_some_iff.mp k1).1
    unfold ixN
    rw [if_pos (by omega), if_pos (by omega)]
    simp
  · obtain ⟨F', s', stp⟩ := sta_own (W' := ⟨upd W1.H p (.lst (vs.set k u)), W1.B⟩) (F1' := p :: G') (o' := hetO (ps.set k (sh (E y)))) [] sta1 (by rw [List.append_nil]; exact sta1.fp) a1 a3 a4 (wr_ok ext.ok hB) rfl (fun a ha _ => upd_ne fun z => ha (z ▸ List.mem_cons_self)) wr_al
      ⟨fpB.nd, fun a ha => wr_al a (fpB.al a ha), fpB.fr⟩ (fun a ha => .inl (sub a ha)) ⟨p, vs.set k u, G', rfl, upd_same, rfl, g1⟩
    rw [List.append_nil] at stp
    have stpE : Stp W F W1 F := by have := ext.stp (F := F) (Fv := []) (by simp); rwa [List.append_nil] at this
    exact kq σ _ F' Keep.refl (stpE.trans stp) s'
/-! ### defs -/
end
abbrev stcOf (P : Program) (w : World) (K : PySem.W.Frag) (mg : Str → Option Value) (base : Heap) (N : List Str) (sc : Scope) (k : Nat) (prot : List Nat) : Stc := { P := P, w := w, K := K, mg := mg, base := base, N := N, sc := sc, k := k, fn := fun _ => true, prot := prot }
def shC (ps : List SP) : Ctx := ps.map fun p => some (sh p)
def nonC (n : Nat) : Ctx := List.replicate n none
theorem holds_non {W : Wd} : ∀ (n : Nat) (σ : L2.St), Holds (nonC n) σ W []
  | 0, _ => rfl
  | n + 1, σ => holds_non n σ.tail
theorem holds_sh {W : Wd} {n : Nat} : ∀ {vs : List V} {ps : List SP} {r : L2.St}, Hets W.B vs ps → Holds (shC ps ++ nonC n) (vs.map some ++ r) W []
  | [], [], r, _ => holds_non n r
  | v :: vs, p :: ps, r, h => ⟨v, [], [], rfl, rfl, ⟨rfl, h.1⟩, holds_sh (n := n) h.2⟩
  | [], _ :: _, _, h => h.elim
  | _ :: _, [], _, h => h.elim
section
variable {P : Program} {w : World} {K : PySem.W.Frag} {mg : Str → Option Value} {base : Heap}
theorem in_cx {N : List Str} {st : Stmt} {k : Nat} {prot : List Nat} {qual : Str} {f : Addr} {cdv : Value} {A : Around} {outer : List Env} {s : Shared} {H : Hp} {E : XK} (hr : Room k (A.deeper (envOfC qual (defScope st) s.heap.objs.size f cdv))) :
    (stcOf P w K mg base N (defScope st) k prot).In (cxOf CX0 P w K mg base N qual (defScope st) f cdv A outer s H E).nox := ⟨rfl, rfl, rfl, rfl, rfl, rfl, rfl, rfl, rfl, fun _ => hr, hr.units, PassesOwn.never, takes_none, fun _ => ⟨rfl, rfl⟩, nofun⟩
theorem fn_pure {x qual : Str} {st : Stmt} {f : Addr} {fd : FuncData} {N ps : List Str} {k : Nat} {G : α → List SP} {fM : α → Option ρ} {R : ρ → OP} {Δ : Ctx} (F : Fun K x qual st f fd) (Sc : FnScope N ps (defScope st)) (hG : ∀ a, (G a).length = ps.length) (hn : ps.length ≤ N.length)
    (body : ∀ a, JB (stcOf P w K mg base N (defScope st) k []) (defBody st) (shC (G a) ++ nonC (N.length - ps.length)) (fM a) fun r => .rt Δ (R r)) : FnOk P w K mg base CX0 (k + 1) f fd ps (spP G fM R) := by
  refine F.ok Sc (fun vs H Q E h => ?_) (fun cdv A outer s H vs Q E hr h => ?_)
  · obtain ⟨a, W, r, _, _, h3, _⟩ := h
    rw [h3.len, hG]
  · obtain ⟨a, W, r, rfl, ok, h3, h4, kq⟩ := h
    refine ⟨tbOf (stcOf P w K mg base N (defScope st) k []) (defBody st), pbO (in_cx hr), ?_⟩
    have hl : vs.length = ps.length := h3.len.trans (hG a)
    have sta : Sta (shC (G a) ++ nonC (N.length - ps.length)) (L2.start N vs) W [] := ⟨ok, FpOk.nil, by unfold L2.start shC nonC; simp [h3.len, hG, hl], by unfold L2.start; rw [hl]; exact holds_sh h3⟩
    exact body a _ W [] sta r h4 _ fun v σ' W' F' Fv _ stp _ fp rr => by
      obtain ⟨ext, fr⟩ := stp.ext
      exact kq v W' Fv ext (fun a ha => fr a (List.mem_append_right _ ha)) fp.right rr
theorem fn_state {x qual : Str} {st : Stmt} {f : Addr} {fd : FuncData} {N ps : List Str} {k : Nat} {O : τ → OP} {G : α → List SP} {fM : α → τ → Option (ρ × τ)} {R : ρ → OP} (F : Fun K x qual st f fd) (Sc : FnScope N ps (defScope st)) (hG : ∀ a, (G a).length + 1 = ps.length) (hn : ps.length ≤ N.length)
    (body : ∀ a s, JB (stcOf P w K mg base N (defScope st) k [0]) (defBody st) (some (O s) :: (shC (G a) ++ nonC (N.length - ps.length))) (fM a s) fun r => .rt (some (O r.2) :: nonC (N.length - 1)) (R r.1)) : FnOk P w K mg base CX0 (k + 1) f fd ps (spS O G fM R) := by
  refine F.ok Sc (fun vs H Q E h => ?_) (fun cdv A outer s H vs Q E hr h => ?_)
  · obtain ⟨a, s, W, F, v0, vr, r, rfl, _, _, _, _, h3, _⟩ := h
    rw [List.length_cons, h3.len, hG]
  · obtain ⟨a, s0, W, Fp, v0, vr, r, rfl, rfl, ok, fp0, h0, h3, h4, kq⟩ := h
    refine ⟨tbOf (stcOf P w K mg base N (defScope st) k [0]) (defBody st), pbO (in_cx hr), ?_⟩
    have hl : (v0 :: vr).length = ps.length := by rw [List.length_cons, h3.len]; exact hG a
    have sta : Sta (some (O s0) :: (shC (G a) ++ nonC (N.length - ps.length))) (L2.start N (v0 :: vr)) W Fp := ⟨ok, fp0, by
      unfold L2.start shC nonC
      have := hG a
      simp [h3.len]
      omega, ⟨v0, Fp, [], rfl, (List.append_nil _).symm, h0, by
      unfold L2.start
      rw [hl]
      exact holds_sh h3⟩⟩
    refine body a s0 _ W Fp sta r h4 _ fun v σ' W' F' Fv kp stp sa fp rr => ?_
    obtain ⟨u, F1, F2, b1, b2, b3, b4⟩ := sa.hold
    have e0 : σ'[0]? = some (some v0) := (kp 0 (by simp)).trans rfl
    have eu : u = v0 := by
      rw [List.head?_eq_getElem?] at b1
      rw [e0] at b1
      exact (Option.some.inj (Option.some.inj b1)).symm
    subst eu
    have eF : F2 = [] := by
      have : ∀ (n : Nat) (σ : L2.St) (F : List Addr), Holds (nonC n) σ W' F → F = [] := by
        intro n
        induction n with
        | zero => intro σ F h; exact h
        | succ n ih => intro σ F h; exact ih σ.tail F h
      exact this _ _ _ b4
    subst eF
    rw [List.append_nil] at b2
    subst b2
    exact kq v W' F' Fv stp fp b3 rr
end
end CC
set_option maxHeartbeats 4000000
/-! Expressions that change what is owned. -/
namespace CC
open PySem PySem.Spec L2
open PyProof.Rows hiding St
variable {α β γ δ τ ω ρ υ : Type}
def JEA (S : Stc) (es : List Expr) (Γ : τ → Ctx) (s : τ) (m : Option (α × τ)) (G : α → List SP) : Prop :=
  ∀ σ W F, Sta (Γ s) σ W F → ∀ x, m = some x → ∀ Q : List V → Hp → Prop, (∀ vs W' F', Stp W F W' F' → Sta (Γ x.2) σ W' F' → Hets W'.B vs (G x.1) → Q vs W'.H) → taOf S es σ W.H Q
def JTE (S : Stc) (e : Expr) (Γ : τ → Ctx) (s : τ) (m : Option (Bool × τ)) : Prop :=
  ∀ σ W F, Sta (Γ s) σ W F → ∀ x, m = some x → ∀ Q : Bool → Hp → Prop, (∀ W' F', Stp W F W' F' → Sta (Γ x.2) σ W' F' → Q x.1 W'.H) → ttOf S e σ W.H Q
def JWE (S : Stc) (e : Expr) (Γ : τ → Ctx) (s : τ) (m : Option (Bool × τ)) : Prop :=
  ∀ σ W F, Sta (Γ s) σ W F → ∀ x, m = some x → ∀ Q : Bool → Hp → Prop, (∀ W' F', Stp W F W' F' → Sta (Γ x.2) σ W' F' → Q x.1 W'.H) → twOf S e σ W.H Q
def JIE (S : Stc) (tg iter : Expr) (Γ : τ → Ctx) (s : τ) (m : Option (List α × τ)) (E : α → SP) : Prop :=
  ∀ σ W F, Sta (Γ s) σ W F → ∀ x, m = some x → ∀ R : It → Hp → Prop, (∀ J W' F', Stp W F W' F' → Sta (Γ x.2) σ W' F' → ItOk J (fun W1 => Ex W1.B W1.H ∧ Ex W'.B W1.B) x.1 E → R J W'.H) → tiOf S tg iter σ W.H R
theorem Ext.stp0 {W W' : Wd} {F : List Addr} (e : Ext W W') : Stp W F W' F := by
  have := e.stp (F := F) (Fv := []) (by simp)
  rwa [List.append_nil] at this
section
variable {S : Stc} {Γ : τ → Ctx} {s : τ} {a b c e tg iter elt : Expr} {es ifs : List Expr} {pos : Pos} {st : Stmt} {rest A B : List Stmt}
theorem je_of {m : Option α} {R : α → OP} (h : JN S e (Γ s) m R) : JE S e Γ s (m.bind fun x => some (x, s)) R := fun σ W F sta z hz Q k => by
  obtain ⟨x, h1, h2⟩ := run1 hz
  cases h2
  exact h σ W F sta x h1 Q fun v W' Fv ext fr fp r => k v W' F Fv (ext.stp fr) (sta.ext ext) (sta.fp.fresh ext fp fr) r
theorem jte_of {m : Option Bool} (h : JT S e (Γ s) m) : JTE S e Γ s (m.bind fun x => some (x, s)) := fun σ W F sta z hz Q k => by
  obtain ⟨x, h1, h2⟩ := run1 hz
  cases h2
  exact h σ W F sta x h1 Q fun W' ext => k W' F ext.stp0 (sta.ext ext)
theorem jea_of {m : Option α} {G : α → List SP} (h : JA S es (Γ s) m G) : JEA S es Γ s (m.bind fun x => some (x, s)) G := fun σ W F sta z hz Q k => by
  obtain ⟨x, h1, h2⟩ := run1 hz
  cases h2
  exact h σ W F sta x h1 Q fun vs W' ext hh => k vs W' F ext.stp0 (sta.ext ext) hh
theorem jie_of {m : Option (List α)} {E : α → SP} (h : JI S tg iter (Γ s) m E) : JIE S tg iter Γ s (m.bind fun x => some (x, s)) E := fun σ W F sta z hz R k => by
  obtain ⟨x, h1, h2⟩ := run1 hz
  cases h2
  exact h σ W F sta x h1 R fun J W' ext ok => k J W' F ext.stp0 (sta.ext ext) ok
/-- a shared value behind a step: its footprint is nothing -/
theorem JE.sh {m : Option (α × τ)} {E : α → SP} (h : JE S e Γ s m fun x => CC.sh (E x)) {σ : L2.St} {W : Wd} {F : List Addr} (sta : Sta (Γ s) σ W F) {x : α × τ} (hx : m = some x) {Q : VK}
    (k : ∀ v W' F', Stp W F W' F' → Sta (Γ x.2) σ W' F' → (E x.1).P W'.B v → Q v W'.H) : tOf S e σ W.H Q :=
  h σ W F sta x hx Q fun v W' F' Fv stp sa fp r => by
    obtain ⟨rfl, r⟩ := r
    rw [List.append_nil] at stp
    exact k v W' F' stp sa r
theorem JE.of_sh {m : Option (α × τ)} {E : α → SP} (h : ∀ σ W F, Sta (Γ s) σ W F → ∀ x, m = some x → ∀ Q : VK, (∀ v W' F', Stp W F W' F' → Sta (Γ x.2) σ W' F' → (E x.1).P W'.B v → Q v W'.H) → tOf S e σ W.H Q) : JE S e Γ s m fun x => CC.sh (E x) :=
  fun σ W F sta x hx Q k => h σ W F sta x hx Q fun v W' F' stp sa r => k v W' F' [] (by rw [List.append_nil]; exact stp) sa (by rw [List.append_nil]; exact sa.fp) ⟨rfl, r⟩
theorem jea_nil : JEA S [] Γ s (some ((), s)) fun _ => [] := fun σ W F sta x hx Q k => by
  cases hx
  exact ⟨tNil, fun _ _ => pa_nil, k [] W F (Stp.refl sta.ok) sta trivial⟩
theorem jea_cons {ma : Option (α × τ)} {mb : τ → Option (β × τ)} {E : α → SP} {G : β → List SP} (ha : JE S e Γ s ma fun x => sh (E x)) (hb : ∀ s1, JEA S es Γ s1 (mb s1) G) (hs : ∀ env, starEach (e :: es) env = (false, eval e env) :: starEach es env := by intro _; rfl) :
    JEA S (e :: es) Γ s (ma.bind fun p => (mb p.2).bind fun q => some ((p.1, q.1), q.2)) fun z => E z.1 :: G z.2 := fun σ W F sta z hz Q k => by
  obtain ⟨p, h1, h2⟩ := run1 hz
  obtain ⟨q, h3, h4⟩ := run1 (f := fun q : β × τ => some ((p.1, q.1), q.2)) h2
  cases h4
  refine ⟨tCons (tOf S e) (taOf S es), fun X hX => pa_cons (peO hX) (paO hX) (hs _), ?_⟩
  refine ha.sh sta h1 fun v W1 F1 stp1 sa1 r1 => ?_
  exact hb p.2 σ W1 F1 sa1 q h3 _ fun vs W2 F2 stp2 sa2 hh => k (v :: vs) W2 F2 (stp1.trans stp2) sa2 ⟨SP.mono _ r1 stp2.b, hh⟩
/-- operators -/
theorem tOp_runE {r : R2} {E : α → SP} {G : β → SP} {f : α → β → Option γ} {R : γ → OP} {ma : Option (α × τ)} {mb : τ → Option (β × τ)} (ha : JE S a Γ s ma fun x => sh (E x)) (hb : ∀ s1, JE S b Γ s1 (mb s1) fun y => sh (G y)) (hr : OpV r E G f R)
    {σ : L2.St} {W : Wd} {F : List Addr} (sta : Sta (Γ s) σ W F) {z : γ × τ} (hz : (ma.bind fun p => (mb p.2).bind fun q => (f p.1 q.1).bind fun z => some (z, q.2)) = some z) {Q : VK}
    (k : ∀ v W' F' Fv, Stp W F W' (F' ++ Fv) → Sta (Γ z.2) σ W' F' → FpOk W' (F' ++ Fv) → (R z.1).C W' v Fv → Q v W'.H) : tOp r (tOf S a) (tOf S b) σ W.H Q := by
  obtain ⟨p, h1, h2⟩ := run1 hz
  obtain ⟨q, h3, h4⟩ := run1 (f := fun q : β × τ => (f p.1 q.1).bind fun z => some (z, q.2)) h2
  obtain ⟨y, h5, h6⟩ := run1 (f := fun z : γ => some (z, q.2)) h4
  cases h6
  refine ha.sh sta h1 fun v W1 F1 stp1 sa1 r1 => ?_
  refine (hb p.2).sh sa1 h3 fun u W2 F2 stp2 sa2 r2 => ?_
  refine hr W2 p.1 q.1 v u y sa2.ok (SP.mono _ r1 stp2.b) r2 h5 Q fun t W3 Fv ext fr fp rr => ?_
  exact k t W3 F2 Fv ((stp1.trans stp2).trans (ext.stp fr)) (sa2.ext ext) (sa2.fp.fresh ext fp fr) rr
theorem je_bin {op : Operator} {r : R2} {E : α → SP} {G : β → SP} {f : α → β → Option γ} {R : γ → OP} {ma : Option (α × τ)} {mb : τ → Option (β × τ)} (ho : ∀ X, S.In X → OpR X (binaryOp op) r) (hr : OpV r E G f R)
    (ha : JE S a Γ s ma fun x => sh (E x)) (hb : ∀ s1, JE S b Γ s1 (mb s1) fun y => sh (G y)) : JE S (.BinOp a op b pos) Γ s (ma.bind fun p => (mb p.2).bind fun q => (f p.1 q.1).bind fun z => some (z, q.2)) R := fun σ W F sta z hz Q k =>
  ⟨tOp r (tOf S a) (tOf S b), fun X hX => pe_op (ho X hX) (peO hX) (peO hX), tOp_runE ha hb hr sta hz k⟩
theorem je_cmp {op : CmpOp} {r : R2} {E : α → SP} {G : β → SP} {f : α → β → Option γ} {R : γ → OP} {ma : Option (α × τ)} {mb : τ → Option (β × τ)} (ho : ∀ X, S.In X → OpR X (compareOp op) r) (hr : OpV r E G f R)
    (ha : JE S a Γ s ma fun x => sh (E x)) (hb : ∀ s1, JE S b Γ s1 (mb s1) fun y => sh (G y)) (hm : behindInMarks op b = false := by first | exact nomark _ | rfl) : JE S (.Compare a [op] [b] pos) Γ s (ma.bind fun p => (mb p.2).bind fun q => (f p.1 q.1).bind fun z => some (z, q.2)) R := fun σ W F sta z hz Q k =>
  ⟨tOp r (tOf S a) (tOf S b), fun X hX => pe_cmpR (ho X hX) (peO hX) (peO hX) hm, tOp_runE ha hb hr sta hz k⟩
theorem jte_cmp {op : CmpOp} {r : R2} {E : α → SP} {G : β → SP} {f : α → β → Option Bool} {ma : Option (α × τ)} {mb : τ → Option (β × τ)} (ho : ∀ X, S.In X → OpR X (compareOp op) r) (hr : OpV r E G f fun z => sh (boolS z))
    (ha : JE S a Γ s ma fun x => sh (E x)) (hb : ∀ s1, JE S b Γ s1 (mb s1) fun y => sh (G y)) (hm : behindInMarks op b = false := by first | exact nomark _ | rfl) : JTE S (.Compare a [op] [b] pos) Γ s (ma.bind fun p => (mb p.2).bind fun q => (f p.1 q.1).bind fun z => some (z, q.2)) := fun σ W F sta z hz Q k =>
  ⟨tTest (tOp r (tOf S a) (tOf S b)), fun X hX => pt_cmpR (ho X hX) (peO hX) (peO hX) hm, tOp_runE ha hb hr sta hz fun v W' F' Fv stp sa fp rr => by
    obtain ⟨rfl, h⟩ := rr
    rw [List.append_nil] at stp
    exact ⟨z.1, h, k W' F' stp sa⟩⟩
theorem jte_val {m : Option (Bool × τ)} (h : JE S e Γ s m fun z => sh (boolS z)) (he : ∀ env whole, isTrue e env whole = (do let v ← whole; standAt e.pos; holding [v] (truthy v)) := by intro _ _; rfl) : JTE S e Γ s m := fun σ W F sta z hz Q k =>
  ⟨tB (tOf S e), fun X hX => pt_val (peO hX) (he _), h.sh sta hz fun v W' F' stp sa r => ⟨z.1, r, k W' F' stp sa⟩⟩
theorem jte_not {m : Option (Bool × τ)} (h : JTE S e Γ s m) : JTE S (.UnaryOp .Not e pos) Γ s (m.bind fun x => some (!x.1, x.2)) := fun σ W F sta z hz Q k => by
  obtain ⟨x, h1, h2⟩ := run1 hz
  cases h2
  exact ⟨tNot (ttOf S e), fun X hX => pt_not (ptO hX), h σ W F sta x h1 _ fun W' F' stp sa => k W' F' stp sa⟩
theorem jwe_and1 {m : Option (Bool × τ)} (h : JTE S a Γ s m) : JWE S (.BoolOp .And [a] pos) Γ s m := fun σ W F sta z hz Q k => ⟨ttOf S a, fun X hX => pw_and1 (ptO hX), h σ W F sta z hz _ k⟩
theorem jwe_or1 {m : Option (Bool × τ)} (h : JTE S a Γ s m) : JWE S (.BoolOp .Or [a] pos) Γ s m := fun σ W F sta z hz Q k => ⟨ttOf S a, fun X hX => pw_or1 (ptO hX), h σ W F sta z hz _ k⟩
theorem jwe_and {ma : Option (Bool × τ)} {mb : τ → Option (Bool × τ)} (ha : JTE S a Γ s ma) (hb : ∀ s1, JWE S (.BoolOp .And (b :: es) pos) Γ s1 (mb s1)) : JWE S (.BoolOp .And (a :: b :: es) pos) Γ s (ma.bind fun p => bif p.1 then mb p.2 else some (false, p.2)) := fun σ W F sta z hz Q k => by
  obtain ⟨x, h1, h2⟩ := run1 hz
  refine ⟨tAnd (ttOf S a) (twOf S (.BoolOp .And (b :: es) pos)), fun X hX => pw_and (ptO hX) (pwO hX), ha σ W F sta x h1 _ fun W' F' stp sa => ?_⟩
  obtain ⟨x1, x2⟩ := x
  cases x1 with
  | true => exact iteT (hb x2 σ W' F' sa z h2 Q fun W2 F2 stp2 sa2 => k W2 F2 (stp.trans stp2) sa2)
  | false =>
    cases h2
    exact iteF (k W' F' stp sa)
theorem jwe_or {ma : Option (Bool × τ)} {mb : τ → Option (Bool × τ)} (ha : JTE S a Γ s ma) (hb : ∀ s1, JWE S (.BoolOp .Or (b :: es) pos) Γ s1 (mb s1)) : JWE S (.BoolOp .Or (a :: b :: es) pos) Γ s (ma.bind fun p => bif p.1 then some (true, p.2) else mb p.2) := fun σ W F sta z hz Q k => by
  obtain ⟨x, h1, h2⟩ := run1 hz
  refine ⟨tOr (ttOf S a) (twOf S (.BoolOp .Or (b :: es) pos)), fun X hX => pw_or (ptO hX) (pwO hX), ha σ W F sta x h1 _ fun W' F' stp sa => ?_⟩
  obtain ⟨x1, x2⟩ := x
  cases x1 with
  | false => exact iteF (hb x2 σ W' F' sa z h2 Q fun W2 F2 stp2 sa2 => k W2 F2 (stp.trans stp2) sa2)
  | true =>
    cases h2
    exact iteT (k W' F' stp sa)
theorem jte_w {m : Option (Bool × τ)} (h : JWE S e Γ s m) : JTE S e Γ s m := fun σ W F sta z hz Q k => ⟨twOf S e, fun X hX => (pwO hX).pt, h σ W F sta z hz Q k⟩
theorem je_if {mc : Option (Bool × τ)} {ma mb : τ → Option (α × τ)} {R : α → OP} (hc : JTE S c Γ s mc) (ha : ∀ s1, JE S a Γ s1 (ma s1) R) (hb : ∀ s1, JE S b Γ s1 (mb s1) R) : JE S (.IfExp c a b pos) Γ s (mc.bind fun p => bif p.1 then ma p.2 else mb p.2) R := fun σ W F sta z hz Q k => by
  obtain ⟨x, h1, h2⟩ := run1 hz
  refine ⟨tIf (ttOf S c) (tOf S a) (tOf S b), fun X hX => pe_ifExp (ptO hX) (peO hX) (peO hX), hc σ W F sta x h1 _ fun W' F' stp sa => ?_⟩
  obtain ⟨x1, x2⟩ := x
  cases x1 with
  | true => exact iteT (ha x2 σ W' F' sa z h2 Q fun v W2 F2 Fv stp2 sa2 fp r => k v W2 F2 Fv (stp.trans stp2) sa2 fp r)
  | false => exact iteF (hb x2 σ W' F' sa z h2 Q fun v W2 F2 Fv stp2 sa2 fp r => k v W2 F2 Fv (stp.trans stp2) sa2 fp r)
/-- a shared thing's item at a drawn place -/
theorem je_ix {r : R2} {P : α → SP} {G : β → SP} {f : α → β → Option γ} {E : γ → SP} {ma : Option (α × τ)} {mb : τ → Option (β × τ)} (ho : ∀ X, S.In X → IxR X r) (hr : IxV r (fun x => sh (P x)) G f fun z => sh (E z))
    (ha : JE S a Γ s ma fun x => sh (P x)) (hb : ∀ s1, JE S b Γ s1 (mb s1) fun y => sh (G y)) (hs : PlainIx b := by exact fun _ _ => rfl) : JE S (.Subscript a b pos) Γ s (ma.bind fun p => (mb p.2).bind fun q => (f p.1 q.1).bind fun z => some (z, q.2)) fun z => sh (E z) := JE.of_sh fun σ W F sta z hz Q k => by
  refine ⟨tOp r (tOf S a) (tOf S b), fun X hX => pe_ix (ho X hX) (peO hX) (peO hX) hs, ?_⟩
  obtain ⟨p, h1, h2⟩ := run1 hz
  obtain ⟨q, h3, h4⟩ := run1 (f := fun q : β × τ => (f p.1 q.1).bind fun z => some (z, q.2)) h2
  obtain ⟨y, h5, h6⟩ := run1 (f := fun z : γ => some (z, q.2)) h4
  cases h6
  refine ha.sh sta h1 fun v W1 F1 stp1 sa1 r1 => ?_
  refine (hb p.2).sh sa1 h3 fun u W2 F2 stp2 sa2 r2 => ?_
  exact hr W2 p.1 q.1 v u y [] sa2.ok ⟨rfl, SP.mono _ r1 stp2.b⟩ r2 h5 _ fun t ⟨F3, q1, _⟩ => k t W2 F2 (stp1.trans stp2) sa2 q1.2
/-- builtins of one argument -/
theorem je_b1 {x : Str} {id : String} {p : Pos} {r : List V → Hp → VK → Prop} {m : Option (α × τ)} {E : α → SP} {f : α → Option γ} {R : γ → OP} (hc : ∀ X, S.In X → CallR X (.builtin id) r)
    (hr : ∀ W x v z, Ex W.B W.H → (E x).P W.B v → f x = some z → ∀ Q : VK, Got (R z) W Q → r [v] W.H Q) (hm : S.mg x = none) (ha : JE S a Γ s m fun x => sh (E x))
    (hg : GlS S x := by rfl) (hv : bootBuiltins x = some (.builtin id) := by decide +kernel) (hn : x ≠ "__name__" := by decide) (hdb : (x == ("__debug__" : Str)) = false := by decide)
    (hs : ∀ env, starEach [a] env = [(false, eval a env)] := by intro _; rfl) : JE S (.Call (.Name x p) [a] [] pos) Γ s (m.bind fun q => (f q.1).bind fun z => some (z, q.2)) R := fun σ W F sta z hz Q k => by
  obtain ⟨q, h1, h2⟩ := run1 hz
  obtain ⟨y, h3, h4⟩ := run1 (f := fun z : γ => some (z, q.2)) h2
  cases h4
  refine ⟨tCB r (tCons (tOf S a) tNil), fun X hX => pe_callB (hc X hX) (hg.gl hX) (mgS hm hX) hv (pa_cons (peO hX) pa_nil (hs _)) hn hdb (hs _) rfl, ha.sh sta h1 fun v W1 F1 stp1 sa1 r1 => ?_⟩
  exact hr W1 q.1 v y sa1.ok r1 h3 Q fun t W3 Fv ext fr fp rr => k t W3 F1 Fv (stp1.trans (ext.stp fr)) (sa1.ext ext) (sa1.fp.fresh ext fp fr) rr
theorem je_t1 {x : Str} {T : String} {p : Pos} {r : List V → Hp → VK → Prop} {m : Option (α × τ)} {E : α → SP} {f : α → Option γ} {R : γ → OP} (hc : ∀ X, S.In X → CallR X (.type T) r)
    (hr : ∀ W x v z, Ex W.B W.H → (E x).P W.B v → f x = some z → ∀ Q : VK, Got (R z) W Q → r [v] W.H Q) (hm : S.mg x = none) (ha : JE S a Γ s m fun x => sh (E x))
    (hg : GlS S x := by rfl) (hv : bootBuiltins x = some (.type T) := by decide +kernel) (hn : x ≠ "__name__" := by decide) (hdb : (x == ("__debug__" : Str)) = false := by decide)
    (hs : ∀ env, starEach [a] env = [(false, eval a env)] := by intro _; rfl) : JE S (.Call (.Name x p) [a] [] pos) Γ s (m.bind fun q => (f q.1).bind fun z => some (z, q.2)) R := fun σ W F sta z hz Q k => by
  obtain ⟨q, h1, h2⟩ := run1 hz
  obtain ⟨y, h3, h4⟩ := run1 (f := fun z : γ => some (z, q.2)) h2
  cases h4
  refine ⟨tCB r (tCons (tOf S a) tNil), fun X hX => pe_callTy (hc X hX) (hg.gl hX) (mgS hm hX) hv (pa_cons (peO hX) pa_nil (hs _)) hn hdb (hs _) rfl, ha.sh sta h1 fun v W1 F1 stp1 sa1 r1 => ?_⟩
  exact hr W1 q.1 v y sa1.ok r1 h3 Q fun t W3 Fv ext fr fp rr => k t W3 F1 Fv (stp1.trans (ext.stp fr)) (sa1.ext ext) (sa1.fp.fresh ext fp fr) rr
theorem je_int {m : Option (Int × τ)} {p : Pos} (hm : S.mg "int" = none) (h : JE S a Γ s m fun x => sh (intS x)) (hg : GlS S "int" := by rfl) (hs : ∀ env, starEach [a] env = [(false, eval a env)] := by intro _; rfl) : JE S (.Call (.Name "int" p) [a] [] pos) Γ s (m.bind fun q => some (q.1, q.2)) fun z => sh (intS z) :=
  je_t1 (f := fun x : Int => some x) (fun X hX => call_int1) (fun W x v z ok hh e Q k => by
    cases e
    cases hh
    exact .inl ⟨_, rfl, k.val ok rfl⟩) hm h hg (by decide +kernel) (by decide) (by decide) hs
/-- a fresh value frozen on the way -/
theorem JE.frz {m : Option (α × τ)} {R : α → OP} {P : α → SP} (f : ∀ x, FrzN (R x) (P x)) (h : JE S e Γ s m R) : JE S e Γ s m fun x => CC.sh (P x) := JE.of_sh fun σ W F sta x hx Q k =>
  h σ W F sta x hx Q fun v W' F' Fv stp sa fp r => by
    obtain ⟨B', b1, b2, b3, b4⟩ := (f x.1).run r fp.right.nd fp.right.fr stp.ok
    have fpB : FpOk ⟨W'.H, B'⟩ F' := ⟨fp.left.nd, fp.left.al, fun a ha => b3 a (fp.left.fr a ha) (fp.disj a ha)⟩
    refine k v ⟨W'.H, B'⟩ F' ⟨b2, stp.b.trans b1, stp.h, stp.al, fun a h1 h2 n => b3 a (stp.fr a h1 h2 n) fun z => ?_, fun a ha => stp.fp a (List.mem_append_left _ ha)⟩ ⟨b2, fpB, sa.len, sa.hold.loc b1 fun _ _ => rfl⟩ b4
    rcases stp.fp a (List.mem_append_right _ z) with q | q
    · exact n q
    · exact h1 q
/-- a call of a def that changes its first argument, the slot i -/
theorem je_callS {x y : Str} {p p1 : Pos} {f : Addr} {fd : FuncData} {ps : List Str} {k : Nat} {O : υ → OP} {G : α → List SP} {fM : α → υ → Option (ρ × υ)} {R : ρ → OP} {m : Option (α × τ)} (i : Nat) (get : τ → υ) (put : τ → υ → τ) (Fn : FnOk S.P S.w S.K S.mg S.base CX0 k f fd ps (spS O G fM R)) (hm : S.mg x = some (.ref f)) (kp : PySem.W.keepIn S.K (.ref f) = true) (hb : Binds S.K fd ps [])
    (hk : k ≤ S.k) (ha : JEA S es Γ s m G) (hi : ∀ s, (Γ s)[i]? = some (some (O (get s))) := by intro _; rfl) (hp : ∀ s u, (Γ s).set i (some (O u)) = Γ (put s u) := by intro _ _; rfl) (hN : S.N[i]? = some y := by rfl) (hv : Vis S.sc y := by first | exact Or.inl rfl | exact Or.inr (Or.inl rfl) | exact Or.inr (Or.inr rfl))
    (hd : (y == ("__debug__" : Str)) = false := by decide) (hcd : (y == ("__classdict__" : Str)) = false := by decide) (hg : GlS S x := by rfl) (hdb : (x == ("__debug__" : Str)) = false := by decide)
    (he : ∀ env, starEach (Expr.Name y p1 :: es) env = (false, eval (.Name y p1) env) :: starEach es env := by intro _; rfl) (hpl : ∀ env, (backTo pos (starEach es env)).any (·.1) = false := by intro _; rfl) (hcm : S.calm = true := by rfl) :
    JE S (.Call (.Name x p) (.Name y p1 :: es) [] pos) Γ s (m.bind fun q => (fM q.1 (get q.2)).bind fun r => some (r.1, put q.2 r.2)) R := fun σ W F sta z hz Q kk => by
  obtain ⟨q, h1, h2⟩ := run1 hz
  obtain ⟨r, h3, h4⟩ := run1 (f := fun r : ρ × υ => some (r.1, put q.2 r.2)) h2
  cases h4
  refine ⟨tCall (spS O G fM R) [] E0 (tCons (tVar i) (taOf S es)), fun X hX => pe_call (fnokS Fn hX) ((hX.room hcm).mono hk) (hg.gl hX) (mgS hm hX) (by rw [hX.K]; exact kp) (bindsS hX hb) .nil passE0 (pa_cons (pe_var (by rw [hX.N]; exact hN) (visS hv hX) hd hcd) (paO hX) (he _)) hdb (he _) (hpl _), ?_⟩
  obtain ⟨v0, F1, F2, a1, _, _, _⟩ := sta.hold.at (hi s)
  refine ⟨v0, a1, ha σ W F sta q h1 _ fun vs W1 Fa stp1 sa1 hh => ?_⟩
  show spS O G fM R ((v0 :: vs) ++ []) W1.H Q E0
  rw [List.append_nil]
  obtain ⟨v1, F1, F2, b1, b2, b3, b4⟩ := sa1.hold.at (hi q.2)
  have ev : v1 = v0 := by rw [a1] at b1; exact (Option.some.inj (Option.some.inj b1)).symm
  subst ev
  have fpP := sa1.fp.perm b3
  refine ⟨q.1, get q.2, W1, F1, v1, vs, r, rfl, rfl, sa1.ok, fpP.left, b2, hh, h3, fun v W2 F1' Fv stp2 fp2 o2 r2 => ?_⟩
  have ne2 : ∀ a ∈ F2, a ∉ F1 := fun a ha h => fpP.disj a h ha
  have hH : ∀ a ∈ F2, W2.H a = W1.H a := fun a ha => by
    cases qa : W1.H a with
    | none => exact absurd qa (fpP.right.al a ha)
    | some o => exact stp2.h a o qa (ne2 a ha)
  obtain ⟨F', c1, c2⟩ := b4 W2 (O r.2) v1 F1' stp2.b hH o2
  rw [set_back b1, hp] at c1
  have fpN : FpOk W2 ((F1' ++ F2) ++ Fv) := by
    have fA : FpOk W2 ((F1' ++ Fv) ++ F2) := fp2.app ⟨fpP.right.nd, fun a ha => stp2.al a (fpP.right.al a ha), fun a ha => stp2.fr a (fpP.right.al a ha) (fpP.right.fr a ha) (ne2 a ha)⟩ fun a ha h => by
      rcases stp2.fp a ha with z | z
      · exact ne2 a h z
      · exact fpP.right.al a h z
    refine fA.perm ?_
    rw [List.append_assoc, List.append_assoc]
    exact List.Perm.append_left _ List.perm_append_comm
  have fpF : FpOk W2 (F' ++ Fv) := fpN.perm (List.Perm.append_right Fv c2.symm)
  refine kk v W2 F' Fv (stp1.trans ?_) ⟨stp2.ok, fpF.left, by rw [← hp, List.length_set]; exact sa1.len, c1⟩ fpF r2
  refine ⟨stp2.ok, stp2.b, fun a o h n => stp2.h a o h fun z => n (b3.mem_iff.mpr (List.mem_append_left _ z)), stp2.al, fun a x1 x2 n => stp2.fr a x1 x2 fun z => n (b3.mem_iff.mpr (List.mem_append_left _ z)), fun a ha => ?_⟩
  rcases List.mem_append.mp ha with z | z
  · rcases List.mem_append.mp (c2.mem_iff.mp z) with z | z
    · exact (stp2.fp a (List.mem_append_left _ z)).imp (fun w => b3.mem_iff.mpr (List.mem_append_left _ w)) id
    · exact .inl (b3.mem_iff.mpr (List.mem_append_right _ z))
  · exact (stp2.fp a (List.mem_append_right _ z)).imp (fun w => b3.mem_iff.mpr (List.mem_append_left _ w)) id
/-- a pure def with such arguments -/
theorem je_call {x : Str} {p : Pos} {f : Addr} {fd : FuncData} {ps : List Str} {k : Nat} {G : α → List SP} {fM : α → Option ρ} {R : ρ → OP} {m : Option (α × τ)} (Fn : FnOk S.P S.w S.K S.mg S.base CX0 k f fd ps (spP G fM R)) (hm : S.mg x = some (.ref f)) (kp : PySem.W.keepIn S.K (.ref f) = true) (hb : Binds S.K fd ps [])
    (hk : k ≤ S.k) (ha : JEA S (e :: es) Γ s m G) (hg : GlS S x := by rfl) (hdb : (x == ("__debug__" : Str)) = false := by decide) (he : ∀ env, starEach (e :: es) env = (false, eval e env) :: starEach es env := by intro _; rfl) (hpl : ∀ env, (backTo pos (starEach es env)).any (·.1) = false := by intro _; rfl) (hcm : S.calm = true := by rfl) :
    JE S (.Call (.Name x p) (e :: es) [] pos) Γ s (m.bind fun q => (fM q.1).bind fun r => some (r, q.2)) R := fun σ W F sta z hz Q kk => by
  obtain ⟨q, h1, h2⟩ := run1 hz
  obtain ⟨r, h3, h4⟩ := run1 (f := fun r : ρ => some (r, q.2)) h2
  cases h4
  refine ⟨tCall (spP G fM R) [] E0 (taOf S (e :: es)), fun X hX => pe_call (fnokS Fn hX) ((hX.room hcm).mono hk) (hg.gl hX) (mgS hm hX) (by rw [hX.K]; exact kp) (bindsS hX hb) .nil passE0 (paO hX) hdb (he _) (hpl _), ha σ W F sta q h1 _ fun vs W1 F1 stp1 sa1 hh => ?_⟩
  show spP G fM R (vs ++ []) W1.H Q E0
  rw [List.append_nil]
  exact ⟨q.1, W1, r, rfl, sa1.ok, hh, h3, fun v W2 Fv ext fr fp rr => kk v W2 F1 Fv (stp1.trans (ext.stp fr)) (sa1.ext ext) (sa1.fp.fresh ext fp fr) rr⟩
/-- xs.pop(i) of an owned list -/
def popAt (xs : List α) (i : Int) : Option (α × List α) := if 0 ≤ i ∧ xs.length ≤ LIM then (xs[i.toNat]?).bind fun x => some (x, xs.eraseIdx i.toNat) else none
theorem Owns.erase {E : α → OP} {W : Wd} : ∀ {vs : List V} {xs : List α} {F : List Addr} {i : Nat} {x : α}, Owns E W vs xs F → xs[i]? = some x →
    ∃ v F1 F2, vs[i]? = some v ∧ (E x).C W v F1 ∧ F.Perm (F1 ++ F2) ∧ Owns E W (vs.eraseIdx i) (xs.eraseIdx i) F2
  | [], [], _, _, _, _, e => by simp at e
  | v :: vs, y :: xs, _, 0, x, ⟨F1, F2, h1, h2, h3⟩, e => by
    have : y = x := by simpa using e
    subst this h1
    exact ⟨v, F1, F2, rfl, h2, .refl _, h3⟩
  | v :: vs, y :: xs, _, i + 1, x, ⟨F1, F2, h1, h2, h3⟩, e => by
    subst h1
    obtain ⟨u, G1, G2, a1, a2, a3, a4⟩ := Owns.erase (i := i) h3 (by simpa using e)
    refine ⟨u, G1, F1 ++ G2, by simpa using a1, a2, ?_, F1, G2, rfl, h2, a4⟩
    refine (List.Perm.append_left F1 a3).trans ?_
    rw [← List.append_assoc, ← List.append_assoc]
    exact List.Perm.append_right G2 List.perm_append_comm
  | [], _ :: _, _, _, _, h, _ => h.elim
  | _ :: _, [], _, _, _, h, _ => h.elim
theorem je_popAt {x : Str} {p0 apos : Pos} {E : α → OP} {m : Option (Int × τ)} (i : Nat) (get : τ → List α) (put : τ → List α → τ) (h : JE S e Γ s m fun z => sh (intS z)) (hi : ∀ s, (Γ s)[i]? = some (some (lstO E (get s))) := by intro _; rfl) (hp : ∀ s u, (Γ s).set i (some (lstO E u)) = Γ (put s u) := by intro _ _; rfl)
    (hN : S.N[i]? = some x := by rfl) (hv : Vis S.sc x := by first | exact Or.inl rfl | exact Or.inr (Or.inl rfl) | exact Or.inr (Or.inr rfl)) (hd : (x == ("__debug__" : Str)) = false := by decide) (hcd : (x == ("__classdict__" : Str)) = false := by decide)
    (hbase : ∀ env, attributeBase (.Name x p0) "pop" env (eval (.Name x p0) env) = eval (.Name x p0) env := by intro _; rfl)
    (hfew : ∀ env, ((backTo pos (starEach [e] env)).all (fun x => !x.1) && (backToKw pos (keywordEach [] env)).all (fun x => x.1.isSome) && decide ([e].length + ([] : List Keyword).length + (if ([] : List Keyword).isEmpty then 0 else 1) < 30)) = true := by intro _; rfl)
    (hline : (apos.endLine == pos.line) = true := by rfl) (hs : ∀ env, starEach [e] env = (false, eval e env) :: starEach [] env := by intro _; rfl) :
    JE S (.Call (.Attribute (.Name x p0) "pop" apos) [e] [] pos) Γ s (m.bind fun q => (popAt (get q.2) q.1).bind fun r => some (r.1, put q.2 r.2)) E := fun σ W F sta z hz Q kk => by
  obtain ⟨q, h1, h2⟩ := run1 hz
  obtain ⟨r, h3, h4⟩ := run1 (f := fun r : α × List α => some (r.1, put q.2 r.2)) h2
  cases h4
  unfold popAt at h3
  split at h3
  · rename_i hb
    obtain ⟨y, h5, h6⟩ := run1 (f := fun y : α => some (y, (get q.2).eraseIdx q.1.toNat)) h3
    cases h6
    refine ⟨tBM S.K "list" rPopAt (tVar i) (tCons (tOf S e) tNil), fun X hX => hX.K ▸ pe_bm PySem.F.plainAttrs_list PySem.F.slot_list_pop PySem.F.type_list_pop mt_popAt (pe_var (by rw [hX.N]; exact hN) (visS hv hX) hd hcd) (pa_cons (peO hX) pa_nil (hs _)) (hbase _) (hfew _) hline (hs _) rfl, ?_⟩
    obtain ⟨v, F1, F2, a1, a2, a3, a4⟩ := sta.hold.at (hi s)
    obtain ⟨p, vs, G2, rfl, b2, rfl, b4⟩ := id a2
    refine ⟨.ref p, a1, .inl ⟨rfl, vs, .inl (.inl b2)⟩, h.sh sta h1 fun u W1 Fa stp1 sa1 r1 => ?_⟩
    cases r1
    obtain ⟨v', F1', F2', c1, c2, c3, c4⟩ := sa1.hold.at (hi q.2)
    have ev : v' = .ref p := by rw [a1] at c1; exact (Option.some.inj (Option.some.inj c1)).symm
    subst ev
    obtain ⟨p', vs', G2', e1, d2, rfl, d4⟩ := c2
    cases e1
    have hB : W1.B p = none := (sa1.fp.perm c3).fr p (by simp)
    obtain ⟨w, K1, K2, k1, k2, k3, k4⟩ := d4.erase h5
    have hlen := d4.len
    have hlt : q.1.toNat < (get q.2).length := (List.getElem?_eq_some_iff.mp h5).1
    have z : LIM = 1000000 := rfl
    have fpA := (sa1.fp.perm c3).left
    have fpK : FpOk W1 (p :: (K2 ++ K1)) := fpA.perm (List.Perm.cons p (k3.trans List.perm_append_comm))
    have nP : ∀ a ∈ K2 ++ K1, a ≠ p := fun a ha z => (List.nodup_cons.mp fpK.nd).1 (z ▸ ha)
    have eseq : seqIndex? q.1 vs'.length = some q.1.toNat := by
      have hx : ixN vs'.length q.1 = some q.1.toNat := by
        unfold ixN
        rw [if_pos hb.1, if_pos (by omega)]
      exact (ixN_seq hx).1
    refine ⟨p, vs', q.1, q.1.toNat, w, rfl, rfl, d2, by omega, by omega, eseq, k1, ?_⟩
    have ke : (lstO E ((get q.2).eraseIdx q.1.toNat)).C ⟨upd W1.H p (.lst (vs'.eraseIdx q.1.toNat)), W1.B⟩ (.ref p) (p :: K2) :=
      ⟨p, _, K2, rfl, upd_same, rfl, Owns.loc (W := W1) (W' := ⟨upd W1.H p (.lst (vs'.eraseIdx q.1.toNat)), W1.B⟩) (fun _ _ h => h) k4 fun a ha => by
        show upd W1.H p (.lst (vs'.eraseIdx q.1.toNat)) a = W1.H a
        exact upd_ne (nP a (List.mem_append_left _ ha))⟩
    have fpN : FpOk W1 ((p :: K2) ++ K1) := fpK
    -- the item's own things leave the list
    have fpG : FpOk W1 (((p :: K2) ++ F2') ++ K1) := by
      refine (sa1.fp.perm c3).perm ?_
      have e1 : ((p :: G2') ++ F2').Perm ((p :: (K2 ++ K1)) ++ F2') := List.Perm.append_right F2' (List.Perm.cons p (k3.trans List.perm_append_comm))
      refine e1.trans ?_
      show ((p :: K2) ++ K1 ++ F2').Perm _
      rw [List.append_assoc, List.append_assoc]
      exact List.Perm.append_left _ List.perm_append_comm
    obtain ⟨F', s1, s2⟩ := c4 ⟨upd W1.H p (.lst (vs'.eraseIdx q.1.toNat)), W1.B⟩ _ (.ref p) (p :: K2) (fun _ _ h => h) (fun a ha => by
      show upd W1.H p (.lst (vs'.eraseIdx q.1.toNat)) a = W1.H a
      refine upd_ne fun z => ?_
      exact (sa1.fp.perm c3).disj p List.mem_cons_self (z ▸ ha)) ke
    rw [set_back c1, hp] at s1
    have fpF : FpOk ⟨upd W1.H p (.lst (vs'.eraseIdx q.1.toNat)), W1.B⟩ (F' ++ K1) := by
      have := fpG.perm (List.Perm.append_right K1 s2.symm)
      exact ⟨this.nd, fun a ha => wr_al a (this.al a ha), this.fr⟩
    refine kk w ⟨upd W1.H p (.lst (vs'.eraseIdx q.1.toNat)), W1.B⟩ F' K1 (stp1.trans ?_) ⟨wr_ok sa1.ok hB, fpF.left, by rw [← hp, List.length_set]; exact sa1.len, s1⟩ fpF ?_
    · refine ⟨wr_ok sa1.ok hB, Ex.refl _, fun a o h n => ?_, wr_al, fun a _ h2 _ => h2, fun a ha => .inl (c3.mem_iff.mpr ?_)⟩
      · show upd W1.H p _ a = some o
        rw [upd_ne fun z => n (c3.mem_iff.mpr (by rw [z]; simp))]
        exact h
      · rcases List.mem_append.mp ha with z | z
        · rcases List.mem_append.mp (s2.mem_iff.mp z) with z | z
          · rcases List.mem_cons.mp z with z | z
            · rw [z]; simp
            · exact List.mem_append_left _ (List.mem_cons_of_mem _ (k3.mem_iff.mpr (List.mem_append_right _ z)))
          · exact List.mem_append_right _ z
        · exact List.mem_append_left _ (List.mem_cons_of_mem _ (k3.mem_iff.mpr (List.mem_append_left _ z)))
    · exact OP.loc _ k2 (fun _ _ h => h) fun a ha => by
        show upd W1.H p (.lst (vs'.eraseIdx q.1.toNat)) a = W1.H a
        exact upd_ne (nP a (List.mem_append_right _ ha))
  · cases h3
/-! ### statements -/
theorem js_setE {x : Str} {pos' : Pos} {m : Option (α × τ)} {R : α → OP} (i : Nat) (nd : S.N.Nodup) (h : JE S e Γ s m R) (hi : ∀ s, ((Γ s)[i]?).isSome = true := by intro _; rfl) (hN : S.N[i]? = some x := by rfl) (hx : Loc S.sc x := by first | exact Or.inl rfl | exact Or.inr rfl) (hp : (S.prot.contains i) = false := by rfl)
    (hs : ∀ env, swapsWith e (some (.Name x pos')) pos.line env = pure false := by intro _; rfl) (hf : S.fn x = true ∨ S.sc.names.lookup x = some .local := by first | exact .inl rfl | exact .inr rfl) : JS S (.Assign [.Name x pos'] e pos) (Γ s) m fun q => .nx ((Γ q.2).set i (some (R q.1))) := fun σ W F sta y hy E k => by
  refine ⟨tAsg (tOf S e) (gName i), fun X hX => ps_set (by rw [hX.N]; exact nd) (by rw [hX.N]; exact hN) (locS hx hX) (peO hX) (hs _) (by rw [hX.fn, hX.sc]; exact hf), h σ W F sta y hy _ fun v W' F' Fv stp sa fp r => ?_⟩
  have hl : i < (Γ y.2).length := by
    have := hi y.2
    cases h : (Γ y.2)[i]? with
    | none => rw [h] at this; cases this
    | some o => exact (List.getElem?_eq_some_iff.mp h).1
  obtain ⟨F2, s', sub⟩ := sa.put hl r fp
  exact k _ W' F2 (Keep.set (ncon hp)) (stp.perm sub) s'
theorem js_asgE {m : Option (α × τ)} {E : α → SP} {up : α → Ctx → Ctx} {ws : List Nat} (h : JE S e Γ s m fun x => sh (E x)) (hg : JG S tg E up ws) (hl : ∀ s, ∀ i ∈ ws, i < (Γ s).length) (hs : ∀ env, swapsWithSole [tg] e pos.line env = pure false := by intro _; rfl) (hw : ∀ env, swappedStores [tg] e env = pure none := by intro _; rfl)
    (h1 : ∀ env, (assignEach [tg] env).map (·.2) = [assign tg env] := by intro _; rfl) : JS S (.Assign [tg] e pos) (Γ s) m fun q => .nx (up q.1 (Γ q.2)) := fun σ W F sta y hy Ed k => by
  refine ⟨tAsg (tOf S e) (tgOf S tg), fun X hX => ps_asg (peO hX) (pgO hX) (hs _) (hw _) (h1 _), h.sh sta hy fun v W' F' stp sa r => ?_⟩
  refine hg _ σ W' F' y.1 v sa (hl _) r _ fun σ' F2 _ kp s' sub => ?_
  exact k σ' W' F2 kp (stp.perm sub) s'
theorem js_drop {m : Option (α × τ)} {R : α → OP} (h : JE S e Γ s m R) (hs : ∀ env, swapsWith e none pos.line env = pure false := by intro _; rfl) : JS S (.Expr e pos) (Γ s) m fun q => .nx (Γ q.2) := fun σ W F sta y hy Ed k => by
  refine ⟨tDrop (tOf S e), fun X hX => ps_expr (peO hX) (hs _), h σ W F sta y hy _ fun v W' F' Fv stp sa fp r => ?_⟩
  exact k σ W' F' Keep.refl (stp.perm fun a ha => List.mem_append_left _ ha) sa
theorem js_ifE {mc : Option (Bool × τ)} {ma mb : τ → Option ω} {D : ω → Kd} (hc : JTE S c Γ s mc) (ha : ∀ s1, JB S A (Γ s1) (ma s1) D) (hb : ∀ s1, JB S B (Γ s1) (mb s1) D) : JS S (.If c A B pos) (Γ s) (mc.bind fun p => bif p.1 then ma p.2 else mb p.2) D := fun σ W F sta z hz E k => by
  obtain ⟨x, h1, h2⟩ := run1 hz
  refine ⟨tIfS (ttOf S c) (tbOf S A) (tbOf S B), fun X hX => ps_if (ptO hX) (pbO hX) (pbO hX), ?_⟩
  refine hc σ W F sta x h1 _ fun W' F' stp sa => ?_
  obtain ⟨x1, x2⟩ := x
  cases x1 with
  | true => exact iteT (ha x2 σ W' F' sa z h2 _ (k.before Keep.refl stp))
  | false => exact iteF (hb x2 σ W' F' sa z h2 _ (k.before Keep.refl stp))
theorem jb_ifrE {mc : Option (Bool × τ)} {ma mr : τ → Option ω} {D : ω → Kd} (hc : JTE S c Γ s mc) (ha : ∀ s1, JB S A (Γ s1) (ma s1) D) (hn : ∀ x, NoNx (D x)) (hr : ∀ s1, JB S rest (Γ s1) (mr s1) D) : JB S (.If c A [] pos :: rest) (Γ s) (mc.bind fun p => bif p.1 then ma p.2 else mr p.2) D := fun σ W F sta z hz E k => by
  obtain ⟨x, h1, h2⟩ := run1 hz
  refine ⟨tSeq (tIfS (ttOf S c) (tbOf S A) tNext) (tbOf S rest), fun X hX => pss_cons (ps_if (ptO hX) (pbO hX) pss_nil) (pbO hX), ?_⟩
  refine hc σ W F sta x h1 _ fun W' F' stp sa => ?_
  obtain ⟨x1, x2⟩ := x
  cases x1 with
  | true => exact iteT (ha x2 σ W' F' sa z h2 _ (post_nox (k.before Keep.refl stp) (hn z)))
  | false => exact iteF (hr x2 σ W' F' sa z h2 E (k.before Keep.refl stp))
theorem jb_ifxE {mc : Option (Bool × τ)} {ma : τ → Option υ} {mr : τ → Option ω} {D : ω → Kd} {D' : υ → Kd} (ι : υ → ω) (hc : JTE S c Γ s mc) (ha : ∀ s1, JB S A (Γ s1) (ma s1) D') (hι : ∀ x, D (ι x) = D' x) (hn : ∀ x, NoNx (D' x)) (hr : ∀ s1, JB S rest (Γ s1) (mr s1) D) :
    JB S (.If c A [] pos :: rest) (Γ s) (mc.bind fun p => bif p.1 then (ma p.2).bind fun x => some (ι x) else mr p.2) D := fun σ W F sta z hz E k => by
  obtain ⟨x, h1, h2⟩ := run1 hz
  refine ⟨tSeq (tIfS (ttOf S c) (tbOf S A) tNext) (tbOf S rest), fun X hX => pss_cons (ps_if (ptO hX) (pbO hX) pss_nil) (pbO hX), ?_⟩
  refine hc σ W F sta x h1 _ fun W' F' stp sa => ?_
  obtain ⟨x1, x2⟩ := x
  cases x1 with
  | true =>
    obtain ⟨y, h3, h4⟩ := run1 h2
    cases h4
    refine iteT (ha x2 σ W' F' sa y h3 _ ?_)
    rw [hι] at k
    exact post_nox (k.before Keep.refl stp) (hn y)
  | false => exact iteF (hr x2 σ W' F' sa z h2 E (k.before Keep.refl stp))
theorem jb_retE {m : Option (α × τ)} {R : α → OP} {Δ : τ → Ctx} (w : ∀ s, Weak (Γ s) (Δ s)) (h : JE S e Γ s m R) : JB S (.Return (some e) pos :: rest) (Γ s) m fun q => .rt (Δ q.2) (R q.1) := fun σ W F sta x hx E k => by
  refine ⟨tSeq (tRet (tOf S e)) tNever, fun X hX => pss_cons (ps_ret (peO hX)) pss_never, h σ W F sta x hx _ fun v W' F' Fv stp sa fp r => ?_⟩
  obtain ⟨F2, s', sub⟩ := sa.weak (w x.2)
  have fpB : FpOk W' (F2 ++ Fv) := s'.fp.app fp.right fun a ha => fp.disj a (sub a ha)
  refine k v σ W' F2 Fv Keep.refl (stp.perm fun a ha => ?_) s' fpB r
  rcases List.mem_append.mp ha with h | h
  · exact List.mem_append_left _ (sub a h)
  · exact List.mem_append_right _ h
/-- found.append(e) -/
theorem js_appE {x : Str} {p0 apos cpos spos : Pos} {E : α → OP} {m : Option (α × τ)} (i : Nat) (get : τ → List α) (h : JE S e Γ s m E) (hi : ∀ s, (Γ s)[i]? = some (some (lstO E (get s))) := by intro _; rfl) (hN : S.N[i]? = some x := by rfl) (hv : Vis S.sc x := by first | exact Or.inl rfl | exact Or.inr (Or.inl rfl) | exact Or.inr (Or.inr rfl))
    (hd : (x == ("__debug__" : Str)) = false := by decide) (hcd : (x == ("__classdict__" : Str)) = false := by decide)
    (hbase : ∀ env, attributeBase (.Name x p0) "append" env (eval (.Name x p0) env) = eval (.Name x p0) env := by intro _; rfl)
    (hfew : ∀ env, ((backTo cpos (starEach [e] env)).all (fun x => !x.1) && (backToKw cpos (keywordEach [] env)).all (fun x => x.1.isSome) && decide ([e].length + ([] : List Keyword).length + (if ([] : List Keyword).isEmpty then 0 else 1) < 30)) = true := by intro _; rfl)
    (hline : (apos.endLine == cpos.line) = true := by rfl) (hs : ∀ env, starEach [e] env = (false, eval e env) :: starEach [] env := by intro _; rfl) (hsw : ∀ env, swapsWith (.Call (.Attribute (.Name x p0) "append" apos) [e] [] cpos) none spos.line env = pure false := by intro _; rfl) :
    JS S (.Expr (.Call (.Attribute (.Name x p0) "append" apos) [e] [] cpos) spos) (Γ s) (m.bind fun q => (appM (get q.2) q.1).bind fun ys => some (ys, q.2)) fun q => .nx ((Γ q.2).set i (some (lstO E q.1))) := fun σ W F sta z hz Ed k => by
  obtain ⟨q, h1, h2⟩ := run1 hz
  obtain ⟨ys, h3, h4⟩ := run1 (f := fun ys : List α => some (ys, q.2)) h2
  cases h4
  unfold appM at h3
  split at h3
  · rename_i hlen
    cases h3
    refine ⟨tDrop (tBM S.K "list" rAppend (tVar i) (tCons (tOf S e) tNil)), fun X hX => ps_expr (hX.K ▸ pe_bm PySem.F.plainAttrs_list PySem.F.slot_list_append PySem.F.type_list_append mt_append (pe_var (by rw [hX.N]; exact hN) (visS hv hX) hd hcd) (pa_cons (peO hX) pa_nil (hs _)) (hbase _) (hfew _) hline (hs _) rfl) (hsw _), ?_⟩
    obtain ⟨v, F1, F2, a1, a2, a3, a4⟩ := sta.hold.at (hi s)
    obtain ⟨p, vs, G2, rfl, b2, rfl, b4⟩ := id a2
    refine ⟨.ref p, a1, .inl ⟨rfl, vs, .inl (.inl b2)⟩, h σ W F sta q h1 _ fun u W1 Fa Fv stp1 sa1 fp1 r => ?_⟩
    obtain ⟨v', F1', F2', c1, c2, c3, c4⟩ := sa1.hold.at (hi q.2)
    have ev : v' = .ref p := by rw [a1] at c1; exact (Option.some.inj (Option.some.inj c1)).symm
    subst ev
    obtain ⟨p', vs', G2', e1, d2, rfl, d4⟩ := c2
    cases e1
    have hB : W1.B p = none := (sa1.fp.perm c3).fr p (by simp)
    have fpA : FpOk W1 ((p :: G2') ++ Fv) := by
      have q2 : FpOk W1 (((p :: G2') ++ F2') ++ Fv) := fp1.perm (List.Perm.append_right Fv c3)
      refine FpOk.left (F' := F2') (q2.perm ?_)
      rw [List.append_assoc, List.append_assoc]
      exact List.Perm.append_left _ List.perm_append_comm
    refine ⟨p, vs', u, rfl, rfl, d2, lim_lt (by rw [d4.len]; exact hlen), ?_⟩
    have nP : ∀ a ∈ G2' ++ Fv, a ≠ p := fun a ha z => (List.nodup_cons.mp fpA.nd).1 (z ▸ ha)
    have A3 : Owns E W1 (vs' ++ [u]) (get q.2 ++ [q.1]) (G2' ++ Fv) := d4.app ⟨Fv, [], (List.append_nil _).symm, r, rfl⟩
    have A4 : Owns E ⟨upd W1.H p (.lst (vs' ++ [u])), W1.B⟩ (vs' ++ [u]) (get q.2 ++ [q.1]) (G2' ++ Fv) := Owns.loc (W := W1) (W' := ⟨upd W1.H p (.lst (vs' ++ [u])), W1.B⟩) (fun _ _ h => h) A3 fun a ha => by
      show upd W1.H p (.lst (vs' ++ [u])) a = W1.H a
      exact upd_ne (nP a ha)
    obtain ⟨F', s', stp⟩ := sta_own (W' := ⟨upd W1.H p (.lst (vs' ++ [u])), W1.B⟩) (F1' := p :: (G2' ++ Fv)) (o' := lstO E (get q.2 ++ [q.1])) Fv sa1 fp1 c1 c3 c4 (wr_ok sa1.ok hB) rfl (fun a ha _ => upd_ne fun z => ha (z ▸ List.mem_cons_self)) wr_al
      ⟨fpA.nd, fun a ha => wr_al a (fpA.al a ha), fpA.fr⟩ (fun a ha => by
        rcases List.mem_cons.mp ha with z | z
        · exact .inl (z ▸ List.mem_cons_self)
        · rcases List.mem_append.mp z with z | z
          · exact .inl (List.mem_cons_of_mem _ z)
          · exact .inr (.inl z)) ⟨p, vs' ++ [u], G2' ++ Fv, rfl, upd_same, rfl, A4⟩
    exact k σ _ F' Keep.refl (stp1.trans stp) s'
  · cases h3
/-- range of a drawn number -/
theorem jie_rng1 {p : Pos} {m : Option (Int × τ)} (hm : S.mg "range" = none) (h : JE S a Γ s m fun x => sh (intS x)) (hg : GlS S "range" := by rfl) (hs : ∀ env, starEach [a] env = [(false, eval a env)] := by intro _; rfl) :
    JIE S tg (.Call (.Name "range" p) [a] [] pos) Γ s (m.bind fun q => (rng 0 q.1).bind fun xs => some (xs, q.2)) intS := fun σ W F sta z hz R k => by
  obtain ⟨q, h1, h2⟩ := run1 hz
  obtain ⟨xs, h3, h4⟩ := run1 (f := fun xs : List Int => some (xs, q.2)) h2
  cases h4
  unfold rng at h3
  split at h3
  · rename_i hb
    cases h3
    refine ⟨iRng1 (tCons (tOf S a) tNil), fun X hX => pi_range1 (hg.gl hX) (mgS hm hX) (pa_cons (peO hX) pa_nil (hs _)) (hs _), h.sh sta h1 fun v W' F' stp sa r => ?_⟩
    cases r
    have z : (LIM : Int) = 1000000 := rfl
    refine ⟨q.1, rfl, by omega, by omega, ?_⟩
    have e : (q.1 - 0).toNat = q.1.toNat := by rw [Int.sub_zero]
    rw [← e]
    exact k _ W' F' stp sa (ok_rng fun W1 c => c.1)
  · cases h3
/-- for over a walk that is drawn -/
theorem js_forE {mi : Option (List α × τ)} {E : α → SP} {up : α → Ctx → Ctx} {ws : List Nat} {Γl : τ → υ → Ctx} {T : ρ → Kd} {f : τ → α → υ → Option (Out υ ρ)} (s0 : τ → υ) (hi : JIE S tg iter Γ s mi E) (hg : JG S tg E up ws) (w : ∀ s, Weak (Γ s) (Γl s (s0 s))) (hl : ∀ t s, ∀ i ∈ ws, i < (Γl t s).length)
    (hT : ∀ r, NoNx (T r) ∧ (∀ Δ, T r ≠ .bk Δ) ∧ ∀ Δ, T r ≠ .ct Δ) (hb : ∀ t x s, JB S A (up x (Γl t s)) (f t x s) (DL (Γl t) T)) (hs : ∀ env x, foldedSetIterable iter env x = pure x := by intro _ _; rfl) (hcm : S.calm = true := by rfl) :
    JS S (.For tg iter A [] pos) (Γ s) (mi.bind fun q => (loopGo (f q.2) q.1 (s0 q.2)).bind fun o => some (q.2, o)) fun o => DF (Γl o.1) T o.2 := fun σ W F sta z hz Ed k => by
  obtain ⟨q, h1, h2⟩ := run1 hz
  obtain ⟨o, h3, h4⟩ := run1 (f := fun o : Out υ ρ => some (q.2, o)) h2
  cases h4
  refine ⟨tFor (tiOf S tg iter) (tgOf S tg) (tbOf S A), fun X hX => ps_for hX.pass (hX.calm.trans hcm) (piO hX) (pgO hX) (pbO hX) (hs _), ?_⟩
  refine hi σ W F sta q h1 _ fun J W' Fi stp0 sai iok => ?_
  obtain ⟨F0, sa0, sub0⟩ := sai.weak (w q.2)
  refine ⟨fun i m σ1 H => m = q.1.length - i ∧ i ≤ q.1.length ∧ ∃ (W1 : Wd) (F1 : List Addr) (s : υ), W1.H = H ∧ Keep S.prot σ σ1 ∧ Stp W' Fi W1 F1 ∧ Sta (Γl q.2 s) σ1 W1 F1 ∧ loopGo (f q.2) (q.1.drop i) s = some o,
    ⟨q.1.length, by simp, Nat.zero_le _, W', F0, s0 q.2, rfl, Keep.refl, (Stp.refl sai.ok).perm sub0, sa0, by simpa using h3⟩, ?_⟩
  rintro i m σ1 H ⟨rfl, hi', W1, F1, s, rfl, kp, stp, sa, go⟩
  obtain ⟨iok1, iok2⟩ := iok W1 ⟨sa.ok, stp.b⟩
  by_cases hlt : i < q.1.length
  · obtain ⟨g1, g2⟩ := iok1 i q.1[i] (List.getElem?_eq_getElem hlt)
    refine .inr ⟨g1, fun σ' H' => ∃ m', m' < q.1.length - i ∧ (m' = q.1.length - (i + 1) ∧ i + 1 ≤ q.1.length ∧ ∃ (W1 : Wd) (F1 : List Addr) (s : υ), W1.H = H' ∧ Keep S.prot σ σ' ∧ Stp W' Fi W1 F1 ∧ Sta (Γl q.2 s) σ' W1 F1 ∧ loopGo (f q.2) (q.1.drop (i + 1)) s = some o), fun σ' H' h => h, fun v H' y => ?_⟩
    obtain ⟨W2, rfl, e2, p2⟩ := g2 v H' y
    refine hg (Γl q.2 s) σ1 W2 F1 q.1[i] v (sa.ext e2) (hl _ s) p2 _ fun σ2 F2 _ kp2 sa2 sub2 => ?_
    rw [List.drop_eq_getElem_cons hlt] at go
    obtain ⟨oo, o1, o2⟩ := run1 (f := fun o : Out υ ρ => o.step fun s' => loopGo (f q.2) (q.1.drop (i + 1)) s') go
    have stpA : Stp W' Fi W2 F2 := (stp.trans e2.stp0).perm sub2
    refine hb q.2 q.1[i] s σ2 W2 F2 sa2 oo o1 _ ?_
    cases oo with
    | nx s' => exact fun σ3 W3 F3 k3 t3 a3 => ⟨q.1.length - (i + 1), by omega, rfl, hlt, W3, F3, s', rfl, (kp.trans kp2).trans k3, stpA.trans t3, a3, o2⟩
    | ct s' => exact fun σ3 W3 F3 k3 t3 a3 => ⟨q.1.length - (i + 1), by omega, rfl, hlt, W3, F3, s', rfl, (kp.trans kp2).trans k3, stpA.trans t3, a3, o2⟩
    | bk s' =>
      cases o2
      exact fun σ3 W3 F3 k3 t3 a3 => k σ3 W3 F3 ((kp.trans kp2).trans k3) (stp0.trans (stpA.trans t3)) a3
    | rt r =>
      cases o2
      obtain ⟨n1, n2, n3⟩ := hT r
      have k' : Post S.W S.prot σ W F Ed (T r) := k
      show Post S.W S.prot σ2 W2 F2 _ (T r)
      have k'' := k'.before (kp.trans kp2) (stp0.trans stpA)
      generalize hq : T r = qq at k'' n1
      cases qq with
      | nx Γ => exact n1.elim
      | bk Γ => exact absurd hq (n2 Γ)
      | ct Γ => exact absurd hq (n3 Γ)
      | rt Γ R => exact k''
      | xc Γ R => exact k''
  · have ei : i = q.1.length := by omega
    subst ei
    rw [List.drop_length] at go
    cases go
    exact .inl ⟨iok2 _ (Nat.le_refl _), k σ1 W1 F1 kp (stp0.trans stp) sa⟩
end
end CC
set_option maxHeartbeats 4000000
/-! Comprehensions whose items change what is owned; further operations. -/
namespace CC
open PySem PySem.Spec L2
open PyProof.Rows hiding St
variable {α β γ δ τ ω ρ υ : Type}
def compGoE (t : α → τ → Option (Bool × τ)) (f : α → τ → Option (β × τ)) : List α → τ → Option (List β × τ)
  | [], s => some ([], s)
  | x :: xs, s => (t x s).bind fun b => bif b.1 then (f x b.2).bind fun y => (compGoE t f xs y.2).bind fun r => some (y.1 :: r.1, r.2) else compGoE t f xs b.2
def compME (t : α → τ → Option (Bool × τ)) (f : α → τ → Option (β × τ)) (xs : List α) (s : τ) : Option (List β × τ) := if xs.length ≤ LIM then compGoE t f xs s else none
def mapGoE (f : α → τ → Option (β × τ)) : List α → τ → Option (List β × τ)
  | [], s => some ([], s)
  | x :: xs, s => (f x s).bind fun y => (mapGoE f xs y.2).bind fun r => some (y.1 :: r.1, r.2)
def mapME (f : α → τ → Option (β × τ)) (xs : List α) (s : τ) : Option (List β × τ) := if xs.length ≤ LIM then mapGoE f xs s else none
theorem compGoE_yes (f : α → τ → Option (β × τ)) : ∀ (xs : List α) (s : τ), compGoE (fun _ s => some (true, s)) f xs s = mapGoE f xs s
  | [], s => rfl
  | x :: xs, s => by
    show (f x s).bind (fun y => (compGoE (fun _ s => some (true, s)) f xs y.2).bind fun r => some (y.1 :: r.1, r.2)) = (f x s).bind fun y => (mapGoE f xs y.2).bind fun r => some (y.1 :: r.1, r.2)
    congr 1
    funext y
    rw [compGoE_yes f xs y.2]
theorem mapM_eq (f : α → Option β) (xs : List α) : compM (fun _ => some true) f xs = mapM f xs := by
  unfold compM mapM
  rw [compGo_yes]
theorem mapME_eq (f : α → τ → Option (β × τ)) (xs : List α) (s : τ) : compME (fun _ s => some (true, s)) f xs s = mapME f xs s := by
  unfold compME mapME
  rw [compGoE_yes]
theorem Holds.move {W : Wd} : ∀ {Γ Δ : Ctx} {σ σ2 : L2.St} {F : List Addr}, Γ.length = Δ.length → (∀ (i : Nat) (o : OP), Γ[i]? = some (some o) → Δ[i]? = some (some o) ∧ σ2[i]? = σ[i]?) → Holds Δ σ2 W F → ∃ F' G, Holds Γ σ W F' ∧ F.Perm (F' ++ G)
  | [], [], σ, σ2, F, _, _, h => ⟨[], F, rfl, .refl _⟩
  | [], _ :: _, _, _, _, h, _, _ => by simp at h
  | _ :: _, [], _, _, _, h, _, _ => by simp at h
  | g :: Γ, d :: Δ, σ, σ2, F, hl, hi, h => by
    have hi' : ∀ (i : Nat) (o : OP), Γ[i]? = some (some o) → Δ[i]? = some (some o) ∧ σ2.tail[i]? = σ.tail[i]? := fun i o e => by
      have q := hi (i + 1) o (by simpa using e)
      refine ⟨by simpa using q.1, ?_⟩
      rw [List.getElem?_tail, List.getElem?_tail]
      exact q.2
    have hl' : Γ.length = Δ.length := by simpa using hl
    cases g with
    | none =>
      cases d with
      | none => exact Holds.move (Γ := Γ) (Δ := Δ) (σ := σ.tail) (σ2 := σ2.tail) hl' hi' h
      | some o =>
        obtain ⟨v, F1, F2, h1, h2, h3, h4⟩ := h
        obtain ⟨F', G, a1, a2⟩ := Holds.move (Γ := Γ) (Δ := Δ) (σ := σ.tail) (σ2 := σ2.tail) hl' hi' h4
        subst h2
        refine ⟨F', G ++ F1, a1, ?_⟩
        rw [← List.append_assoc]
        exact (List.Perm.append_left F1 a2).trans List.perm_append_comm
    | some o =>
      obtain ⟨e1, e2⟩ := hi 0 o rfl
      have : d = some o := by simpa using e1
      subst this
      obtain ⟨v, F1, F2, h1, h2, h3, h4⟩ := h
      obtain ⟨F', G, a1, a2⟩ := Holds.move (Γ := Γ) (Δ := Δ) (σ := σ.tail) (σ2 := σ2.tail) hl' hi' h4
      subst h2
      refine ⟨F1 ++ F', G, ⟨v, F1, F', ?_, rfl, h3, a1⟩, ?_⟩
      · rw [List.head?_eq_getElem?] at h1 ⊢
        rw [← e2]
        exact h1
      · rw [List.append_assoc]
        exact List.Perm.append_left F1 a2
def JTsE (S : Stc) (ifs : List Expr) (Γ : τ → Ctx) (s : τ) (m : Option (Bool × τ)) : Prop :=
  ∀ σ W F, Sta (Γ s) σ W F → ∀ x, m = some x → ∀ Q : Bool → Hp → Prop, (∀ W' F', Stp W F W' F' → Sta (Γ x.2) σ W' F' → Q x.1 W'.H) → ttsOf S ifs σ W.H Q
def JCE (S : Stc) (elt tg iter : Expr) (ifs : List Expr) (scope : Scope) (Γ : τ → Ctx) (s : τ) (m : Option (α × τ)) (R : α → OP) : Prop :=
  ∃ own : List (Str × Nat), BlkOk S.N S.sc scope own ∧ ∀ σ W F, Sta (Γ s) σ W F → ∀ x, m = some x → ∀ Q : VK, (∀ v W' F' Fv, Stp W F W' (F' ++ Fv) → Sta (Γ x.2) σ W' F' → FpOk W' (F' ++ Fv) → (R x.1).C W' v Fv → Q v W'.H) →
    tLc (tiOf S tg iter) (tgOf (S.blk scope) tg) (ttsOf (S.blk scope) ifs) (tOf (S.blk scope) elt) (own.map (·.2)) σ W.H Q
section
variable {S : Stc} {Γ : τ → Ctx} {s : τ} {a b c e tg iter elt : Expr} {es ifs : List Expr} {pos : Pos} {st : Stmt} {rest A B : List Stmt}
theorem jtse_nil : JTsE S [] Γ s (some (true, s)) := fun σ W F sta b hb Q k => by
  cases hb
  exact ⟨tYes, fun _ _ => pts_nil, k W F (Stp.refl sta.ok) sta⟩
theorem jtse_one {m : Option (Bool × τ)} (h : JTE S c Γ s m) : JTsE S [c] Γ s m := fun σ W F sta b hb Q k => ⟨ttOf S c, fun X hX => pts_one (ptO hX), h σ W F sta b hb Q k⟩
theorem je_lc {scope : Scope} {m : Option (α × τ)} {R : α → OP} (nd : S.N.Nodup) (h : JCE S elt tg iter ifs scope Γ s m R) (hs : ∀ env x, foldedSetIterable iter env x = pure x := by intro _ _; rfl) (hcm : S.calm = true := by rfl) : JE S (.ListComp elt [⟨tg, iter, ifs, 0⟩] scope pos) Γ s m R := fun σ W F sta x hx Q k => by
  obtain ⟨own, ok, go⟩ := h
  exact ⟨_, fun X hX => pe_lc (hX.calm.trans hcm) (by rw [hX.N]; exact nd) (piO hX) (by rw [hX.N, hX.sc]; exact ok) (fun s H C cl fp => pgO (hX.blk scope s H C cl fp)) (fun s H C cl fp => ptsO (hX.blk scope s H C cl fp)) (fun s H C cl fp => peO (hX.blk scope s H C cl fp)) (hs _), go σ W F sta x hx Q k⟩
theorem js_setLcE {x : Str} {py spos : Pos} {scope : Scope} {m : Option (α × τ)} {R : α → OP} (i : Nat) (nd : S.N.Nodup) (h : JCE S elt tg iter ifs scope Γ s m R) (hi : ∀ s, ((Γ s)[i]?).isSome = true := by intro _; rfl) (hN : S.N[i]? = some x := by rfl) (hx : S.sc.names.lookup x = some .local := by rfl) (hp : (S.prot.contains i) = false := by rfl)
    (hk : S.sc.kind = .function := by rfl) (hl : (py.line == pos.line) = true := by rfl) (hown : (scope.names.any fun (n, k) => n == x && (k == .local || k == .cell)) = false := by decide +kernel) (hs : ∀ env x, foldedSetIterable iter env x = pure x := by intro _ _; rfl) (hcm : S.calm = true := by rfl) :
    JS S (.Assign [.Name x py] (.ListComp elt [⟨tg, iter, ifs, 0⟩] scope pos) spos) (Γ s) m fun q => .nx ((Γ q.2).set i (some (R q.1))) := fun σ W F sta y hy E k => by
  obtain ⟨own, ok, go⟩ := h
  refine ⟨_, fun X hX => ps_setLc (hX.calm.trans hcm) (by rw [hX.N]; exact nd) (by rw [hX.N]; exact hN) (by rw [hX.sc]; exact hx) (sw_true (by rw [hX.sc]; exact hk) (by rw [hX.sc]; exact hx) hl hown) (piO hX) (by rw [hX.N, hX.sc]; exact ok) (fun s H C cl fp => pgO (hX.blk scope s H C cl fp)) (fun s H C cl fp => ptsO (hX.blk scope s H C cl fp)) (fun s H C cl fp => peO (hX.blk scope s H C cl fp)) (hs _), go σ W F sta y hy _ fun v W' F' Fv stp sa fp r => ?_⟩
  have hl : i < (Γ y.2).length := by
    have := hi y.2
    cases h : (Γ y.2)[i]? with
    | none => rw [h] at this; cases this
    | some o => exact (List.getElem?_eq_some_iff.mp h).1
  obtain ⟨F2, s', sub⟩ := sa.put hl r fp
  exact k _ W' F2 (Keep.set (ncon hp)) (stp.perm sub) s'
theorem wipeC_get {Γ : Ctx} {i : Nat} : ∀ {vs : List Nat}, i ∉ vs → (wipeC Γ vs)[i]? = Γ[i]?
  | [], _ => rfl
  | v :: vs, h => by
    show ((wipeC Γ vs).set v none)[i]? = _
    rw [List.getElem?_set_ne fun z => h (by rw [z]; exact List.mem_cons_self), wipeC_get fun z => h (List.mem_cons_of_mem _ z)]
/-- the block's turns; the block's own slots hold nothing outside -/
theorem jce_of {scope : Scope} {mi : Option (List α × τ)} {E : α → SP} {up : α → Ctx → Ctx} {ws : List Nat} {mt : α → τ → Option (Bool × τ)} {me : α → τ → Option (β × τ)} {R : β → OP} (own : List (Str × Nat)) (hi : JIE S tg iter Γ s mi E) (ok : blkC S.N S.sc scope own = true) (hg : JG (S.blk scope) tg E up ws)
    (hw : ∀ i ∈ ws, i ∈ own.map (·.2)) (hl : ∀ s, ∀ i ∈ ws, i < (Γ s).length) (hu : ∀ x Γ i, i ∉ ws → (up x Γ)[i]? = Γ[i]?) (hul : ∀ x Γ, (up x Γ).length = Γ.length) (hz : ∀ s, ∀ i ∈ own.map (·.2), (Γ s)[i]? = some none)
    (ht : ∀ x s, JTsE (S.blk scope) ifs (fun s => up x (wipeC (Γ s) (own.map (·.2)))) s (mt x s)) (he : ∀ x s, JE (S.blk scope) elt (fun s => up x (wipeC (Γ s) (own.map (·.2)))) s (me x s) R) :
    JCE S elt tg iter ifs scope Γ s (mi.bind fun q => compME mt me q.1 q.2) fun ys => lstO R ys := by
  refine ⟨own, blkOk_by ok, fun σ W F sta ys hx Q k => ?_⟩
  obtain ⟨q0, h1, h2⟩ := run1 hx
  unfold compME at h2
  split at h2
  · rename_i hlen
    refine hi σ W F sta q0 h1 _ fun J W' Fi stp0 sai iok => fun D hD => ?_
    have back : ∀ {x : α} {s : τ} {σ2 : L2.St} {W1 : Wd} {F1 : List Addr}, (∀ i, i ∉ own.map (·.2) → σ2[i]? = σ[i]?) → Sta (up x (wipeC (Γ s) (own.map (·.2)))) σ2 W1 F1 → ∃ F', Sta (Γ s) σ W1 F' ∧ ∀ a ∈ F', a ∈ F1 := by
      intro x s σ2 W1 F1 hσ sa
      have hlen : (Γ s).length = (up x (wipeC (Γ s) (own.map (·.2)))).length := by rw [hul, wipeC_len]
      obtain ⟨F', G, a1, a2⟩ := sa.hold.move (Γ := Γ s) (σ := σ) hlen fun i o e => by
        have hn : i ∉ own.map (·.2) := fun z => by
          rw [hz s i z] at e
          cases e
        refine ⟨?_, hσ i hn⟩
        rw [hu x _ i fun z => hn (hw i z), wipeC_get hn]
        exact e
      refine ⟨F', ⟨sa.ok, (sa.fp.perm a2).left, ?_, a1⟩, fun a ha => a2.mem_iff.mpr (List.mem_append_left _ ha)⟩
      have l1 : σ.length = (Γ s).length := by
        have e1 := sai.len
        have e2 : (Γ q0.2).length = σ.length := e1.symm
        have e3 := sa.len
        -- all contexts have the slots' number
        rw [hul, wipeC_len] at e3
        have e4 : σ2.length = σ.length := by
          have i1 : ∀ i, i ∉ own.map (·.2) → σ2[i]? = σ[i]? := hσ
          refine Nat.le_antisymm ?_ ?_
          · refine Nat.le_of_not_lt fun h => ?_
            by_cases hm : σ.length ∈ own.map (·.2)
            · have := hz q0.2 _ hm
              rw [List.getElem?_eq_none (by omega)] at this
              cases this
            · have := i1 σ.length hm
              rw [List.getElem?_eq_getElem h, List.getElem?_eq_none (Nat.le_refl _)] at this
              cases this
          · refine Nat.le_of_not_lt fun h => ?_
            by_cases hm : σ2.length ∈ own.map (·.2)
            · have := hz s _ hm
              rw [List.getElem?_eq_none (by omega)] at this
              cases this
            · have := i1 σ2.length hm
              rw [List.getElem?_eq_getElem h, List.getElem?_eq_none (Nat.le_refl _)] at this
              cases this
        omega
      exact l1
    refine ⟨fun i m H => m = q0.1.length - i ∧ i ≤ q0.1.length ∧ ∃ (W1 : Wd) (Fs : List Addr) (s : τ) (acc : List V) (as : List β) (bs : List β × τ) (Fa : List Addr), W1.H = H ∧ Stp W F W1 (Fs ++ (D :: Fa)) ∧ Ex W'.B W1.B ∧ Sta (Γ s) σ W1 Fs ∧ W1.H D = some (.lst acc) ∧ as.length ≤ i ∧
      compGoE mt me (q0.1.drop i) s = some bs ∧ (as ++ bs.1, bs.2) = ys ∧ Owns R W1 acc as Fa ∧ FpOk W1 (Fs ++ (D :: Fa)),
      ⟨q0.1.length, by simp, Nat.zero_le _, ⟨upd W'.H D (.lst []), W'.B⟩, Fi, q0.2, [], [], ys, [], rfl, ?_, Ex.refl _, sai.ext (Ext.new sai.ok hD), upd_same, Nat.le_refl _, by simpa using h2, rfl, rfl, ?_⟩, ?_⟩
    · refine stp0.trans ((Ext.new (o := .lst []) sai.ok hD).stp fun a ha => ?_)
      rw [List.mem_singleton.mp ha]
      exact hD
    · exact sai.fp.fresh (Ext.new (o := .lst []) sai.ok hD) (fp_one (sai.ok.back hD)) fun a ha => by rw [List.mem_singleton.mp ha]; exact hD
    rintro i m H ⟨rfl, hi', W1, Fs, s1, acc, as, bs, Fa, rfl, stp1, eb1, sa1, d1, la, c1, c2, o1, f1⟩
    obtain ⟨iok1, iok2⟩ := iok W1 ⟨sa1.ok, eb1⟩
    by_cases hlt : i < q0.1.length
    · obtain ⟨g1, g2⟩ := iok1 i q0.1[i] (List.getElem?_eq_getElem hlt)
      refine .inr ⟨g1, fun H' => ∃ m', m' < q0.1.length - i ∧ (m' = q0.1.length - (i + 1) ∧ i + 1 ≤ q0.1.length ∧ ∃ (W1 : Wd) (Fs : List Addr) (s : τ) (acc : List V) (as : List β) (bs : List β × τ) (Fa : List Addr), W1.H = H' ∧ Stp W F W1 (Fs ++ (D :: Fa)) ∧ Ex W'.B W1.B ∧ Sta (Γ s) σ W1 Fs ∧ W1.H D = some (.lst acc) ∧ as.length ≤ i + 1 ∧
        compGoE mt me (q0.1.drop (i + 1)) s = some bs ∧ (as ++ bs.1, bs.2) = ys ∧ Owns R W1 acc as Fa ∧ FpOk W1 (Fs ++ (D :: Fa))), fun H' h => h, fun v H' y => ?_⟩
      obtain ⟨W2, rfl, e2, p2⟩ := g2 v H' y
      have hDrop : q0.1.drop i = q0.1[i] :: q0.1.drop (i + 1) := List.drop_eq_getElem_cons hlt
      rw [hDrop] at c1
      obtain ⟨b, t1, t2⟩ := run1 (f := fun b : Bool × τ => bif b.1 then (me q0.1[i] b.2).bind fun y => (compGoE mt me (q0.1.drop (i + 1)) y.2).bind fun r => some (y.1 :: r.1, r.2) else compGoE mt me (q0.1.drop (i + 1)) b.2) c1
      obtain ⟨Fw, sw, subw⟩ := (sa1.ext e2).wipe (own.map (·.2))
      refine hg _ _ W2 Fw q0.1[i] v sw (fun j hj => by rw [wipeC_len]; exact hl s1 j hj) p2 _ fun σ2 F2 wp _ s2 sub2 => ?_
      have hσ : ∀ i, i ∉ own.map (·.2) → σ2[i]? = σ[i]? := fun i hn => by
        have e := wp _ hw
        have e1 : (wipe σ2 (own.map (·.2)))[i]? = (wipe (wipe σ (own.map (·.2))) (own.map (·.2)))[i]? := by rw [e]
        rw [wipe_out hn, wipe_out hn, wipe_out hn] at e1
        exact e1
      refine ⟨by rw [wp _ hw]; exact jc_of.wipe_wipe σ (own.map (·.2)), ?_⟩
      have sub12 : ∀ a ∈ F2, a ∈ Fs := fun a ha => subw a (sub2 a ha)
      refine ht q0.1[i] s1 σ2 W2 F2 s2 b t1 _ fun W3 F3 stp3 sa3 => ?_
      -- what is owned beside the block stays
      have keep3 : ∀ a, a ∈ D :: Fa → W3.H a = W1.H a := fun a ha => by
        have n1 : a ∉ Fs := fun z => f1.disj a z ha
        have al := f1.al a (List.mem_append_right _ ha)
        have h2 := e2.h.eq al
        cases q : W2.H a with
        | none => rw [h2] at q; exact absurd q al
        | some o => rw [stp3.h a o q fun z => n1 (sub12 a z), ← q, h2]
      have fr3 : ∀ a, a ∈ D :: Fa → W3.B a = none := fun a ha => by
        have n1 : a ∉ Fs := fun z => f1.disj a z ha
        have al := f1.al a (List.mem_append_right _ ha)
        exact stp3.fr a (e2.h.ne al) (e2.fr a al (f1.fr a (List.mem_append_right _ ha))) fun z => n1 (sub12 a z)
      have al3 : ∀ a, a ∈ D :: Fa → W3.H a ≠ none := fun a ha => by rw [keep3 a ha]; exact f1.al a (List.mem_append_right _ ha)
      have stp13 : Stp W1 Fs W3 F3 := (((e2.stp0 (F := Fs)).perm sub12).trans stp3)
      have stpT : ∀ {W4 : Wd} {F4 G : List Addr}, Stp W1 Fs W4 (F4 ++ G) → Stp W1 (Fs ++ (D :: Fa)) W4 (F4 ++ ((D :: Fa) ++ G)) := fun {W4 F4 G} st => by
        refine ⟨st.ok, st.b, fun a o h n => st.h a o h fun z => n (List.mem_append_left _ z), st.al, fun a h1 h2 n => st.fr a h1 h2 fun z => n (List.mem_append_left _ z), fun a ha => ?_⟩
        rcases List.mem_append.mp ha with z | z
        · exact (st.fp a (List.mem_append_left _ z)).imp (fun w => List.mem_append_left _ w) id
        · rcases List.mem_append.mp z with z | z
          · exact .inl (List.mem_append_right _ z)
          · exact (st.fp a (List.mem_append_right _ z)).imp (fun w => List.mem_append_left _ w) id
      obtain ⟨b1, b2⟩ := b
      cases b1 with
      | true =>
        obtain ⟨y1, t3, t4⟩ := run1 (f := fun y : β × τ => (compGoE mt me (q0.1.drop (i + 1)) y.2).bind fun r => some (y.1 :: r.1, r.2)) t2
        obtain ⟨r1, t5, t6⟩ := run1 (f := fun r : List β × τ => some (y1.1 :: r.1, r.2)) t4
        cases t6
        refine iteT (he q0.1[i] b2 σ2 W3 F3 sa3 y1 t3 _ fun u W4 F4 Fu stp4 sa4 fp4 r4 => ?_)
        obtain ⟨F5, sa5, sub5⟩ := back hσ sa4
        have stp14 : Stp W1 Fs W4 (F4 ++ Fu) := stp13.trans stp4
        have keep4 : ∀ a, a ∈ D :: Fa → W4.H a = W1.H a := fun a ha => by
          have n1 : a ∉ Fs := fun z => f1.disj a z ha
          have al := f1.al a (List.mem_append_right _ ha)
          cases q : W1.H a with
          | none => exact absurd q al
          | some o => exact stp14.h a o q n1
        have fr4 : ∀ a, a ∈ D :: Fa → W4.B a = none := fun a ha => by
          have n1 : a ∉ Fs := fun z => f1.disj a z ha
          exact stp14.fr a (f1.al a (List.mem_append_right _ ha)) (f1.fr a (List.mem_append_right _ ha)) n1
        have hD4 : W4.H D = some (.lst acc) := (keep4 D List.mem_cons_self).trans d1
        have ha4 : acc.length < LIM := by
          have := o1.len
          omega
        have nd1 := List.nodup_cons.mp f1.right.nd
        have apart : ∀ a ∈ F4 ++ Fu, a ∉ D :: Fa := fun a ha z => by
          rcases stp14.fp a ha with w | w
          · exact f1.disj a w z
          · exact f1.al a (List.mem_append_right _ z) w
        have nD : ∀ a ∈ Fa ++ Fu, a ≠ D := fun a ha z => by
          rcases List.mem_append.mp ha with h | h
          · exact nd1.1 (z ▸ h)
          · exact apart a (List.mem_append_right _ h) (z ▸ List.mem_cons_self)
        have nD5 : ∀ a ∈ F5, a ≠ D := fun a ha z => apart a (List.mem_append_left _ (sub5 a ha)) (z ▸ List.mem_cons_self)
        have A1 : Owns R W4 acc as Fa := o1.loc stp14.b fun a ha => keep4 a (List.mem_cons_of_mem _ ha)
        have A3 : Owns R W4 (acc ++ [u]) (as ++ [y1.1]) (Fa ++ Fu) := A1.app ⟨Fu, [], (List.append_nil _).symm, r4, rfl⟩
        have fA : FpOk W4 (F5 ++ ((D :: Fa) ++ Fu)) := by
          have x1 : FpOk W4 (D :: Fa) := ⟨f1.right.nd, fun a ha => by rw [keep4 a ha]; exact f1.al a (List.mem_append_right _ ha), fr4⟩
          have x2 : FpOk W4 ((D :: Fa) ++ Fu) := x1.app fp4.right fun a ha z => apart a (List.mem_append_right _ z) ha
          refine sa5.fp.app x2 fun a ha z => ?_
          rcases List.mem_append.mp z with z | z
          · exact apart a (List.mem_append_left _ (sub5 a ha)) z
          · exact fp4.disj a (sub5 a ha) z
        have hBD : W4.B D = none := fr4 D List.mem_cons_self
        refine ⟨acc, hD4, lim_lt ha4, q0.1.length - (i + 1), by omega, rfl, hlt, ⟨upd W4.H D (.lst (acc ++ [u])), W4.B⟩, F5, y1.2, acc ++ [u], as ++ [y1.1], r1, Fa ++ Fu, rfl, ?_, eb1.trans stp14.b, ?_, upd_same, ?_, t5, ?_, ?_, ?_⟩
        · have z1 : Stp W F W4 (F4 ++ ((D :: Fa) ++ Fu)) := stp1.trans (stpT stp14)
          have z2 : Stp W F W4 (F5 ++ ((D :: Fa) ++ Fu)) := z1.perm fun a ha => by
            rcases List.mem_append.mp ha with h | h
            · exact List.mem_append_left _ (sub5 a h)
            · exact List.mem_append_right _ h
          refine z2.trans ⟨wr_ok sa5.ok hBD, Ex.refl _, fun a o h n => ?_, wr_al, fun a _ h2 _ => h2, fun a ha => .inl ha⟩
          show upd W4.H D _ a = some o
          rw [upd_ne fun z => n (by rw [z]; simp)]
          exact h
        · refine ⟨wr_ok sa5.ok hBD, ⟨sa5.fp.nd, fun a ha => wr_al a (sa5.fp.al a ha), sa5.fp.fr⟩, sa5.len, Holds.loc (W := W4) (W' := ⟨upd W4.H D (.lst (acc ++ [u])), W4.B⟩) (fun _ _ h => h) sa5.hold fun a ha => ?_⟩
          show upd W4.H D _ a = W4.H a
          exact upd_ne (nD5 a ha)
        · rw [List.length_append, List.length_singleton]
          omega
        · rw [← c2]
          simp
        · exact Owns.loc (W := W4) (W' := ⟨upd W4.H D (.lst (acc ++ [u])), W4.B⟩) (fun _ _ h => h) A3 fun a ha => by
            show upd W4.H D (.lst (acc ++ [u])) a = W4.H a
            exact upd_ne (nD a ha)
        · exact ⟨fA.nd, fun a ha => wr_al a (fA.al a ha), fA.fr⟩
      | false =>
        obtain ⟨F5, sa5, sub5⟩ := back hσ sa3
        have stp14 : Stp W1 Fs W3 (F3 ++ []) := by rw [List.append_nil]; exact stp13
        refine iteF ⟨q0.1.length - (i + 1), by omega, rfl, hlt, W3, F5, b2, acc, as, bs, Fa, rfl, ?_, eb1.trans stp13.b, sa5, (keep3 D List.mem_cons_self).trans d1, by omega, t2, c2, o1.loc stp13.b fun a ha => keep3 a (List.mem_cons_of_mem _ ha), ?_⟩
        · have z1 := stp1.trans (stpT stp14)
          rw [List.append_nil] at z1
          exact z1.perm fun a ha => by
            rcases List.mem_append.mp ha with h | h
            · exact List.mem_append_left _ (sub5 a h)
            · exact List.mem_append_right _ h
        · refine sa5.fp.app ⟨f1.right.nd, al3, fr3⟩ fun a ha z => ?_
          rcases stp13.fp a (sub5 a ha) with w | w
          · exact f1.disj a w z
          · exact f1.al a (List.mem_append_right _ z) w
    · have ei : i = q0.1.length := by omega
      subst ei
      rw [List.drop_length] at c1
      cases c1
      rw [List.append_nil] at c2
      subst c2
      exact .inl ⟨iok2 _ (Nat.le_refl _), k (.ref D) W1 Fs (D :: Fa) stp1 sa1 f1 ⟨D, acc, Fa, rfl, d1, rfl, o1⟩⟩
  · cases h2
/-- what a target changes -/
theorem up1 {E : α → SP} (i : Nat) : ∀ (x : α) (Γ : Ctx) (j : Nat), j ∉ [i] → (Γ.set i (some (sh (E x))))[j]? = Γ[j]? := fun x Γ j h => List.getElem?_set_ne fun z => h (by simp [z])
theorem up1l {E : α → SP} (i : Nat) : ∀ (x : α) (Γ : Ctx), (Γ.set i (some (sh (E x)))).length = Γ.length := fun x Γ => List.length_set
theorem up2 {E : α → SP} {G : β → SP} (i k : Nat) : ∀ (x : α × β) (Γ : Ctx) (j : Nat), j ∉ [i, k] → ((Γ.set i (some (sh (E x.1)))).set k (some (sh (G x.2))))[j]? = Γ[j]? := fun x Γ j h => by
  rw [List.getElem?_set_ne fun z => h (by simp [z]), List.getElem?_set_ne fun z => h (by simp [z])]
theorem up2l {E : α → SP} {G : β → SP} (i k : Nat) : ∀ (x : α × β) (Γ : Ctx), ((Γ.set i (some (sh (E x.1)))).set k (some (sh (G x.2)))).length = Γ.length := fun x Γ => by rw [List.length_set, List.length_set]
/-- without tests -/
theorem JC.cong {scope : Scope} {Γ : Ctx} {m m' : Option α} {R : α → OP} (h : JC S elt tg iter ifs scope Γ m R) (q : m = m') : JC S elt tg iter ifs scope Γ m' R := q ▸ h
theorem JCE.cong {scope : Scope} {m m' : Option (α × τ)} {R : α → OP} (h : JCE S elt tg iter ifs scope Γ s m R) (q : m = m') : JCE S elt tg iter ifs scope Γ s m' R := q ▸ h
theorem jc_map {scope : Scope} {Γ : Ctx} {mi : Option (List α)} {E : α → SP} {up : α → Ctx → Ctx} {ws : List Nat} {me : α → Option β} {R : β → OP} (own : List (Str × Nat)) (hi : JIc S tg iter Γ mi E) (ok : blkC S.N S.sc scope own = true) (hg : JG (S.blk scope) tg E up ws)
    (hw : ∀ i ∈ ws, i ∈ own.map (·.2)) (hl : ∀ i ∈ ws, i < Γ.length) (he : ∀ x, JN (S.blk scope) elt (up x (wipeC Γ (own.map (·.2)))) (me x) R) : JC S elt tg iter [] scope Γ (mi.bind fun xs => mapM me xs) fun ys => lstO R ys :=
  (jc_of own hi ok hg hw hl (fun _ => jts_nil) he).cong (by simp only [mapM_eq])
theorem jce_map {scope : Scope} {mi : Option (List α × τ)} {E : α → SP} {up : α → Ctx → Ctx} {ws : List Nat} {me : α → τ → Option (β × τ)} {R : β → OP} (own : List (Str × Nat)) (hi : JIE S tg iter Γ s mi E) (ok : blkC S.N S.sc scope own = true) (hg : JG (S.blk scope) tg E up ws)
    (hw : ∀ i ∈ ws, i ∈ own.map (·.2)) (hl : ∀ s, ∀ i ∈ ws, i < (Γ s).length) (hu : ∀ x Γ i, i ∉ ws → (up x Γ)[i]? = Γ[i]?) (hul : ∀ x Γ, (up x Γ).length = Γ.length) (hz : ∀ s, ∀ i ∈ own.map (·.2), (Γ s)[i]? = some none)
    (he : ∀ x s, JE (S.blk scope) elt (fun s => up x (wipeC (Γ s) (own.map (·.2)))) s (me x s) R) : JCE S elt tg iter [] scope Γ s (mi.bind fun q => mapME me q.1 q.2) fun ys => lstO R ys :=
  (jce_of own hi ok hg hw hl hu hul hz (fun _ _ => jtse_nil) he).cong (by simp only [mapME_eq])
end
end CC
set_option maxHeartbeats 4000000
/-! Further rules: keywords, moves, sorting, isinstance. -/
namespace CC
open PySem PySem.Spec L2
open PyProof.Rows hiding St
variable {α β γ δ τ ω ρ υ : Type}
/-! ### what is reckoned -/
def maskC : List Bool → Ctx → Ctx
  | b :: bs, e :: Γ => (if b then e else none) :: maskC bs Γ
  | _, Γ => Γ.map fun _ => none
theorem weak_none : ∀ Γ : Ctx, Weak Γ (Γ.map fun _ => none)
  | [] => .nil
  | _ :: Γ => .drop (weak_none Γ)
theorem weak_mask : ∀ (bs : List Bool) (Γ : Ctx), Weak Γ (maskC bs Γ)
  | [], [] => .nil
  | [], e :: Γ => .drop (weak_none Γ)
  | _ :: _, [] => .nil
  | true :: bs, e :: Γ => .same (weak_mask bs Γ)
  | false :: bs, e :: Γ => .drop (weak_mask bs Γ)
theorem all_lt {ws : List Nat} {Γ : Ctx} (h : (ws.all fun i => (Γ[i]?).isSome) = true) : ∀ i ∈ ws, i < Γ.length := fun i hi => by
  have := List.all_eq_true.mp h i hi
  cases q : Γ[i]? with
  | none => rw [q] at this; cases this
  | some o => exact (List.getElem?_eq_some_iff.mp q).1
def isNon : Option (Option OP) → Bool
  | some none => true
  | _ => false
theorem all_non {ws : List Nat} {Γ : Ctx} (h : (ws.all fun i => isNon Γ[i]?) = true) : ∀ i ∈ ws, Γ[i]? = some none := fun i hi => by
  have := List.all_eq_true.mp h i hi
  cases q : Γ[i]? with
  | none => rw [q] at this; cases this
  | some o =>
    rw [q] at this
    cases o with
    | none => rfl
    | some o => cases this
/-! ### sorting -/
def ins (le : α → α → Bool) (x : α) : List α → List α
  | [] => [x]
  | y :: ys => if le x y then x :: y :: ys else y :: ins le x ys
def isort (le : α → α → Bool) : List α → List α
  | [] => []
  | x :: xs => ins le x (isort le xs)
theorem ins_perm (le : α → α → Bool) (x : α) : ∀ ys : List α, (ins le x ys).Perm (x :: ys)
  | [] => .refl _
  | y :: ys => by
    show (if le x y then x :: y :: ys else y :: ins le x ys).Perm _
    split
    · exact .refl _
    · exact (List.Perm.cons y (ins_perm le x ys)).trans (.swap x y ys)
theorem isort_perm (le : α → α → Bool) : ∀ xs : List α, (isort le xs).Perm xs
  | [] => .refl _
  | x :: xs => (ins_perm le x _).trans (.cons x (isort_perm le xs))
theorem ins_srt {le : α → α → Bool} (tot : ∀ a b, le a b = true ∨ le b a = true) (tr : ∀ a b c, le a b = true → le b c = true → le a c = true) (x : α) : ∀ ys : List α, ys.Pairwise (fun a b => le a b = true) → (ins le x ys).Pairwise fun a b => le a b = true
  | [], _ => by simp [ins]
  | y :: ys, h => by
    obtain ⟨h1, h2⟩ := List.pairwise_cons.mp h
    show (if le x y then x :: y :: ys else y :: ins le x ys).Pairwise _
    split
    · rename_i hle
      refine List.pairwise_cons.mpr ⟨fun z hz => ?_, h⟩
      rcases List.mem_cons.mp hz with e | hz
      · rw [e]; exact hle
      · exact tr x y z hle (h1 z hz)
    · rename_i hle
      refine List.pairwise_cons.mpr ⟨fun z hz => ?_, ins_srt tot tr x ys h2⟩
      rcases List.mem_cons.mp ((ins_perm le x ys).mem_iff.mp hz) with e | hz
      · rw [e]; exact (tot x y).resolve_left hle
      · exact h1 z hz
theorem isort_srt {le : α → α → Bool} (tot : ∀ a b, le a b = true ∨ le b a = true) (tr : ∀ a b c, le a b = true → le b c = true → le a c = true) : ∀ xs : List α, (isort le xs).Pairwise fun a b => le a b = true
  | [] => .nil
  | x :: xs => ins_srt tot tr x _ (isort_srt tot tr xs)
/-- two sorted lists of the same things are one -/
theorem srt_uniq {le : α → α → Bool} (an : ∀ a b, le a b = true → le b a = true → a = b) : ∀ {xs ys : List α}, xs.Pairwise (fun a b => le a b = true) → ys.Pairwise (fun a b => le a b = true) → xs.Perm ys → xs = ys
  | [], ys, _, _, p => (List.Perm.nil_eq p)
  | x :: xs, [], _, _, p => by have := p.length_eq; simp at this
  | x :: xs, y :: ys, h, k, p => by
    obtain ⟨h1, h2⟩ := List.pairwise_cons.mp h
    obtain ⟨k1, k2⟩ := List.pairwise_cons.mp k
    have e : x = y := by
      rcases List.mem_cons.mp (p.mem_iff.mp List.mem_cons_self) with e | m1
      · exact e
      rcases List.mem_cons.mp (p.mem_iff.mpr List.mem_cons_self) with e | m2
      · exact e.symm
      exact an x y (h1 y m2) (k1 x m1)
    subst e
    rw [srt_uniq an h2 k2 (List.Perm.cons_inv p)]
def leI (a b : Int) : Bool := decide (a ≤ b)
def leP (a b : Int × Int) : Bool := decide (a.1 < b.1) || (decide (a.1 = b.1) && decide (a.2 ≤ b.2))
theorem leP_iff {a b : Int × Int} : leP a b = true ↔ a.1 < b.1 ∨ (a.1 = b.1 ∧ a.2 ≤ b.2) := by
  unfold leP
  simp
theorem leP_tot (a b : Int × Int) : leP a b = true ∨ leP b a = true := by rw [leP_iff, leP_iff]; omega
theorem leP_tr (a b c : Int × Int) (h : leP a b = true) (k : leP b c = true) : leP a c = true := by rw [leP_iff] at *; omega
theorem leP_an (a b : Int × Int) (h : leP a b = true) (k : leP b a = true) : a = b := by
  rw [leP_iff] at *
  obtain ⟨a1, a2⟩ := a
  obtain ⟨b1, b2⟩ := b
  simp only at h k
  have e1 : a1 = b1 := by omega
  have e2 : a2 = b2 := by omega
  rw [e1, e2]
theorem leI_tot (a b : Int) : leI a b = true ∨ leI b a = true := by unfold leI; simp; omega
theorem leI_tr (a b c : Int) (h : leI a b = true) (k : leI b c = true) : leI a c = true := by unfold leI at *; simp at *; omega
theorem leI_an (a b : Int) (h : leI a b = true) (k : leI b a = true) : a = b := by unfold leI at *; simp at *; omega
def sortP (xs : List (Int × Int)) : List (Int × Int) := isort leP xs
def sortI (xs : List Int) : List Int := isort leI xs
section
variable {S : Stc} {Γ Δ : Ctx} {a b c e tg iter elt : Expr} {es ifs : List Expr} {pos : Pos} {st : Stmt} {rest A B : List Stmt}
/-- an owned slot is handed back, or moved -/
theorem sta_take {σ : L2.St} {W : Wd} {F : List Addr} {i : Nat} {o : OP} (sta : Sta Γ σ W F) (hi : Γ[i]? = some (some o)) : ∃ v F1 F2, σ[i]? = some (some v) ∧ o.C W v F1 ∧ F.Perm (F2 ++ F1) ∧ Sta (Γ.set i none) σ W F2 := by
  have go : ∀ {Γ : Ctx} {σ : L2.St} {F : List Addr} {i : Nat}, Holds Γ σ W F → Γ[i]? = some (some o) → ∃ v F1 F2, σ[i]? = some (some v) ∧ o.C W v F1 ∧ F.Perm (F2 ++ F1) ∧ Holds (Γ.set i none) σ W F2 := by
    intro Γ
    induction Γ with
    | nil => intro σ F i h e; simp at e
    | cons g Γ ih =>
      intro σ F i h e
      cases i with
      | zero =>
        have : g = some o := by simpa using e
        subst this
        obtain ⟨v, F1, F2, h1, h2, h3, h4⟩ := h
        refine ⟨v, F1, F2, ?_, h3, by subst h2; exact List.perm_append_comm, h4⟩
        rw [← List.head?_eq_getElem?]
        exact h1
      | succ i =>
        cases g with
        | none =>
          obtain ⟨v, F1, F2, a1, a2, a3, a4⟩ := ih (σ := σ.tail) (i := i) h (by simpa using e)
          rw [List.getElem?_tail] at a1
          exact ⟨v, F1, F2, a1, a2, a3, a4⟩
        | some p =>
          obtain ⟨u, G1, G2, h1, h2, h3, h4⟩ := h
          obtain ⟨v, F1, F2, a1, a2, a3, a4⟩ := ih (σ := σ.tail) (i := i) h4 (by simpa using e)
          rw [List.getElem?_tail] at a1
          subst h2
          refine ⟨v, F1, G1 ++ F2, a1, a2, ?_, u, G1, F2, h1, rfl, h3, a4⟩
          rw [List.append_assoc]
          exact List.Perm.append_left G1 a3
  obtain ⟨v, F1, F2, a1, a2, a3, a4⟩ := go sta.hold hi
  exact ⟨v, F1, F2, a1, a2, a3, sta.ok, (sta.fp.perm a3).left, by rw [List.length_set]; exact sta.len, a4⟩
theorem jb_retO {x : Str} {p0 : Pos} {R : α → OP} {a : α} (i : Nat) (w : Weak (Γ.set i none) Δ) (hi : Γ[i]? = some (some (R a)) := by rfl) (hN : S.N[i]? = some x := by rfl) (hv : Vis S.sc x := by first | exact Or.inl rfl | exact Or.inr (Or.inl rfl) | exact Or.inr (Or.inr rfl))
    (hd : (x == ("__debug__" : Str)) = false := by decide) (hcd : (x == ("__classdict__" : Str)) = false := by decide) : JB S (.Return (some (.Name x p0)) pos :: rest) Γ (some a) fun r => .rt Δ (R r) := fun σ W F sta y hy E k => by
  cases hy
  obtain ⟨v, F1, F2, h1, h2, h3, h4⟩ := sta_take sta hi
  obtain ⟨F', s', sub⟩ := h4.weak w
  have fp := sta.fp.perm h3
  refine ⟨tSeq (tRet (tVar i)) tNever, fun X hX => pss_cons (ps_ret (pe_var (by rw [hX.N]; exact hN) (visS hv hX) hd hcd)) pss_never, v, h1, ?_⟩
  refine k v σ W F' F1 Keep.refl ((Stp.refl sta.ok).perm fun a ha => ?_) s' (s'.fp.app fp.right fun a ha => fp.disj a (sub a ha)) h2
  rcases List.mem_append.mp ha with h | h
  · exact h3.mem_iff.mpr (List.mem_append_left _ (sub a h))
  · exact h3.mem_iff.mpr (List.mem_append_right _ h)
/-- the same beside a state -/
theorem jb_retOS {x : Str} {p0 : Pos} {R : α → OP} {a : α} {s : τ} {Δ : τ → Ctx} (i : Nat) (w : Weak (Γ.set i none) (Δ s)) (hi : Γ[i]? = some (some (R a)) := by rfl) (hN : S.N[i]? = some x := by rfl) (hv : Vis S.sc x := by first | exact Or.inl rfl | exact Or.inr (Or.inl rfl) | exact Or.inr (Or.inr rfl))
    (hd : (x == ("__debug__" : Str)) = false := by decide) (hcd : (x == ("__classdict__" : Str)) = false := by decide) : JB S (.Return (some (.Name x p0)) pos :: rest) Γ (some (a, s)) fun q => .rt (Δ q.2) (R q.1) := fun σ W F sta y hy E k => by
  cases hy
  obtain ⟨v, F1, F2, h1, h2, h3, h4⟩ := sta_take sta hi
  obtain ⟨F', s', sub⟩ := h4.weak w
  have fp := sta.fp.perm h3
  refine ⟨tSeq (tRet (tVar i)) tNever, fun X hX => pss_cons (ps_ret (pe_var (by rw [hX.N]; exact hN) (visS hv hX) hd hcd)) pss_never, v, h1, ?_⟩
  refine k v σ W F' F1 Keep.refl ((Stp.refl sta.ok).perm fun a ha => ?_) s' (s'.fp.app fp.right fun a ha => fp.disj a (sub a ha)) h2
  rcases List.mem_append.mp ha with h | h
  · exact h3.mem_iff.mpr (List.mem_append_left _ (sub a h))
  · exact h3.mem_iff.mpr (List.mem_append_right _ h)
/-- a pure expression handed back beside a state -/
theorem jb_retS {m : Option α} {s : τ} {R : α → OP} {Δ : τ → Ctx} (w : Weak Γ (Δ s)) (h : JN S e Γ m R) : JB S (.Return (some e) pos :: rest) Γ (m.bind fun x => some (x, s)) fun q => .rt (Δ q.2) (R q.1) := fun σ W F sta z hz E k => by
  obtain ⟨x, h1, h2⟩ := run1 hz
  cases h2
  exact jb_ret (rest := rest) (pos := pos) w h σ W F sta x h1 E k
/-- y = x, what x owned is y's now -/
theorem js_move {x y : Str} {p0 p1 : Pos} {o : OP} (i j : Nat) (nd : S.N.Nodup) (hj : Γ[j]? = some (some o) := by rfl) (hi : (Γ[i]?).isSome = true := by rfl) (hNj : S.N[j]? = some y := by rfl) (hN : S.N[i]? = some x := by rfl) (hv : Vis S.sc y := by first | exact Or.inl rfl | exact Or.inr (Or.inl rfl) | exact Or.inr (Or.inr rfl)) (hx : Loc S.sc x := by first | exact Or.inl rfl | exact Or.inr rfl)
    (hp : (S.prot.contains i) = false := by rfl) (hd : (y == ("__debug__" : Str)) = false := by decide) (hcd : (y == ("__classdict__" : Str)) = false := by decide) (hs : ∀ env, swapsWith (.Name y p1) (some (.Name x p0)) pos.line env = pure false := by intro _; rfl) (hf : S.fn x = true ∨ S.sc.names.lookup x = some .local := by first | exact .inl rfl | exact .inr rfl) :
    JS S (.Assign [.Name x p0] (.Name y p1) pos) Γ (some ()) fun _ => .nx ((Γ.set j none).set i (some o)) := fun σ W F sta z hz E k => by
  obtain ⟨v, F1, F2, h1, h2, h3, h4⟩ := sta_take sta hj
  have hl : i < (Γ.set j none).length := by
    rw [List.length_set]
    cases h : Γ[i]? with
    | none => rw [h] at hi; cases hi
    | some o => exact (List.getElem?_eq_some_iff.mp h).1
  obtain ⟨F', s', sub⟩ := h4.put hl h2 (sta.fp.perm h3)
  refine ⟨tAsg (tVar j) (gName i), fun X hX => ps_set (by rw [hX.N]; exact nd) (by rw [hX.N]; exact hN) (locS hx hX) (pe_var (by rw [hX.N]; exact hNj) (visS hv hX) hd hcd) (hs _) (by rw [hX.fn, hX.sc]; exact hf), v, h1, ?_⟩
  exact k _ W F' (Keep.set fun z => by rw [List.contains_iff_mem.mpr z] at hp; cases hp) ((Stp.refl sta.ok).perm fun a ha => h3.mem_iff.mpr (sub a ha)) s'
/-! ### xs[::-1], xs + ys -/
theorem jn_revL {E : α → SP} {m : Option (List α)} {k : Nat} {p1 p2 p3 : Pos} (h : JR S a Γ m (lstO fun x => sh (E x))) : JN S (.Subscript a (.Slice none none (some (.UnaryOp .USub (.Constant (.int 1) k p1) p2)) p3) pos) Γ (m.bind fun xs => some xs.reverse) (lstO fun x => sh (E x)) := fun σ W F sta z hz Q kq => by
  obtain ⟨x, h1, h2⟩ := run1 hz
  cases h2
  refine ⟨tRevL S.K (tOf S a), fun X hX => hX.K ▸ pe_revL (peO hX), h σ W F sta x h1 _ fun v W' ext ⟨F1, r, al⟩ => ?_⟩
  obtain ⟨p, vs, F2, rfl, q2, rfl, q3⟩ := r
  obtain ⟨_, q4⟩ := q3.each
  exact ⟨p, vs, rfl, .inl (.inl q2), (kq.ext ext).newL ext.ok q4.rev⟩
theorem jn_revS {E : α → SP} {m : Option (List α)} {k : Nat} {p1 p2 p3 : Pos} (h : JN S a Γ m fun x => sh (lstS E x)) : JN S (.Subscript a (.Slice none none (some (.UnaryOp .USub (.Constant (.int 1) k p1) p2)) p3) pos) Γ (m.bind fun xs => some xs.reverse) (lstO fun x => sh (E x)) := fun σ W F sta z hz Q kq => by
  obtain ⟨x, h1, h2⟩ := run1 hz
  cases h2
  refine ⟨tRevL S.K (tOf S a), fun X hX => hX.K ▸ pe_revL (peO hX), h σ W F sta x h1 _ fun v W' Fv ext _ _ r => ?_⟩
  obtain ⟨_, p, vs, rfl, q2, q3⟩ := r
  exact ⟨p, vs, rfl, .inl (.inl (ext.ok p _ q2)), (kq.ext ext).newL ext.ok q3.rev⟩
def catM (xs ys : List α) : Option (List α) := if xs.length + ys.length ≤ LIM then some (xs ++ ys) else none
theorem ov_cat {E : α → SP} : OpV rCat (lstS E) (lstS E) catM (lstO fun x => sh (E x)) := fun W x y v u z ok hx hy e Q k => by
  unfold catM at e
  split at e
  · rename_i hl
    cases e
    obtain ⟨a, vs, rfl, a2, a3⟩ := hx
    obtain ⟨b, us, rfl, b2, b3⟩ := hy
    exact ⟨a, b, vs, us, rfl, rfl, ok a _ a2, ok b _ b2, lim_le (by rw [a3.len, b3.len]; exact hl), k.newL ok (a3.app b3)⟩
  · cases e
theorem oCat : ∀ X, S.In X → OpR X (binaryOp .Add) rCat := fun _ _ => op_cat
/-! ### isinstance -/
class HasTy (E : α → SP) (n : outParam String) : Prop where
  ty : ∀ K x B H v, Ex B H → (E x).P B v → TyX K H v (.type n)
instance : HasTy intS "int" := ⟨fun K x B H v _ h => by cases h; exact .base (.int x)⟩
instance : HasTy boolS "bool" := ⟨fun K x B H v _ h => by cases h; exact .base (.bl x)⟩
instance : HasTy strS "str" := ⟨fun K x B H v _ h => by cases h; exact .base (.str x)⟩
instance : HasTy (fun _ : Unit => nonS) "NoneType" := ⟨fun K x B H v _ h => by cases h; exact .base .non⟩
instance {E : α → SP} : HasTy (lstS E) "list" := ⟨fun K x B H v e h => by obtain ⟨a, vs, rfl, h2, _⟩ := h; exact .base (.lst (e a _ h2))⟩
instance {E : α → SP} : HasTy (tupS E) "tuple" := ⟨fun K x B H v e h => by obtain ⟨a, vs, rfl, h2, _⟩ := h; exact .base (.tup (e a _ h2))⟩
instance {E : α → SP} {G : β → SP} : HasTy (prS E G) "tuple" := ⟨fun K x B H v e h => by obtain ⟨a, vs, rfl, h2, _⟩ := h; exact .base (.tup (e a _ h2))⟩
theorem jn_ty {x : Str} {n : String} (hm : S.mg x = none) (hg : GlS S x := by rfl) (hv : bootBuiltins x = some (.type n) := by decide +kernel) (hn : x ≠ "__name__" := by decide) (hdb : (x == ("__debug__" : Str)) = false := by decide) : JN S (.Name x pos) Γ (some ()) fun _ => sh (valS (.ty n)) :=
  jn_c (E := fun _ : Unit => valS (.ty n)) (fun X hX => pe_bltn (v := .ty n) (hg.gl hX) (mgS hm hX) hv rfl hn hdb) fun _ => rfl
theorem jn_isi {p pc : Pos} {c : Str} {E : α → SP} {n cn : String} [ht : HasTy E n] {m : Option α} (bb : Bool) (hm : S.mg "isinstance" = none) (hmc : S.mg c = none) (h : JN S a Γ m fun x => sh (E x)) (hk : kitB n cn = some bb := by decide +kernel) (hg : GlS S "isinstance" := by rfl) (hgc : GlS S c := by rfl) (hvc : bootBuiltins c = some (.type cn) := by decide +kernel) (hn : c ≠ "__name__" := by decide) (hdb : (c == ("__debug__" : Str)) = false := by decide)
    (hs : ∀ env, starEach [a, .Name c pc] env = [(false, eval a env), (false, eval (.Name c pc) env)] := by intro _; rfl) (hs2 : ∀ env, starEach [Expr.Name c pc] env = [(false, eval (.Name c pc) env)] := by intro _; rfl) : JN S (.Call (.Name "isinstance" p) [a, .Name c pc] [] pos) Γ (m.bind fun _ => some bb) fun z => sh (boolS z) := fun σ W F sta z hz Q kq => by
  obtain ⟨x, h1, h2⟩ := run1 hz
  cases h2
  refine ⟨tCB (rIsi S.K) (tCons (tOf S a) (tCons (tC (.ty cn)) tNil)), fun X hX => pe_callB (hX.K ▸ call_isi) (hg.gl hX) (mgS hm hX) (by decide +kernel) (pa_cons (peO hX) (pa_cons (pe_bltn (v := .ty cn) (hgc.gl hX) (mgS hmc hX) hvc rfl hn hdb) pa_nil (hs2 _)) ((hs _).trans (by rw [hs2]))) (by decide) (by decide) ((hs _).trans (by rw [hs2])) (by rw [hs2]; rfl), h σ W F sta x h1 _ fun v W' Fv ext _ _ r => ?_⟩
  exact ⟨v, .ty cn, .type n, .type cn, bb, rfl, .ty cn, ht.ty S.K x W'.B W'.H v ext.ok r.2, kit_ty hk, (kq.ext ext).val ext.ok rfl⟩
/-! ### all, any, sorted -/
theorem each_bl {B : Hp} : ∀ {vs : List V} {xs : List Bool}, Each boolS B vs xs → vs = xs.map V.bl
  | [], [], _ => rfl
  | v :: vs, x :: xs, h => by
    have e : v = .bl x := h.1
    rw [e, each_bl h.2]
    rfl
  | [], _ :: _, h => h.elim
  | _ :: _, [], h => h.elim
theorem each_int {B : Hp} : ∀ {vs : List V} {xs : List Int}, Each intS B vs xs → vs = xs.map V.int
  | [], [], _ => rfl
  | v :: vs, x :: xs, h => by
    have e : v = .int x := h.1
    rw [e, each_int h.2]
    rfl
  | [], _ :: _, h => h.elim
  | _ :: _, [], h => h.elim
theorem each_of_int {B : Hp} : ∀ xs : List Int, Each intS B (xs.map V.int) xs
  | [] => trivial
  | x :: xs => ⟨rfl, each_of_int xs⟩
theorem all_lst {m : Option (List Bool)} {p : Pos} (hm : S.mg "all" = none) (h : JN S a Γ m fun x => sh (lstS boolS x)) (hg : GlS S "all" := by rfl) (hs : ∀ env, starEach [a] env = [(false, eval a env)] := by intro _; rfl) (hcm : S.calm = true := by rfl) : JN S (.Call (.Name "all" p) [a] [] pos) Γ (m.bind fun xs => some (xs.all id)) fun z => sh (boolS z) :=
  jn_b1 (f := fun xs : List Bool => some (xs.all id)) (fun X hX => hX.K ▸ cr_all (hX.calm.trans hcm)) (fun W x v z ok hh e Q k => by
    cases e
    obtain ⟨a, vs, rfl, h2, h3⟩ := hh
    rw [each_bl h3] at h2
    exact ⟨a, x, rfl, .inl (.inl (ok a _ h2)), k.val ok rfl⟩) hm h hg (by decide +kernel) (by decide) (by decide) hs
theorem any_lst {m : Option (List Bool)} {p : Pos} (hm : S.mg "any" = none) (h : JN S a Γ m fun x => sh (lstS boolS x)) (hg : GlS S "any" := by rfl) (hs : ∀ env, starEach [a] env = [(false, eval a env)] := by intro _; rfl) (hcm : S.calm = true := by rfl) : JN S (.Call (.Name "any" p) [a] [] pos) Γ (m.bind fun xs => some (xs.any id)) fun z => sh (boolS z) :=
  jn_b1 (f := fun xs : List Bool => some (xs.any id)) (fun X hX => hX.K ▸ cr_any (hX.calm.trans hcm)) (fun W x v z ok hh e Q k => by
    cases e
    obtain ⟨a, vs, rfl, h2, h3⟩ := hh
    rw [each_bl h3] at h2
    exact ⟨a, x, rfl, .inl (.inl (ok a _ h2)), k.val ok rfl⟩) hm h hg (by decide +kernel) (by decide) (by decide) hs
theorem each_mem {E : α → SP} {B : Hp} : ∀ {vs : List V} {xs : List α} {v : V}, Each E B vs xs → v ∈ vs → ∃ x, x ∈ xs ∧ (E x).P B v
  | [], [], v, _, h => by simp at h
  | u :: vs, x :: xs, v, h, hv => by
    rcases List.mem_cons.mp hv with e | hv
    · rw [e]; exact ⟨x, List.mem_cons_self, h.1⟩
    · obtain ⟨y, h1, h2⟩ := each_mem h.2 hv
      exact ⟨y, List.mem_cons_of_mem _ h1, h2⟩
  | [], _ :: _, _, h, _ => h.elim
  | _ :: _, [], _, h, _ => h.elim
theorem pr_tup {B : Hp} {p : Int × Int} {v : V} (h : (prS intS intS p).P B v) : ∃ t, v = .ref t ∧ B t = some (.tup [.int p.1, .int p.2]) := by
  obtain ⟨t, vs, rfl, h2, h3⟩ := h
  obtain ⟨v, u, rfl, h4, h5⟩ := hets2 h3
  cases h4
  cases h5
  exact ⟨t, rfl, h2⟩
theorem tup_pr {B : Hp} {p : Int × Int} {t : Addr} (h : B t = some (.tup [.int p.1, .int p.2])) : (prS intS intS p).P B (.ref t) := ⟨t, _, rfl, h, rfl, rfl, trivial⟩
open Classical in
/-- sorted of a list of pairs of whole numbers -/
theorem sorted_prs {m : Option (List (Int × Int))} {p : Pos} (hm : S.mg "sorted" = none) (h : JN S a Γ m fun x => sh (lstS (prS intS intS) x)) (hg : GlS S "sorted" := by rfl) (hs : ∀ env, starEach [a] env = [(false, eval a env)] := by intro _; rfl) : JN S (.Call (.Name "sorted" p) [a] [] pos) Γ (m.bind fun xs => some (sortP xs)) (lstO fun x => sh (prS intS intS x)) :=
  jn_b1 (f := fun xs : List (Int × Int) => some (sortP xs)) (fun X hX => hX.K ▸ cr_sortedPO) (fun W x v z ok hh e Q k => by
    cases e
    obtain ⟨a, vs, rfl, h2, h3⟩ := hh
    -- the pair behind a value
    let kk : V → Int × Int := fun u => if h : ∃ q : Int × Int, (prS intS intS q).P W.B u then h.choose else (0, 0)
    have kspec : ∀ (q : Int × Int) (u : V), (prS intS intS q).P W.B u → kk u = q := fun q u hu => by
      have hex : ∃ q : Int × Int, (prS intS intS q).P W.B u := ⟨q, hu⟩
      have e1 : kk u = hex.choose := dif_pos hex
      have e2 := hex.choose_spec
      rw [← e1] at e2
      obtain ⟨t, rfl, b1⟩ := pr_tup hu
      obtain ⟨t', e3, b2⟩ := pr_tup e2
      cases e3
      rw [b1] at b2
      injection b2 with b2
      injection b2 with b2
      injection b2 with c1 c2
      injection c2 with c2 _
      injection c1 with c1
      injection c2 with c2
      exact Prod.ext c1.symm c2.symm
    refine ⟨a, vs, kk, rfl, .inl (.inl (ok a _ h2)), fun u hu => ?_, fun ys p srt stb np => ?_⟩
    · obtain ⟨q, _, hq⟩ := each_mem h3 hu
      obtain ⟨t, rfl, b1⟩ := pr_tup hq
      rw [kspec q _ hq]
      exact ⟨t, rfl, ok t _ b1⟩
    · have perm : ys.Perm vs := SrtO.Stb.perm stb
      have hmap : vs.map kk = x := by
        clear stb perm h2 k srt np
        induction vs generalizing x with
        | nil => cases x with
          | nil => rfl
          | cons _ _ => exact h3.elim
        | cons u vs ih => cases x with
          | nil => exact h3.elim
          | cons q x => rw [List.map_cons, kspec q u h3.1, ih _ h3.2]
      have hys : ∀ u ∈ ys, (prS intS intS (kk u)).P W.B u := fun u hu => by
        obtain ⟨q, _, hq⟩ := each_mem h3 (perm.mem_iff.mp hu)
        rw [kspec q u hq]
        exact hq
      have hE : Each (prS intS intS) W.B ys (ys.map kk) := by
        clear stb perm srt
        induction ys with
        | nil => trivial
        | cons u ys ih => exact ⟨hys u List.mem_cons_self, ih fun w hw => hys w (List.mem_cons_of_mem _ hw)⟩
      have hsrt : (ys.map kk).Pairwise fun a b => leP a b = true := by
        rw [List.pairwise_map]
        refine List.Pairwise.imp (fun {u w} hn => ?_) srt
        have := SrtO.lexB_no.mp hn
        rw [leP_iff]
        omega
      have e : ys.map kk = sortP x := srt_uniq leP_an hsrt (isort_srt leP_tot leP_tr x) (by
        refine (perm.map kk).trans ?_
        rw [hmap]
        exact (isort_perm leP x).symm)
      rw [e] at hE
      exact k.newL ok hE p np) hm h hg (by decide +kernel) (by decide) (by decide) hs
/-! ### keywords and defaults -/
def tkOf (S : Stc) (kws : List Keyword) : TA := fun σ H Q => ∃ t : TA, (∀ X, S.In X → PK X kws t) ∧ t σ H Q
theorem pkO {X : Cx} {kws : List Keyword} (h : S.In X) : PK X kws (tkOf S kws) := ⟨fun pos pins s σ H Q I ⟨_, p, q⟩ => (p X h).run pos pins s σ H Q I q⟩
def JK (S : Stc) (kws : List Keyword) (Γ : Ctx) (m : Option α) (R : α → List SP) : Prop :=
  ∀ σ W F, Sta Γ σ W F → ∀ x, m = some x → ∀ Q : List V → Hp → Prop, (∀ vs W', Ext W W' → Hets W'.B vs (R x) → Q vs W'.H) → tkOf S kws σ W.H Q
theorem jk_nil : JK S [] Γ (some ()) fun _ => [] := fun σ W F st x hx Q k => ⟨tNil, fun _ _ => pk_nil, k [] W (Ext.refl st.ok) trivial⟩
theorem jk_cons {nm : Option Str} {kpos : Pos} {kws : List Keyword} {ma : Option α} {mb : Option β} {E : α → SP} {G : β → List SP} (ha : JN S e Γ ma fun x => sh (E x)) (hb : JK S kws Γ mb G) : JK S (⟨nm, e, kpos⟩ :: kws) Γ (ma.bind fun x => mb.bind fun y => some (x, y)) fun p => E p.1 :: G p.2 := fun σ W F st z hz Q k => by
  obtain ⟨x, y, h1, h2, h3⟩ := run2 hz
  cases h3
  refine ⟨tCons (tOf S e) (tkOf S kws), fun X hX => pk_cons (peO hX) (pkO hX), ?_⟩
  refine ha σ W F st x h1 _ fun v W1 F1 e1 _ _ r1 => ?_
  exact hb σ W1 F (st.ext e1) y h2 _ fun vs W2 e2 h => k (v :: vs) W2 (e1.trans e2) ⟨SP.mono _ r1.2 e2.b, h⟩
theorem Hets.app {B : Hp} : ∀ {vs us : List V} {ps qs : List SP}, Hets B vs ps → Hets B us qs → Hets B (vs ++ us) (ps ++ qs)
  | [], _, [], _, _, k => k
  | _ :: _, _, _ :: _, _, h, k => ⟨h.1, Hets.app h.2 k⟩
  | [], _, _ :: _, _, h, _ => h.elim
  | _ :: _, _, [], _, h, _ => h.elim
/-- f(e, ..), the lacking parameters by their defaults dvs -/
theorem jn_callD {x : Str} {p : Pos} {f : Addr} {fd : FuncData} {ps : List Str} {k : Nat} {G : γ → List SP} {Ga : α → List SP} {fM : γ → Option ρ} {R : ρ → OP} {m : Option α} {ds : List Value} (dvs : List V) (g : α → γ) (Fn : FnOk S.P S.w S.K S.mg S.base CX0 k f fd ps (spP G fM R)) (hm : S.mg x = some (.ref f)) (kp : PySem.W.keepIn S.K (.ref f) = true) (hd : Vals dvs ds) (hb : Binds S.K fd ps ds)
    (hG : ∀ x B vs, Hets B vs (Ga x) → Hets B (vs ++ dvs) (G (g x))) (hk : k ≤ S.k) (ha : JA S (e :: es) Γ m Ga) (hg : GlS S x := by rfl) (hdb : (x == ("__debug__" : Str)) = false := by decide) (he : ∀ env, starEach (e :: es) env = (false, eval e env) :: starEach es env := by intro _; rfl) (hpl : ∀ env, (backTo pos (starEach es env)).any (·.1) = false := by intro _; rfl) (hcm : S.calm = true := by rfl) :
    JN S (.Call (.Name x p) (e :: es) [] pos) Γ (m.bind fun y => fM (g y)) R := fun σ W F st z hz Q kk => by
  obtain ⟨y, h1, h2⟩ := run1 hz
  refine ⟨tCall (spP G fM R) dvs E0 (taOf S (e :: es)), fun X hX => pe_call (fnokS Fn hX) ((hX.room hcm).mono hk) (hg.gl hX) (mgS hm hX) (by rw [hX.K]; exact kp) (bindsS hX hb) hd passE0 (paO hX) hdb (he _) (hpl _), ha σ W F st y h1 _ fun vs W' ext hh => ?_⟩
  exact ⟨g y, W', z, rfl, ext.ok, hG y _ vs hh, h2, kk.ext ext⟩
theorem kbnS {X : Cx} {fd : FuncData} {ps ks : List Str} {n : Nat} {g : List Value → List Value → List Value} {gV : List V → List V → List V} (h : S.In X) (b : KBn S.K fd ps n ks g gV) : KBn X.K fd ps n ks g gV := by rw [h.K]; exact b
theorem jn_callN {x : Str} {p : Pos} {f : Addr} {fd : FuncData} {ps ks : List Str} {k n : Nat} {G : γ → List SP} {Ga : α → List SP} {Gk : β → List SP} {fM : γ → Option ρ} {R : ρ → OP} {m : Option α} {mk : Option β} {kws : List Keyword} {gv : List Value → List Value → List Value} {gV : List V → List V → List V} (g : α → β → γ) (Fn : FnOk S.P S.w S.K S.mg S.base CX0 k f fd ps (spP G fM R)) (hm : S.mg x = some (.ref f)) (kp : PySem.W.keepIn S.K (.ref f) = true) (hb : KBn S.K fd ps n ks gv gV)
    (hG : ∀ x z B vs zs, Hets B vs (Ga x) → Hets B zs (Gk z) → Hets B (gV vs zs) (G (g x z))) (hl : ∀ x, (Ga x).length = n) (hlk : ∀ z, (Gk z).length = ks.length) (hk : k ≤ S.k) (ha : JA S (e :: es) Γ m Ga) (hkw : JK S kws Γ mk Gk) (hg : GlS S x := by rfl) (hdb : (x == ("__debug__" : Str)) = false := by decide)
    (hall : ∀ env, (backToKw pos (keywordEach kws env)).all (·.1.isSome) = true := by intro _; rfl) (hks : ∀ env, (backToKw pos (keywordEach kws env)).filterMap (·.1) = ks := by intro _; rfl) (he : ∀ env, starEach (e :: es) env = (false, eval e env) :: starEach es env := by intro _; rfl)
    (hpl : ∀ env, ((backTo pos (starEach (e :: es) env)).any (·.1) || (backToKw pos (keywordEach kws env)).any (·.1.isNone)) = false := by intro _; rfl) (hcm : S.calm = true := by rfl) : JN S (.Call (.Name x p) (e :: es) kws pos) Γ (m.bind fun y => mk.bind fun z => fM (g y z)) R := fun σ W F st z hz Q kk => by
  obtain ⟨y, w, h1, h2, h3⟩ := run2 hz
  refine ⟨tCallN n ks.length (spP G fM R) gV E0 (taOf S (e :: es)) (tkOf S kws), fun X hX => pe_callN (fnokS Fn hX) ((hX.room hcm).mono hk) (hg.gl hX) (mgS hm hX) (by rw [hX.K]; exact kp) (kbnS hX hb) passE0 (paO hX) (pkO hX) (hall _) (hks _) hdb (he _) (hpl _), ?_⟩
  refine ha σ W F st y h1 _ fun vs W1 e1 hh => ?_
  refine hkw σ W1 F (st.ext e1) w h2 _ fun zs W2 e2 hz => ⟨hh.len.trans (hl y), hz.len.trans (hlk w), ?_⟩
  exact ⟨g y w, W2, z, rfl, e2.ok, hG y w _ vs zs (hh.mono e2.b) hz, h3, kk.ext (e1.trans e2)⟩
/-- f(k = v, ..) -/
def tCall0N (m : Nat) (sp : Sp) (gV : List V → List V → List V) (E : XK) (tk : TA) : TE := fun σ H Q => tk σ H fun zs H2 => zs.length = m ∧ sp (gV [] zs) H2 Q E
theorem pe_call0N {X : Cx} {CX : CXT} {k : Nat} {f : Addr} {fd : FuncData} {ps ks : List Str} {sp : Sp} {E : XK} {x : Str} {p pos : Pos} {kws : List Keyword} {tk : TA} {g : List Value → List Value → List Value} {gV : List V → List V → List V} (F : FnOk X.prog X.w X.K X.mg X.base CX k f fd ps sp) (hr : Room k X.A) (hg : Gl X x) (hm : X.mg x = some (.ref f)) (hk : PySem.W.keepIn X.K (.ref f) = true) (hb : KBn X.K fd ps 0 ks g gV) (hx : Passes CX X E) (hkw : PK X kws tk)
    (hall : (backToKw pos (keywordEach kws X.env)).all (·.1.isSome) = true) (hks : (backToKw pos (keywordEach kws X.env)).filterMap (·.1) = ks) (hdb : (x == ("__debug__" : Str)) = false)
    (hpl : ((backTo pos (starEach [] X.env)).any (·.1) || (backToKw pos (keywordEach kws X.env)).any (·.1.isNone)) = false) : PE X (.Call (.Name x p) [] kws pos) (tCall0N ks.length sp gV E tk) := by
  refine ⟨fun pins s σ H Q I h => ?_⟩
  refine wpAny_Call_Name_kw (ld_glob I hg hm ?_ hdb)
  refine PySem.W.callWith_KW0 (h₀ := X.base) I.ok.mod.kin hk hall ?_ hpl
  refine thn (hkw.run pos pins s σ H _ I h) fun ws s2 ⟨zs, H2, I2, rz, l2, q2⟩ => ⟨I2.kIn, ?_⟩
  rw [hks]
  exact run_fnN (us := []) (vs := []) F hr hb hx I2 .nil rz rfl l2 q2
theorem jn_call0N {x : Str} {p : Pos} {f : Addr} {fd : FuncData} {ps ks : List Str} {k : Nat} {G : γ → List SP} {Gk : β → List SP} {fM : γ → Option ρ} {R : ρ → OP} {mk : Option β} {kws : List Keyword} {gv : List Value → List Value → List Value} {gV : List V → List V → List V} (g : β → γ) (Fn : FnOk S.P S.w S.K S.mg S.base CX0 k f fd ps (spP G fM R)) (hm : S.mg x = some (.ref f)) (kp : PySem.W.keepIn S.K (.ref f) = true) (hb : KBn S.K fd ps 0 ks gv gV)
    (hG : ∀ z B zs, Hets B zs (Gk z) → Hets B (gV [] zs) (G (g z))) (hlk : ∀ z, (Gk z).length = ks.length) (hk : k ≤ S.k) (hkw : JK S kws Γ mk Gk) (hg : GlS S x := by rfl) (hdb : (x == ("__debug__" : Str)) = false := by decide)
    (hall : ∀ env, (backToKw pos (keywordEach kws env)).all (·.1.isSome) = true := by intro _; rfl) (hks : ∀ env, (backToKw pos (keywordEach kws env)).filterMap (·.1) = ks := by intro _; rfl)
    (hpl : ∀ env, ((backTo pos (starEach [] env)).any (·.1) || (backToKw pos (keywordEach kws env)).any (·.1.isNone)) = false := by intro _; rfl) (hcm : S.calm = true := by rfl) : JN S (.Call (.Name x p) [] kws pos) Γ (mk.bind fun z => fM (g z)) R := fun σ W F st z hz Q kk => by
  obtain ⟨w, h2, h3⟩ := run1 hz
  refine ⟨tCall0N ks.length (spP G fM R) gV E0 (tkOf S kws), fun X hX => pe_call0N (fnokS Fn hX) ((hX.room hcm).mono hk) (hg.gl hX) (mgS hm hX) (by rw [hX.K]; exact kp) (kbnS hX hb) passE0 (pkO hX) (hall _) (hks _) hdb (hpl _), ?_⟩
  refine hkw σ W F st w h2 _ fun zs W2 e2 hz => ⟨hz.len.trans (hlk w), ?_⟩
  exact ⟨g w, W2, z, rfl, e2.ok, hG w _ zs hz, h3, kk.ext e2⟩
end
/-- a def with keyword-only defaults -/
theorem fnd_pure {P : Program} {w : World} {K : PySem.W.Frag} {mg : Str → Option Value} {base : Heap} {x qual : Str} {st : Stmt} {f : Addr} {fd : FuncData} {dvs : List V} {kwd : List (Str × V)} {N ps : List Str} {k : Nat} {G : α → List SP} {fM : α → Option ρ} {R : ρ → OP} {Δ : Ctx} (F : FunD K x qual (defArgs st) (defBody st) (defScope st) dvs kwd f fd) (Sc : FnScope N ps (defScope st)) (hG : ∀ a, (G a).length = ps.length) (hn : ps.length ≤ N.length)
    (body : ∀ a, JB (stcOf P w K mg base N (defScope st) k []) (defBody st) (shC (G a) ++ nonC (N.length - ps.length)) (fM a) fun r => .rt Δ (R r)) : FnOk P w K mg base CX0 (k + 1) f fd ps (spP G fM R) := by
  refine F.ok Sc (fun vs H Q E h => ?_) (fun cdv A outer s H vs Q E hr h => ?_)
  · obtain ⟨a, W, r, _, _, h3, _⟩ := h
    rw [h3.len, hG]
  · obtain ⟨a, W, r, rfl, ok, h3, h4, kq⟩ := h
    refine ⟨tbOf (stcOf P w K mg base N (defScope st) k []) (defBody st), (pbO (in_cx hr)).nox, ?_⟩
    have hl : vs.length = ps.length := h3.len.trans (hG a)
    have sta : Sta (shC (G a) ++ nonC (N.length - ps.length)) (L2.start N vs) W [] := ⟨ok, FpOk.nil, by unfold L2.start shC nonC; simp [h3.len, hG, hl], by unfold L2.start; rw [hl]; exact holds_sh h3⟩
    exact body a _ W [] sta r h4 _ fun v σ' W' F' Fv _ stp _ fp rr => by
      obtain ⟨ext, fr⟩ := stp.ext
      exact kq v W' Fv ext (fun a ha => fr a (List.mem_append_right _ ha)) fp.right rr
end CC
set_option maxHeartbeats 4000000
/-! Tuples and lists of several kinds. -/
namespace CC
open PySem PySem.Spec L2
open PyProof.Rows hiding St
variable {α β γ δ τ υ ω ρ : Type}
theorem sb (x : α) (f : α → Option β) : (some x).bind f = f x := rfl
def t3S (E : α → SP) (G : β → SP) (I : γ → SP) (p : α × β × γ) : SP := htupS [E p.1, G p.2.1, I p.2.2]
def t4S (E : α → SP) (G : β → SP) (I : γ → SP) (J : δ → SP) (p : α × β × γ × δ) : SP := htupS [E p.1, G p.2.1, I p.2.2.1, J p.2.2.2]
def t5S (E : α → SP) (G : β → SP) (I : γ → SP) (J : δ → SP) (L : τ → SP) (p : α × β × γ × δ × τ) : SP := htupS [E p.1, G p.2.1, I p.2.2.1, J p.2.2.2.1, L p.2.2.2.2]
def l2S (E : α → SP) (G : β → SP) (p : α × β) : SP := hlstS [E p.1, G p.2]
def l3S (E : α → SP) (G : β → SP) (I : γ → SP) (p : α × β × γ) : SP := hlstS [E p.1, G p.2.1, I p.2.2]
def l4S (E : α → SP) (G : β → SP) (I : γ → SP) (J : δ → SP) (p : α × β × γ × δ) : SP := hlstS [E p.1, G p.2.1, I p.2.2.1, J p.2.2.2]
def l5S (E : α → SP) (G : β → SP) (I : γ → SP) (J : δ → SP) (L : τ → SP) (p : α × β × γ × δ × τ) : SP := hlstS [E p.1, G p.2.1, I p.2.2.1, J p.2.2.2.1, L p.2.2.2.2]
section
variable {S : Stc} {Γ : Ctx} {a b e : Expr} {es : List Expr} {pos : Pos}
theorem jn_nilT {E : α → SP} {k : Nat} : JN S (.Tuple [] k pos) Γ (some []) fun x => sh (tupS E x) := jn_dispT (E := E) (g := fun _ : Unit => ([] : List α)) ja_nil
theorem jn_tupG {m : Option α} {R : α → List SP} {P : β → SP} {g : α → β} {k : Nat} (h : JA S es Γ m R) (hR : ∀ x, htupS (R x) = P (g x) := by intro _; rfl) (hl : ∀ x, (R x).length ≤ 1000 := by intro _; exact Nat.le_of_ble_eq_true rfl) : JN S (.Tuple es k pos) Γ (m.bind fun x => some (g x)) fun y => sh (P y) := fun σ W F sta z hz Q kk => by
  obtain ⟨x, h1, h2⟩ := run1 hz
  cases h2
  have q := jn_tup (k := k) (pos := pos) (p := fun _ => True) h hl σ W F sta x h1 Q
  simp only [hR] at q
  exact q kk
theorem jn_hl {m : Option α} {R : α → List SP} {T : β → OP} {g : α → β} (h : JA S es Γ m R) (hR : ∀ x, hetO ((R x).map sh) = T (g x) := by intro _; rfl) (hl : ∀ x, (R x).length ≤ 1000 := by intro _; exact Nat.le_of_ble_eq_true rfl) : JN S (.List es pos) Γ (m.bind fun x => some (g x)) T := fun σ W F sta z hz Q kk => by
  obtain ⟨x, h1, h2⟩ := run1 hz
  cases h2
  have q := jn_het (pos := pos) h hl σ W F sta x h1 Q
  simp only [hR] at q
  exact q kk
theorem jn_hlS {m : Option α} {R : α → List SP} {T : β → SP} {g : α → β} (h : JA S es Γ m R) (hR : ∀ x, hlstS (R x) = T (g x) := by intro _; rfl) (hl : ∀ x, (R x).length ≤ 1000 := by intro _; exact Nat.le_of_ble_eq_true rfl) : JN S (.List es pos) Γ (m.bind fun x => some (g x)) fun y => sh (T y) := fun σ W F sta z hz Q kk => by
  obtain ⟨x, h1, h2⟩ := run1 hz
  cases h2
  have q := jn_hetS (pos := pos) h hl σ W F sta x h1 Q
  simp only [hR] at q
  exact q kk
theorem len_scr {m : Option (List Int)} {p : Pos} (hm : S.mg "len" = none) (h : JN S a Γ m fun x => sh (scrS S.K x)) (hg : GlS S "len" := by rfl) (hs : ∀ env, starEach [a] env = [(false, eval a env)] := by intro _; rfl) : JN S (.Call (.Name "len" p) [a] [] pos) Γ (m.bind fun xs => some (xs.length : Int)) fun z => sh (intS z) :=
  jn_b1 (r := fun xs H Q => ∃ p ys, xs = [.ref p] ∧ (SqL S.K H p ys ∨ SqT S.K H p ys) ∧ Q (.int ys.length) H) (f := fun xs : List Int => some (xs.length : Int)) (fun X hX => hX.K ▸ call_len_seq) (fun W x v z ok hh e Q k => by
    cases e
    obtain ⟨a, rfl, h2⟩ := hh
    have hq : SqL S.K W.H a (x.map V.int) := by
      rcases h2 with (h | ⟨o, h⟩) | h
      · exact .inl (.inl (ok _ _ h))
      · exact .inl (.inr ⟨o, ok _ _ h⟩)
      · exact .inr h
    exact ⟨a, _, rfl, .inl hq, k.val ok (by rw [List.length_map]; rfl)⟩) hm h hg PySem.boot_len (by decide) (by decide) hs
end
section
variable {S : Stc} {Γ : τ → Ctx} {s : τ} {a b e : Expr} {es : List Expr} {pos : Pos}
theorem je_tup {E : α → SP} {m : Option (List α × τ)} {p : Pos} (hm : S.mg "tuple" = none) (h : JE S a Γ s m fun x => sh (lstS E x)) (hg : GlS S "tuple" := by rfl) (hs : ∀ env, starEach [a] env = [(false, eval a env)] := by intro _; rfl) : JE S (.Call (.Name "tuple" p) [a] [] pos) Γ s (m.bind fun q => some (q.1, q.2)) fun x => sh (tupS E x) :=
  je_t1 (f := fun x : List α => some x) (fun X hX => hX.K ▸ call_tuple_of) (fun W x v z ok hh e Q k => by
    cases e
    obtain ⟨a, vs, rfl, h2, h3⟩ := hh
    exact ⟨a, vs, rfl, .inl ⟨.inl (.inl (ok a _ h2)), k.newT ok h3⟩⟩) hm h hg (by decide +kernel) (by decide) (by decide) hs
theorem je_tupG {m : Option (α × τ)} {R : α → List SP} {P : β → SP} {g : α → β} {k : Nat} (h : JEA S es Γ s m R) (hR : ∀ x, htupS (R x) = P (g x) := by intro _; rfl) (hl : ∀ x, (R x).length ≤ 1000 := by intro _; exact Nat.le_of_ble_eq_true rfl) : JE S (.Tuple es k pos) Γ s (m.bind fun q => some (g q.1, q.2)) fun y => sh (P y) := JE.of_sh fun σ W F sta z hz Q kk => by
  obtain ⟨q, h1, h2⟩ := run1 hz
  cases h2
  refine ⟨tTup (taOf S es), fun X hX => pe_tup (paO hX), h σ W F sta q h1 _ fun vs W' F' stp sa hh => ?_⟩
  refine ⟨Nat.le_trans (by rw [hh.len]; exact hl q.1) (by decide), fun l hq => ?_⟩
  have e2 := Ext.newB sa.ok (o := .tup vs) hq
  exact kk (.ref l) ⟨upd W'.H l (.tup vs), upd W'.B l (.tup vs)⟩ F' (stp.trans e2.stp0) (sa.ext e2) (by rw [← hR]; exact ⟨l, vs, rfl, upd_same, hh.mono e2.b⟩)
theorem je_dispL {E : β → SP} {m : Option (α × τ)} {R : α → List SP} {g : α → List β} (h : JEA S es Γ s m R) (hR : ∀ x, R x = (g x).map E := by intro _; rfl) (hl : ∀ x, (R x).length ≤ 1000 := by intro _; exact Nat.le_of_ble_eq_true rfl) : JE S (.List es pos) Γ s (m.bind fun q => some (g q.1, q.2)) fun y => lstO (fun x => sh (E x)) y := fun σ W F sta z hz Q kk => by
  obtain ⟨q, h1, h2⟩ := run1 hz
  cases h2
  refine ⟨tLst (taOf S es), fun X hX => pe_lst (paO hX), h σ W F sta q h1 _ fun vs W' F' stp sa hh => ?_⟩
  refine ⟨Nat.le_trans (by rw [hh.len]; exact hl q.1) (by decide), fun l hq => ?_⟩
  have e2 := Ext.new sa.ok (o := .lst vs) hq
  rw [hR] at hh
  have fr : ∀ x ∈ [l], W'.H x = none := fun x hx => by rw [List.mem_singleton.mp hx]; exact hq
  have fp1 : FpOk ⟨upd W'.H l (.lst vs), W'.B⟩ [l] := fp_one (sa.ok.back hq)
  exact kk (.ref l) ⟨upd W'.H l (.lst vs), W'.B⟩ F' [l] (stp.trans (e2.stp fr)) (sa.ext e2) (sa.fp.fresh e2 fp1 fr) ⟨l, vs, [], rfl, upd_same, rfl, Owns.of_each (W := ⟨upd W'.H l (.lst vs), W'.B⟩) hh.each⟩
theorem je_hlS {m : Option (α × τ)} {R : α → List SP} {P : β → SP} {g : α → β} (h : JEA S es Γ s m R) (hR : ∀ x, hlstS (R x) = P (g x) := by intro _; rfl) (hl : ∀ x, (R x).length ≤ 1000 := by intro _; exact Nat.le_of_ble_eq_true rfl) : JE S (.List es pos) Γ s (m.bind fun q => some (g q.1, q.2)) fun y => sh (P y) := JE.of_sh fun σ W F sta z hz Q kk => by
  obtain ⟨q, h1, h2⟩ := run1 hz
  cases h2
  refine ⟨tLst (taOf S es), fun X hX => pe_lst (paO hX), h σ W F sta q h1 _ fun vs W' F' stp sa hh => ?_⟩
  refine ⟨Nat.le_trans (by rw [hh.len]; exact hl q.1) (by decide), fun l hq => ?_⟩
  have e2 := Ext.newB sa.ok (o := .lst vs) hq
  exact kk (.ref l) ⟨upd W'.H l (.lst vs), upd W'.B l (.lst vs)⟩ F' (stp.trans e2.stp0) (sa.ext e2) (by rw [← hR]; exact ⟨l, vs, rfl, upd_same, hh.mono e2.b⟩)
end
/-- a def with state first -/
theorem fnd_state {P : Program} {w : World} {K : PySem.W.Frag} {mg : Str → Option Value} {base : Heap} {x qual : Str} {st : Stmt} {f : Addr} {fd : FuncData} {dvs : List V} {kwd : List (Str × V)} {N ps : List Str} {k : Nat} {O : τ → OP} {G : α → List SP} {fM : α → τ → Option (ρ × τ)} {R : ρ → OP} (F : FunD K x qual (defArgs st) (defBody st) (defScope st) dvs kwd f fd) (Sc : FnScope N ps (defScope st)) (hG : ∀ a, (G a).length + 1 = ps.length) (hn : ps.length ≤ N.length)
    (body : ∀ a s, JB (stcOf P w K mg base N (defScope st) k [0]) (defBody st) (some (O s) :: (shC (G a) ++ nonC (N.length - ps.length))) (fM a s) fun r => .rt (some (O r.2) :: nonC (N.length - 1)) (R r.1)) : FnOk P w K mg base CX0 (k + 1) f fd ps (spS O G fM R) := by
  refine F.ok Sc (fun vs H Q E h => ?_) (fun cdv A outer s H vs Q E hr h => ?_)
  · obtain ⟨a, s, W, F, v0, vr, r, rfl, _, _, _, _, h3, _⟩ := h
    rw [List.length_cons, h3.len, hG]
  · obtain ⟨a, s0, W, Fp, v0, vr, r, rfl, rfl, ok, fp0, h0, h3, h4, kq⟩ := h
    refine ⟨tbOf (stcOf P w K mg base N (defScope st) k [0]) (defBody st), (pbO (in_cx hr)).nox, ?_⟩
    have hl : (v0 :: vr).length = ps.length := by rw [List.length_cons, h3.len]; exact hG a
    have sta : Sta (some (O s0) :: (shC (G a) ++ nonC (N.length - ps.length))) (L2.start N (v0 :: vr)) W Fp := ⟨ok, fp0, by
      unfold L2.start shC nonC
      have := hG a
      simp [h3.len]
      omega, ⟨v0, Fp, [], rfl, (List.append_nil _).symm, h0, by
      unfold L2.start
      rw [hl]
      exact holds_sh h3⟩⟩
    refine body a s0 _ W Fp sta r h4 _ fun v σ' W' F' Fv kp stp sa fp rr => ?_
    obtain ⟨u, F1, F2, b1, b2, b3, b4⟩ := sa.hold
    have e0 : σ'[0]? = some (some v0) := (kp 0 (by simp)).trans rfl
    have eu : u = v0 := by
      rw [List.head?_eq_getElem?] at b1
      rw [e0] at b1
      exact (Option.some.inj (Option.some.inj b1)).symm
    subst eu
    have eF : F2 = [] := by
      have : ∀ (n : Nat) (σ : L2.St) (F : List Addr), Holds (nonC n) σ W' F → F = [] := by
        intro n
        induction n with
        | zero => intro σ F h; exact h
        | succ n ih => intro σ F h; exact ih σ.tail F h
      exact this _ _ _ b4
    subst eF
    rw [List.append_nil] at b2
    subst b2
    exact kq v W' F' Fv stp fp b3 rr
abbrev FnP (K : PySem.W.Frag) (x : Str) (st : Stmt) (f : Addr) (fd : FuncData) : Prop := FunD K x x (defArgs st) (defBody st) (defScope st) [] [] f fd
theorem hets_d {B : Hp} {vs dvs : List V} {ps qs rs : List SP} (h : Hets B vs ps) (hd : Hets B dvs qs) (e : rs = ps ++ qs) : Hets B (vs ++ dvs) rs := e ▸ h.app hd
/-- the law is called with its script -/
theorem law_in {K : PySem.W.Frag} {H : Hp} {a : Addr} {ns : List Int} {fM : List Int × Unit → Option Bool} {E : XK} (hS : SqL K H a (ns.map V.int)) (h : fM (ns, ()) = some true) : spP (fun a : List Int × Unit => [scrS K a.1]) fM (fun b => sh (boolS b)) [.ref a] H (fun v _ => v = .bl true) E :=
  ⟨(ns, ()), ⟨H, H⟩, true, rfl, Ex.refl _, ⟨⟨a, rfl, hS⟩, trivial⟩, h, fun v W' Fv _ _ _ r => r.2⟩
theorem sw_cell {elt : Expr} {gs : List Comprehension} {scope : Scope} {pos py : Pos} {y : Str} {l : Nat} {env : Env} (hy : env.scope.names.lookup y = some .cell) : swapsWith (.ListComp elt gs scope pos) (some (.Name y py)) l env = pure false := by
  have ky : env.kindOf y = some .cell := hy
  unfold swapsWith
  simp only [ky]
  rw [show ((some NameKind.cell == some NameKind.local) : Bool) = false from rfl, Bool.and_false, Bool.false_and, Bool.false_and]
section
variable {S : Stc} {Γ : Ctx}
theorem js_setLcC {x : Str} {py spos pos : Pos} {elt : Expr} {gs : List Comprehension} {scope : Scope} {m : Option α} {R : α → OP} (i : Nat) (nd : S.N.Nodup) (h : JN S (.ListComp elt gs scope pos) Γ m R) (hi : (Γ[i]?).isSome = true := by rfl) (hN : S.N[i]? = some x := by rfl) (hx : S.sc.names.lookup x = some .cell := by rfl) (hp : (S.prot.contains i) = false := by rfl) (hf : S.fn x = true := by rfl) :
    JS S (.Assign [.Name x py] (.ListComp elt gs scope pos) spos) Γ m fun a => .nx (Γ.set i (some (R a))) := fun σ W F sta y hy E k => by
  refine ⟨tAsg (tOf S _) (gName i), fun X hX => ps_set (by rw [hX.N]; exact nd) (by rw [hX.N]; exact hN) (locS (.inr hx) hX) (peO hX) (sw_cell (by rw [hX.sc]; exact hx)) (by rw [hX.fn]; exact .inl hf), h σ W F sta y hy _ fun v W' Fv ext fr fp r => ?_⟩
  obtain ⟨F', s', stp⟩ := sta_set sta ext fr fp r hi
  exact k _ W' F' (Keep.set (ncon hp)) stp s'
end
section
variable {S : Stc} {Γ : τ → Ctx} {s : τ}
theorem js_setLcCE {x : Str} {py spos pos : Pos} {elt : Expr} {gs : List Comprehension} {scope : Scope} {m : Option (α × τ)} {R : α → OP} (i : Nat) (nd : S.N.Nodup) (h : JE S (.ListComp elt gs scope pos) Γ s m R) (hi : ∀ s, ((Γ s)[i]?).isSome = true := by intro _; rfl) (hN : S.N[i]? = some x := by rfl) (hx : S.sc.names.lookup x = some .cell := by rfl) (hp : (S.prot.contains i) = false := by rfl) (hf : S.fn x = true := by rfl) :
    JS S (.Assign [.Name x py] (.ListComp elt gs scope pos) spos) (Γ s) m fun q => .nx ((Γ q.2).set i (some (R q.1))) := fun σ W F sta y hy E k => by
  refine ⟨tAsg (tOf S _) (gName i), fun X hX => ps_set (by rw [hX.N]; exact nd) (by rw [hX.N]; exact hN) (locS (.inr hx) hX) (peO hX) (sw_cell (by rw [hX.sc]; exact hx)) (by rw [hX.fn]; exact .inl hf), h σ W F sta y hy _ fun v W' F' Fv stp sa fp r => ?_⟩
  have hl : i < (Γ y.2).length := by
    have := hi y.2
    cases h : (Γ y.2)[i]? with
    | none => rw [h] at this; cases this
    | some o => exact (List.getElem?_eq_some_iff.mp h).1
  obtain ⟨F2, b1, b2⟩ := sa.put hl r fp
  exact k _ W' F2 (Keep.set (ncon hp)) (stp.perm b2) b1
end
end CC
set_option maxHeartbeats 4000000
/-! Values of any kind. -/
namespace CC
open PySem PySem.Spec L2
open PyProof.Rows hiding St
variable {α β γ δ τ υ ω ρ : Type}
inductive PV where
  | non
  | bl (b : Bool)
  | int (i : Int)
  | str (z : Str)
  | tup (xs : List PV)
  | lst (xs : List PV)
mutual
def anyP (B : Hp) : PV → V → Prop
  | .non, v => v = .non
  | .bl b, v => v = .bl b
  | .int i, v => v = .int i
  | .str z, v => v = .str z
  | .tup xs, v => ∃ a vs, v = .ref a ∧ B a = some (.tup vs) ∧ anysP B xs vs
  | .lst xs, v => ∃ a vs, v = .ref a ∧ B a = some (.lst vs) ∧ anysP B xs vs
def anysP (B : Hp) : List PV → List V → Prop
  | [], [] => True
  | x :: xs, v :: vs => anyP B x v ∧ anysP B xs vs
  | [], _ :: _ => False
  | _ :: _, [] => False
end
mutual
theorem anyP_mono {B B' : Hp} (e : Ex B B') : ∀ (x : PV) (v : V), anyP B x v → anyP B' x v
  | .non, v, h => by unfold anyP at h ⊢; exact h
  | .bl b, v, h => by unfold anyP at h ⊢; exact h
  | .int i, v, h => by unfold anyP at h ⊢; exact h
  | .str z, v, h => by unfold anyP at h ⊢; exact h
  | .tup xs, v, h => by
    unfold anyP at h ⊢
    obtain ⟨a, vs, h1, h2, h3⟩ := h
    exact ⟨a, vs, h1, e a _ h2, anysP_mono e xs vs h3⟩
  | .lst xs, v, h => by
    unfold anyP at h ⊢
    obtain ⟨a, vs, h1, h2, h3⟩ := h
    exact ⟨a, vs, h1, e a _ h2, anysP_mono e xs vs h3⟩
theorem anysP_mono {B B' : Hp} (e : Ex B B') : ∀ (xs : List PV) (vs : List V), anysP B xs vs → anysP B' xs vs
  | [], [], h => by unfold anysP; trivial
  | x :: xs, v :: vs, h => by
    unfold anysP at h ⊢
    exact ⟨anyP_mono e x v h.1, anysP_mono e xs vs h.2⟩
  | [], _ :: _, h => by unfold anysP at h; exact h.elim
  | _ :: _, [], h => by unfold anysP at h; exact h.elim
end
def anyS (x : PV) : SP := ⟨fun B v => anyP B x v, fun h e => anyP_mono e x _ h⟩
theorem anys_each {B : Hp} : ∀ {xs : List PV} {vs : List V}, anysP B xs vs → Each anyS B vs xs
  | [], [], h => trivial
  | x :: xs, v :: vs, h => by
    unfold anysP at h
    exact ⟨h.1, anys_each h.2⟩
  | [], _ :: _, h => by unfold anysP at h; exact h.elim
  | _ :: _, [], h => by unfold anysP at h; exact h.elim
theorem each_anys {B : Hp} : ∀ {xs : List PV} {vs : List V}, Each anyS B vs xs → anysP B xs vs
  | [], [], h => by unfold anysP; trivial
  | x :: xs, v :: vs, h => by
    unfold anysP
    exact ⟨h.1, each_anys h.2⟩
  | [], _ :: _, h => h.elim
  | _ :: _, [], h => h.elim
theorem pv_tup {B : Hp} {xs : List PV} {v : V} (h : (anyS (.tup xs)).P B v) : (tupS anyS xs).P B v := by
  have h' : anyP B (.tup xs) v := h
  unfold anyP at h'
  obtain ⟨a, vs, h1, h2, h3⟩ := h'
  exact ⟨a, vs, h1, h2, anys_each h3⟩
theorem pv_lst {B : Hp} {xs : List PV} {v : V} (h : (anyS (.lst xs)).P B v) : (lstS anyS xs).P B v := by
  have h' : anyP B (.lst xs) v := h
  unfold anyP at h'
  obtain ⟨a, vs, h1, h2, h3⟩ := h'
  exact ⟨a, vs, h1, h2, anys_each h3⟩
/-- a description that is one of any kind -/
structure AnyOf (E : α → SP) (f : α → PV) : Prop where
  go : ∀ B x v, (E x).P B v → (anyS (f x)).P B v
theorem ao_any : AnyOf anyS (fun x => x) := ⟨fun _ _ _ h => h⟩
theorem ao_int : AnyOf intS PV.int := ⟨fun B x v h => by show anyP B (.int x) v; unfold anyP; exact h⟩
theorem ao_bool : AnyOf boolS PV.bl := ⟨fun B x v h => by show anyP B (.bl x) v; unfold anyP; exact h⟩
theorem ao_str : AnyOf strS PV.str := ⟨fun B x v h => by show anyP B (.str x) v; unfold anyP; exact h⟩
theorem ao_non : AnyOf (fun _ : Unit => nonS) (fun _ => PV.non) := ⟨fun B x v h => by show anyP B .non v; unfold anyP; exact h⟩
def optV (f : α → PV) : Option α → PV
  | none => .non
  | some x => f x
theorem ao_opt {E : α → SP} {f : α → PV} (h : AnyOf E f) : AnyOf (optS E) (optV f) := ⟨fun B x v hx => by
  cases x with
  | none => exact ao_non.go B () v hx
  | some x => exact h.go B x v hx⟩
theorem ao_each {E : α → SP} {f : α → PV} (h : AnyOf E f) {B : Hp} : ∀ {xs : List α} {vs : List V}, Each E B vs xs → anysP B (xs.map f) vs
  | [], [], _ => by show anysP B [] []; unfold anysP; trivial
  | x :: xs, v :: vs, e => by
    show anysP B (f x :: xs.map f) (v :: vs)
    unfold anysP
    exact ⟨h.go B x v e.1, ao_each h e.2⟩
  | [], _ :: _, e => e.elim
  | _ :: _, [], e => e.elim
theorem ao_tup {E : α → SP} {f : α → PV} (h : AnyOf E f) : AnyOf (tupS E) (fun xs => PV.tup (xs.map f)) := ⟨fun B x v hx => by
  show anyP B (.tup _) v
  unfold anyP
  obtain ⟨a, vs, h1, h2, h3⟩ := hx
  exact ⟨a, vs, h1, h2, ao_each h h3⟩⟩
theorem ao_lst {E : α → SP} {f : α → PV} (h : AnyOf E f) : AnyOf (lstS E) (fun xs => PV.lst (xs.map f)) := ⟨fun B x v hx => by
  show anyP B (.lst _) v
  unfold anyP
  obtain ⟨a, vs, h1, h2, h3⟩ := hx
  exact ⟨a, vs, h1, h2, ao_each h h3⟩⟩
theorem hts2 {B : Hp} {p q : SP} {vs : List V} (h : Hets B vs [p, q]) : ∃ u v, vs = [u, v] ∧ p.P B u ∧ q.P B v := by
  match vs, h with
  | [u, v], h => exact ⟨u, v, rfl, h.1, h.2.1⟩
theorem hts3 {B : Hp} {p q r : SP} {vs : List V} (h : Hets B vs [p, q, r]) : ∃ u v w, vs = [u, v, w] ∧ p.P B u ∧ q.P B v ∧ r.P B w := by
  match vs, h with
  | [u, v, w], h => exact ⟨u, v, w, rfl, h.1, h.2.1, h.2.2.1⟩
theorem hts4 {B : Hp} {p q r s : SP} {vs : List V} (h : Hets B vs [p, q, r, s]) : ∃ u v w x, vs = [u, v, w, x] ∧ p.P B u ∧ q.P B v ∧ r.P B w ∧ s.P B x := by
  match vs, h with
  | [u, v, w, x], h => exact ⟨u, v, w, x, rfl, h.1, h.2.1, h.2.2.1, h.2.2.2.1⟩
theorem ao_pr {E : α → SP} {G : β → SP} {f : α → PV} {g : β → PV} (h : AnyOf E f) (k : AnyOf G g) : AnyOf (prS E G) (fun p => PV.tup [f p.1, g p.2]) := ⟨fun B x v hx => by
  show anyP B (.tup _) v
  unfold anyP
  obtain ⟨a, vs, h1, h2, h3⟩ := hx
  obtain ⟨u, w, rfl, a1, a2⟩ := hts2 h3
  exact ⟨a, _, h1, h2, each_anys ⟨h.go B _ _ a1, k.go B _ _ a2, trivial⟩⟩⟩
theorem ao_t3 {E : α → SP} {G : β → SP} {I : γ → SP} {f : α → PV} {g : β → PV} {i : γ → PV} (h : AnyOf E f) (k : AnyOf G g) (l : AnyOf I i) : AnyOf (t3S E G I) (fun p => PV.tup [f p.1, g p.2.1, i p.2.2]) := ⟨fun B x v hx => by
  show anyP B (.tup _) v
  unfold anyP
  obtain ⟨a, vs, h1, h2, h3⟩ := hx
  obtain ⟨u, w, y, rfl, a1, a2, a3⟩ := hts3 h3
  exact ⟨a, _, h1, h2, each_anys ⟨h.go B _ _ a1, k.go B _ _ a2, l.go B _ _ a3, trivial⟩⟩⟩
theorem ao_t4 {E : α → SP} {G : β → SP} {I : γ → SP} {J : δ → SP} {f : α → PV} {g : β → PV} {i : γ → PV} {j : δ → PV} (h : AnyOf E f) (k : AnyOf G g) (l : AnyOf I i) (m : AnyOf J j) : AnyOf (t4S E G I J) (fun p => PV.tup [f p.1, g p.2.1, i p.2.2.1, j p.2.2.2]) := ⟨fun B x v hx => by
  show anyP B (.tup _) v
  unfold anyP
  obtain ⟨a, vs, h1, h2, h3⟩ := hx
  obtain ⟨u, w, y, z, rfl, a1, a2, a3, a4⟩ := hts4 h3
  exact ⟨a, _, h1, h2, each_anys ⟨h.go B _ _ a1, k.go B _ _ a2, l.go B _ _ a3, m.go B _ _ a4, trivial⟩⟩⟩
def PV.tyn : PV → String
  | .non => "NoneType"
  | .bl _ => "bool"
  | .int _ => "int"
  | .str _ => "str"
  | .tup _ => "tuple"
  | .lst _ => "list"
def pT : PV → Bool
  | .tup _ => true
  | _ => false
def pL : PV → Bool
  | .lst _ => true
  | _ => false
def pI : PV → Bool
  | .int _ => true
  | .bl _ => true
  | _ => false
def pB : PV → Bool
  | .bl _ => true
  | _ => false
def pS : PV → Bool
  | .str _ => true
  | _ => false
def pN : PV → Bool
  | .non => true
  | _ => false
theorem any_ty {K : PySem.W.Frag} {B H : Hp} (e : Ex B H) : ∀ {x : PV} {v : V}, (anyS x).P B v → TyX K H v (.type x.tyn)
  | .non, v, h => by
    have h' : anyP B .non v := h
    unfold anyP at h'
    subst h'
    exact .base .non
  | .bl b, v, h => by
    have h' : anyP B (.bl b) v := h
    unfold anyP at h'
    subst h'
    exact .base (.bl b)
  | .int i, v, h => by
    have h' : anyP B (.int i) v := h
    unfold anyP at h'
    subst h'
    exact .base (.int i)
  | .str z, v, h => by
    have h' : anyP B (.str z) v := h
    unfold anyP at h'
    subst h'
    exact .base (.str z)
  | .tup xs, v, h => by
    obtain ⟨a, vs, rfl, h2, _⟩ := pv_tup h
    exact .base (.tup (e a _ h2))
  | .lst xs, v, h => by
    obtain ⟨a, vs, rfl, h2, _⟩ := pv_lst h
    exact .base (.lst (e a _ h2))
/-- == of plain values -/
def eqA : PV → PV → Option Bool
  | .non, .non => some true
  | .bl x, .bl y => some (decide (x = y))
  | .int x, .int y => some (decide (x = y))
  | .str x, .str y => some (decide (x = y))
  | _, _ => none
def lenA : PV → Option Int
  | .tup xs => some (xs.length : Int)
  | .lst xs => some (xs.length : Int)
  | _ => none
def ixA (x : PV) (i : Int) : Option PV := match x with
  | .tup xs => atI xs i
  | .lst xs => atI xs i
  | _ => none
def rIxA (K : PySem.W.Frag) : R2 := fun x y H Q => rIxL K x y H Q ∨ rIxT K x y H Q
theorem oIxA {S : Stc} : ∀ X, S.In X → IxR X (rIxA S.K) := fun _ h => h.K ▸ ix_list.or ix_tup
section
variable {S : Stc} {Γ : Ctx} {a b e : Expr} {es : List Expr} {pos : Pos}
theorem jn_any {E : α → SP} {f : α → PV} {m : Option α} (ao : AnyOf E f) (h : JN S e Γ m fun x => sh (E x)) : JN S e Γ (m.bind fun x => some (f x)) fun y => sh (anyS y) :=
  JN.map h fun x W v F r => ⟨r.1, ao.go W.B x v r.2⟩
theorem jn_isiA {p pc : Pos} {c : Str} {cn : String} {m : Option PV} (f : PV → Bool) (hm : S.mg "isinstance" = none) (hmc : S.mg c = none) (h : JN S a Γ m fun x => sh (anyS x)) (hk : (kitB "NoneType" cn, kitB "bool" cn, kitB "int" cn, kitB "str" cn, kitB "tuple" cn, kitB "list" cn) = (some (f .non), some (f (.bl true)), some (f (.int 0)), some (f (.str ⟨#[]⟩)), some (f (.tup [])), some (f (.lst []))) := by decide +kernel) (hf : ∀ b i z xs ys, f (.bl b) = f (.bl true) ∧ f (.int i) = f (.int 0) ∧ f (.str z) = f (.str ⟨#[]⟩) ∧ f (.tup xs) = f (.tup []) ∧ f (.lst ys) = f (.lst []) := by exact fun _ _ _ _ _ => ⟨rfl, rfl, rfl, rfl, rfl⟩) (hg : GlS S "isinstance" := by rfl) (hgc : GlS S c := by rfl) (hvc : bootBuiltins c = some (.type cn) := by decide +kernel) (hn : c ≠ "__name__" := by decide) (hdb : (c == ("__debug__" : Str)) = false := by decide)
    (hs : ∀ env, starEach [a, .Name c pc] env = [(false, eval a env), (false, eval (.Name c pc) env)] := by intro _; rfl) (hs2 : ∀ env, starEach [Expr.Name c pc] env = [(false, eval (.Name c pc) env)] := by intro _; rfl) : JN S (.Call (.Name "isinstance" p) [a, .Name c pc] [] pos) Γ (m.bind fun x => some (f x)) fun z => sh (boolS z) := fun σ W F sta z hz Q kq => by
  have hk' : ∀ x : PV, kitB x.tyn cn = some (f x) := fun x => by
    obtain ⟨k1, k⟩ := Prod.mk.inj hk
    obtain ⟨k2, k⟩ := Prod.mk.inj k
    obtain ⟨k3, k⟩ := Prod.mk.inj k
    obtain ⟨k4, k⟩ := Prod.mk.inj k
    obtain ⟨k5, k6⟩ := Prod.mk.inj k
    cases x with
    | non => exact k1
    | bl b => rw [(hf b 0 ⟨#[]⟩ [] []).1]; exact k2
    | int i => rw [(hf true i ⟨#[]⟩ [] []).2.1]; exact k3
    | str z => rw [(hf true 0 z [] []).2.2.1]; exact k4
    | tup xs => rw [(hf true 0 ⟨#[]⟩ xs []).2.2.2.1]; exact k5
    | lst xs => rw [(hf true 0 ⟨#[]⟩ [] xs).2.2.2.2]; exact k6
  obtain ⟨x, h1, h2⟩ := run1 hz
  cases h2
  refine ⟨tCB (rIsi S.K) (tCons (tOf S a) (tCons (tC (.ty cn)) tNil)), fun X hX => pe_callB (hX.K ▸ call_isi) (hg.gl hX) (mgS hm hX) (by decide +kernel) (pa_cons (peO hX) (pa_cons (pe_bltn (v := .ty cn) (hgc.gl hX) (mgS hmc hX) hvc rfl hn hdb) pa_nil (hs2 _)) ((hs _).trans (by rw [hs2]))) (by decide) (by decide) ((hs _).trans (by rw [hs2])) (by rw [hs2]; rfl), h σ W F sta x h1 _ fun v W' Fv ext _ _ r => ?_⟩
  exact ⟨v, .ty cn, .type x.tyn, .type cn, f x, rfl, .ty cn, any_ty ext.ok r.2, kit_ty (hk' x), (kq.ext ext).val ext.ok rfl⟩
theorem any_non {B : Hp} : ∀ {x : PV} {v : V}, (anyS x).P B v → decide (v = V.non) = pN x
  | .non, v, h => by
    have h' : anyP B .non v := h
    unfold anyP at h'
    subst h'
    rfl
  | .bl b, v, h => by
    have h' : anyP B (.bl b) v := h
    unfold anyP at h'
    subst h'
    rfl
  | .int i, v, h => by
    have h' : anyP B (.int i) v := h
    unfold anyP at h'
    subst h'
    rfl
  | .str z, v, h => by
    have h' : anyP B (.str z) v := h
    unfold anyP at h'
    subst h'
    rfl
  | .tup xs, v, h => by
    obtain ⟨a, vs, rfl, h2, _⟩ := pv_tup h
    rfl
  | .lst xs, v, h => by
    obtain ⟨a, vs, rfl, h2, _⟩ := pv_lst h
    rfl
theorem ov_isNA : OpV (fun x y H Q => y = .non ∧ Q (.bl (decide (x = .non))) H) anyS (fun _ : Unit => nonS) (fun x _ => some (pN x)) fun z => sh (boolS z) := fun W x y v u z ok hx hy e Q k => by
  cases e
  cases hy
  refine ⟨rfl, ?_⟩
  rw [any_non hx]
  exact k.val ok rfl
theorem ov_notNA : OpV (fun x y H Q => y = .non ∧ Q (.bl (!decide (x = .non))) H) anyS (fun _ : Unit => nonS) (fun x _ => some (!pN x)) fun z => sh (boolS z) := fun W x y v u z ok hx hy e Q k => by
  cases e
  cases hy
  refine ⟨rfl, ?_⟩
  rw [any_non hx]
  exact k.val ok rfl
theorem any_flat {B : Hp} : ∀ {x y : PV} {v u : V} {z : Bool}, (anyS x).P B v → (anyS y).P B u → eqA x y = some z → scal v u = true ∧ decide (v = u) = z
  | .non, .non, v, u, z, hx, hy, e => by
    have h1 : anyP B .non v := hx
    have h2 : anyP B .non u := hy
    unfold anyP at h1 h2
    subst h1 h2
    cases e
    exact ⟨rfl, by simp⟩
  | .bl x, .bl y, v, u, z, hx, hy, e => by
    have h1 : anyP B (.bl x) v := hx
    have h2 : anyP B (.bl y) u := hy
    unfold anyP at h1 h2
    subst h1 h2
    cases e
    exact ⟨rfl, by simp⟩
  | .int x, .int y, v, u, z, hx, hy, e => by
    have h1 : anyP B (.int x) v := hx
    have h2 : anyP B (.int y) u := hy
    unfold anyP at h1 h2
    subst h1 h2
    cases e
    exact ⟨rfl, by simp⟩
  | .str x, .str y, v, u, z, hx, hy, e => by
    have h1 : anyP B (.str x) v := hx
    have h2 : anyP B (.str y) u := hy
    unfold anyP at h1 h2
    subst h1 h2
    cases e
    exact ⟨rfl, by simp⟩
theorem ov_eqA : OpV rEq anyS anyS eqA fun z => sh (boolS z) := fun W x y v u z ok hx hy e Q k => by
  obtain ⟨h1, h2⟩ := any_flat hx hy e
  exact ⟨h1, k.val ok (by rw [h2]; rfl)⟩
theorem ov_neA : OpV rNe anyS anyS (fun x y => (eqA x y).bind fun b => some (!b)) fun z => sh (boolS z) := fun W x y v u z ok hx hy e Q k => by
  obtain ⟨b, e1, e2⟩ := run1 e
  cases e2
  obtain ⟨h1, h2⟩ := any_flat hx hy e1
  exact ⟨h1, k.val ok (by rw [h2]; rfl)⟩
theorem iv_any {K : PySem.W.Frag} : IxV (rIxA K) (fun x => sh (anyS x)) intS ixA fun x => sh (anyS x) := fun W x y v u z F1 ok hx hy e Q k => by
  cases x with
  | tup xs => exact .inr (iv_tup W xs y v u z F1 ok ⟨hx.1, pv_tup hx.2⟩ hy e Q k)
  | lst xs => exact .inl (iv_lst W xs y v u z F1 ok ⟨hx.1, pv_lst hx.2⟩ hy e Q k)
  | non => cases e
  | bl _ => cases e
  | int _ => cases e
  | str _ => cases e
theorem len_any {m : Option PV} {p : Pos} (hm : S.mg "len" = none) (h : JN S a Γ m fun x => sh (anyS x)) (hg : GlS S "len" := by rfl) (hs : ∀ env, starEach [a] env = [(false, eval a env)] := by intro _; rfl) : JN S (.Call (.Name "len" p) [a] [] pos) Γ (m.bind fun x => lenA x) fun z => sh (intS z) :=
  jn_b1 (r := fun xs H Q => ∃ p ys, xs = [.ref p] ∧ (SqL S.K H p ys ∨ SqT S.K H p ys) ∧ Q (.int ys.length) H) (f := lenA) (fun X hX => hX.K ▸ call_len_seq) (fun W x v z ok hh e Q k => by
    cases x with
    | tup xs =>
      cases e
      obtain ⟨p, vs, rfl, q2, q3⟩ := pv_tup hh
      exact ⟨p, vs, rfl, .inr (.inl (.inl (ok p _ q2))), k.val ok (by rw [q3.len]; rfl)⟩
    | lst xs =>
      cases e
      obtain ⟨p, vs, rfl, q2, q3⟩ := pv_lst hh
      exact ⟨p, vs, rfl, .inl (.inl (.inl (ok p _ q2))), k.val ok (by rw [q3.len]; rfl)⟩
    | non => cases e
    | bl _ => cases e
    | int _ => cases e
    | str _ => cases e) hm h hg PySem.boot_len (by decide) (by decide) hs
end
/-- nothing is promised yet -/
theorem fn_zero {P : Program} {w : World} {K : PySem.W.Frag} {mg : Str → Option Value} {base : Heap} {x qual : Str} {st : Stmt} {f : Addr} {fd : FuncData} {dvs : List V} {kwd : List (Str × V)} {N ps : List Str} {k : Nat} {G : α → List SP} {R : ρ → OP} (F : FunD K x qual (defArgs st) (defBody st) (defScope st) dvs kwd f fd) (Sc : FnScope N ps (defScope st)) :
    FnOk P w K mg base CX0 (k + 1) f fd ps (spP G (fun _ => none) R) := by
  refine F.ok Sc (fun vs H Q E h => ?_) (fun cdv A outer s H vs Q E hr h => ?_)
  · obtain ⟨a, W, r, _, _, _, h4, _⟩ := h
    cases h4
  · obtain ⟨a, W, r, _, _, _, h4, _⟩ := h
    cases h4
end CC
set_option maxHeartbeats 4000000
/-! Exceptions. -/
namespace CC
open PySem PySem.Spec L2
open PyProof.Rows hiding St
variable {α β γ δ τ υ ω ρ ε : Type}
inductive Res (ε α : Type) where
  | ok (a : α)
  | er (e : ε)
def Res.k (r : Res ε α) (f : α → Option ω) (g : ε → Option ω) : Option ω := match r with
  | .ok a => f a
  | .er e => g e
def XD (Γl : α → Ctx) (Γx : Ctx) (Xp : ε → XP) : Res ε α → Kd
  | .ok a => .nx (Γl a)
  | .er e => .xc Γx (Xp e)
def RX (Δ Δx : Ctx) (R : α → OP) (Xp : ε → XP) : Res ε α → Kd
  | .ok a => .rt Δ (R a)
  | .er e => .xc Δx (Xp e)
def JNX (S : Stc) (e : Expr) (Γ : Ctx) (m : Option (Res ε α)) (R : α → OP) (Xp : ε → XP) : Prop :=
  ∀ σ W F, Sta Γ σ W F → ∀ r, m = some r → ∀ Q : VK, (match r with | .ok x => Got (R x) W Q | .er e => ∀ c d W', Ext W W' → (Xp e).P W'.B c d → S.W c d σ W'.H) → tOf S e σ W.H Q
def spX (G : α → List SP) (fM : α → Option (Res ε ρ)) (R : ρ → OP) (Xp : ε → XP) : Sp := fun vs H Q E => ∃ x W r, W.H = H ∧ Ex W.B W.H ∧ Hets W.B vs (G x) ∧ fM x = some r ∧ (match r with | .ok y => Got (R y) W Q | .er e => ∀ c d W', Ext W W' → (Xp e).P W'.B c d → E c d W'.H)
def tmOf (S : Stc) (e : Expr) : L2.St → Hp → XK → Prop := fun σ H Q => ∃ t : L2.St → Hp → XK → Prop, (∀ X, S.In X → PMk X e t) ∧ t σ H Q
theorem pmO {S : Stc} {X : Cx} {e : Expr} (h : S.In X) : PMk X e (tmOf S e) := fun pins s σ H Q I ⟨_, p, q⟩ => p X h pins s σ H Q I q
/-- an expression that makes an exception -/
def JM (S : Stc) (e : Expr) (Γ : Ctx) (m : Option ε) (Xp : ε → XP) : Prop :=
  ∀ σ W F, Sta Γ σ W F → ∀ x, m = some x → ∀ Q : XK, (∀ c d W', Ext W W' → (Xp x).P W'.B c d → Q c d W'.H) → tmOf S e σ W.H Q
section
variable {S : Stc} {Γ Δ : Ctx} {a b c e : Expr} {es : List Expr} {pos : Pos} {st : Stmt} {rest A B : List Stmt}
theorem jx_of {m : Option α} {R : α → OP} {Xp : ε → XP} (h : JN S e Γ m R) : JNX S e Γ (m.bind fun x => some (Res.ok x)) R Xp := fun σ W F sta r hr Q k => by
  obtain ⟨x, h1, h2⟩ := run1 hr
  cases h2
  exact h σ W F sta x h1 Q k
theorem jx_call {x : Str} {p : Pos} {f : Addr} {fd : FuncData} {ps : List Str} {k : Nat} {G : α → List SP} {fM : α → Option (Res ε ρ)} {R : ρ → OP} {Xp : ε → XP} {m : Option α} (Fn : FnOk S.P S.w S.K S.mg S.base (L2.CX S.P S.w) k f fd ps (spX G fM R Xp)) (hm : S.mg x = some (.ref f)) (kp : PySem.W.keepIn S.K (.ref f) = true) (hb : Binds S.K fd ps [])
    (hk : k ≤ S.k) (ha : JA S (e :: es) Γ m G) (hg : GlS S x := by rfl) (hdb : (x == ("__debug__" : Str)) = false := by decide) (he : ∀ env, starEach (e :: es) env = (false, eval e env) :: starEach es env := by intro _; rfl) (hpl : ∀ env, (backTo pos (starEach es env)).any (·.1) = false := by intro _; rfl) (hcm : S.calm = true := by rfl) :
    JNX S (.Call (.Name x p) (e :: es) [] pos) Γ (m.bind fun y => fM y) R Xp := fun σ W F st z hz Q kk => by
  obtain ⟨y, h1, h2⟩ := run1 hz
  refine ⟨tCallS (spX G fM R Xp) (WE S.W) (taOf S (e :: es)), fun X hX => pe_callS (fnokS Fn hX) ((hX.room hcm).mono hk) (hg.gl hX) (mgS hm hX) (by rw [hX.K]; exact kp) (by rw [hX.K]; exact hb) (fun σ => by rw [← hX.prog, ← hX.w]; exact passAt hX.tk σ) (paO hX) hdb (he _) (hpl _), ha σ W F st y h1 _ fun vs W' ext hh => ?_⟩
  refine ⟨y, W', z, rfl, ext.ok, hh, h2, ?_⟩
  cases z with
  | ok v => exact Got.ext kk ext
  | er u => exact fun c d W2 e2 hp => kk c d W2 (ext.trans e2) hp
theorem jx_if {mc : Option Bool} {ma mb : Option (Res ε α)} {R : α → OP} {Xp : ε → XP} (hc : JT S c Γ mc) (ha : JNX S a Γ ma R Xp) (hb : JNX S b Γ mb R Xp) : JNX S (.IfExp c a b pos) Γ (mc.bind fun t => bif t then ma else mb) R Xp := fun σ W F st z hz Q k => by
  obtain ⟨t, h1, h2⟩ := run1 hz
  refine ⟨tIf (ttOf S c) (tOf S a) (tOf S b), fun X hX => pe_ifExp (ptO hX) (peO hX) (peO hX), hc σ W F st t h1 _ fun W1 e1 => ?_⟩
  cases t with
  | true =>
    refine iteT (ha σ W1 F (st.ext e1) z h2 Q ?_)
    cases z with
    | ok x => exact Got.ext k e1
    | er u => exact fun c d W2 e2 hp => k c d W2 (e1.trans e2) hp
  | false =>
    refine iteF (hb σ W1 F (st.ext e1) z h2 Q ?_)
    cases z with
    | ok x => exact Got.ext k e1
    | er u => exact fun c d W2 e2 hp => k c d W2 (e1.trans e2) hp
def JAX (S : Stc) (es : List Expr) (Γ : Ctx) (m : Option (Res ε α)) (G : α → List SP) (Xp : ε → XP) : Prop :=
  ∀ σ W F, Sta Γ σ W F → ∀ r, m = some r → ∀ Q : List V → Hp → Prop, (match r with | .ok x => ∀ vs W', Ext W W' → Hets W'.B vs (G x) → Q vs W'.H | .er e => ∀ c d W', Ext W W' → (Xp e).P W'.B c d → S.W c d σ W'.H) → taOf S es σ W.H Q
def consX (r : Res ε α) (m : Option (Res ε β)) : Option (Res ε (α × β)) := r.k (fun x => m.bind fun q => q.k (fun y => some (.ok (x, y))) fun e => some (.er e)) fun e => some (.er e)
theorem jax_of {m : Option α} {G : α → List SP} {Xp : ε → XP} (h : JA S es Γ m G) : JAX S es Γ (m.bind fun x => some (Res.ok x)) G Xp := fun σ W F sta r hr Q k => by
  obtain ⟨x, h1, h2⟩ := run1 hr
  cases h2
  exact h σ W F sta x h1 Q k
theorem jax_cons {ma : Option (Res ε α)} {mb : Option (Res ε β)} {E : α → SP} {G : β → List SP} {Xp : ε → XP} (ha : JNX S e Γ ma (fun x => sh (E x)) Xp) (hb : JAX S es Γ mb G Xp) (hs : ∀ env, starEach (e :: es) env = (false, eval e env) :: starEach es env := by intro _; rfl) :
    JAX S (e :: es) Γ (ma.bind fun r => consX r mb) (fun p => E p.1 :: G p.2) Xp := fun σ W F st z hz Q k => by
  obtain ⟨r, h1, h2⟩ := run1 hz
  refine ⟨tCons (tOf S e) (taOf S es), fun X hX => pa_cons (peO hX) (paO hX) (hs _), ha σ W F st r h1 _ ?_⟩
  cases r with
  | er u =>
    cases h2
    exact k
  | ok x =>
    obtain ⟨q, h3, h4⟩ := run1 (f := fun q : Res ε β => q.k (fun y => some (Res.ok (x, y))) fun e => some (.er e)) h2
    intro v W1 F1 e1 _ _ r1
    refine hb σ W1 F (st.ext e1) q h3 _ ?_
    cases q with
    | er u =>
      cases h4
      exact fun c d W2 e2 hp => k c d W2 (e1.trans e2) hp
    | ok y =>
      cases h4
      exact fun vs W2 e2 h => k (v :: vs) W2 (e1.trans e2) ⟨SP.mono _ r1.2 e2.b, h⟩
def mapX (g : α → β) : Res ε α → Res ε β
  | .ok x => .ok (g x)
  | .er e => .er e
theorem jx_tupG {m : Option (Res ε α)} {G : α → List SP} {P : β → SP} {g : α → β} {Xp : ε → XP} {k : Nat} (h : JAX S es Γ m G Xp) (hR : ∀ x, htupS (G x) = P (g x) := by intro _; rfl) (hl : ∀ x, (G x).length ≤ 1000 := by intro _; exact Nat.le_of_ble_eq_true rfl) : JNX S (.Tuple es k pos) Γ (m.bind fun r => some (mapX g r)) (fun y => sh (P y)) Xp := fun σ W F st z hz Q kk => by
  obtain ⟨r, h1, h2⟩ := run1 hz
  cases h2
  refine ⟨tTup (taOf S es), fun X hX => pe_tup (paO hX), h σ W F st r h1 _ ?_⟩
  cases r with
  | er u => exact kk
  | ok x =>
    intro vs W' e hh
    refine ⟨Nat.le_trans (by rw [hh.len]; exact hl x) (by decide), fun q hq => ?_⟩
    have e2 := Ext.newB e.ok (o := .tup vs) hq
    exact kk (.ref q) ⟨upd W'.H q (.tup vs), upd W'.B q (.tup vs)⟩ [] (e.trans e2) (fun _ h => (List.not_mem_nil h).elim) FpOk.nil ⟨rfl, by rw [← hR]; exact ⟨q, vs, rfl, upd_same, hh.mono e2.b⟩⟩
theorem js_setX {x : Str} {pos' : Pos} {m : Option (Res ε α)} {R : α → OP} {Xp : ε → XP} (i : Nat) (nd : S.N.Nodup) (h : JNX S e Γ m R Xp) (hi : (Γ[i]?).isSome = true := by rfl) (hN : S.N[i]? = some x := by rfl) (hx : Loc S.sc x := by first | exact Or.inl rfl | exact Or.inr rfl) (hp : (S.prot.contains i) = false := by rfl)
    (hs : ∀ env, swapsWith e (some (.Name x pos')) pos.line env = pure false := by intro _; rfl) (hf : S.fn x = true ∨ S.sc.names.lookup x = some .local := by first | exact .inl rfl | exact .inr rfl) : JS S (.Assign [.Name x pos'] e pos) Γ m (XD (fun a => Γ.set i (some (R a))) Γ Xp) := fun σ W F sta y hy E k => by
  refine ⟨tAsg (tOf S e) (gName i), fun X hX => ps_set (by rw [hX.N]; exact nd) (by rw [hX.N]; exact hN) (locS hx hX) (peO hX) (hs _) (by rw [hX.fn, hX.sc]; exact hf), h σ W F sta y hy _ ?_⟩
  cases y with
  | ok v =>
    exact fun v W' Fv ext fr fp r => by
      obtain ⟨F', s', stp⟩ := sta_set sta ext fr fp r hi
      exact k _ W' F' (Keep.set (ncon hp)) stp s'
  | er u => exact fun c d W' ext hp => k c d σ W' F Keep.refl ext.stp0 (sta.ext ext) hp
theorem jb_retX {m : Option (Res ε α)} {R : α → OP} {Xp : ε → XP} {Δx : Ctx} (w : Weak Γ Δ) (wx : Weak Γ Δx) (h : JNX S e Γ m R Xp) : JB S (.Return (some e) pos :: rest) Γ m (RX Δ Δx R Xp) := fun σ W F sta y hy E k => by
  refine ⟨tSeq (tRet (tOf S e)) tNever, fun X hX => pss_cons (ps_ret (peO hX)) pss_never, h σ W F sta y hy _ ?_⟩
  cases y with
  | ok v =>
    exact fun v W' Fv ext fr fp r => by
      obtain ⟨F', s', sub⟩ := (sta.ext ext).weak w
      have stp := (ext.stp (F := F) fr).perm (F2 := F' ++ Fv) fun b hb => by
        rcases List.mem_append.mp hb with z | z
        · exact List.mem_append_left _ (sub b z)
        · exact List.mem_append_right _ z
      have fp' := sta.fp.fresh ext fp fr
      have fp2 : FpOk W' (F' ++ Fv) := s'.fp.app fp fun b hb h2 => fp'.disj b (sub b hb) h2
      exact k v σ W' F' Fv Keep.refl stp s' fp2 r
  | er u =>
    exact fun c d W' ext hp => by
      obtain ⟨F', s', sub⟩ := (sta.ext ext).weak wx
      exact k c d σ W' F' Keep.refl (ext.stp0.perm sub) s' hp
theorem jb_consX {ms : Option (Res ε α)} {Γl : α → Ctx} {Xp : ε → XP} {mr : α → Option ω} {D : ω → Kd} (ι : ε → ω) (w : Weak Γ Δ) (h : JS S st Γ ms (XD Γl Γ Xp)) (hι : ∀ e, D (ι e) = .xc Δ (Xp e)) (hr : ∀ x, JB S rest (Γl x) (mr x) D) : JB S (st :: rest) Γ (ms.bind fun r => r.k mr fun e => some (ι e)) D := fun σ W F sta z hz E k => by
  obtain ⟨r, h1, h2⟩ := run1 hz
  refine ⟨tSeq (tsOf S st) (tbOf S rest), fun X hX => pss_cons (psO hX) (pbO hX), ?_⟩
  refine h σ W F sta r h1 { E with nx := tbOf S rest E } ?_
  cases r with
  | ok x => exact fun σ' W' F' kp stp sta' => hr x σ' W' F' sta' z h2 E (k.before kp stp)
  | er u =>
    cases h2
    rw [hι] at k
    exact fun c d σ' W' F' kp stp sta' hp => by
      obtain ⟨F2, s', sub⟩ := sta'.weak w
      exact k c d σ' W' F2 kp (stp.perm sub) s' hp
theorem jb_raise {m : Option ε} {Xp : ε → XP} {D : ω → Kd} (ι : ε → ω) (w : Weak Γ Δ) (h : JM S e Γ m Xp) (hι : ∀ e, D (ι e) = .xc Δ (Xp e)) (hcm : S.calm = true := by rfl) : JB S (.Raise (some e) none pos :: rest) Γ (m.bind fun e => some (ι e)) D := fun σ W F sta z hz E k => by
  obtain ⟨u, h1, h2⟩ := run1 hz
  cases h2
  rw [hι] at k
  refine ⟨tSeq (fun _ σ H => tmOf S e σ H fun cls d H' => S.W cls d σ H') tNever, fun X hX => pss_cons (ps_raise (hX.calm.trans hcm) hX.tk (pmO hX)) pss_never, h σ W F sta u h1 _ fun c d W' ext hp => ?_⟩
  obtain ⟨F', s', sub⟩ := (sta.ext ext).weak w
  exact k c d σ W' F' Keep.refl (ext.stp0.perm sub) s' hp
end
/-- a def that may raise -/
theorem in_cxX {P : Program} {w : World} {K : PySem.W.Frag} {mg : Str → Option Value} {base : Heap} {N : List Str} {st : Stmt} {k : Nat} {prot : List Nat} {qual : Str} {f : Addr} {cdv : Value} {A : Around} {outer : List Env} {s : Shared} {H : Hp} {E : XK} (hr : Room k (A.deeper (envOfC qual (defScope st) s.heap.objs.size f cdv))) :
    ({ stcOf P w K mg base N (defScope st) k prot with W := fun c d _ H => E c d H } : Stc).In (cxOf (L2.CX P w) P w K mg base N qual (defScope st) f cdv A outer s H E) := ⟨rfl, rfl, rfl, rfl, rfl, rfl, rfl, rfl, rfl, fun _ => hr, hr.units, passes_of rfl, takes_of rfl rfl rfl rfl, fun _ => ⟨rfl, rfl⟩, nofun⟩
theorem fnd_pureX {P : Program} {w : World} {K : PySem.W.Frag} {mg : Str → Option Value} {base : Heap} {x qual : Str} {st : Stmt} {f : Addr} {fd : FuncData} {dvs : List V} {kwd : List (Str × V)} {N ps : List Str} {k : Nat} {G : α → List SP} {fM : α → Option (Res ε ρ)} {R : ρ → OP} {Xp : ε → XP} {Δ : Ctx} (F : FunD K x qual (defArgs st) (defBody st) (defScope st) dvs kwd f fd) (Sc : FnScope N ps (defScope st)) (hG : ∀ a, (G a).length = ps.length) (hn : ps.length ≤ N.length)
    (body : ∀ a (wx : WX), JB { stcOf P w K mg base N (defScope st) k [] with W := wx } (defBody st) (shC (G a) ++ nonC (N.length - ps.length)) (fM a) (RX Δ Δ R Xp)) : FnOk P w K mg base (L2.CX P w) (k + 1) f fd ps (spX G fM R Xp) := by
  refine F.ok Sc (fun vs H Q E h => ?_) (fun cdv A outer s H vs Q E hr h => ?_)
  · obtain ⟨a, W, r, _, _, h3, _⟩ := h
    rw [h3.len, hG]
  · obtain ⟨a, W, r, rfl, ok, h3, h4, kq⟩ := h
    refine ⟨tbOf { stcOf P w K mg base N (defScope st) k [] with W := fun c d _ H => E c d H } (defBody st), pbO (in_cxX hr), ?_⟩
    have hl : vs.length = ps.length := h3.len.trans (hG a)
    have sta : Sta (shC (G a) ++ nonC (N.length - ps.length)) (L2.start N vs) W [] := ⟨ok, FpOk.nil, by unfold L2.start shC nonC; simp [h3.len, hG, hl], by unfold L2.start; rw [hl]; exact holds_sh h3⟩
    refine body a _ _ W [] sta r h4 _ ?_
    cases r with
    | ok y =>
      intro v σ' W' F' Fv _ stp _ fp rr
      obtain ⟨ext, fr⟩ := stp.ext
      exact kq v W' Fv ext (fun a ha => fr a (List.mem_append_right _ ha)) fp.right rr
    | er u => exact fun c d σ' W' F' _ stp _ hp => kq c d W' stp.ext.1 hp
/-! ### what is raised -/
/-- an exception of the class at C, without attributes -/
def clsX (C : Addr) : XP := ⟨fun _ c d => c = .ref C ∧ d = none, fun h _ => h⟩
/-- an exception of the class C that holds this under that name (or nothing) -/
def excD (o : Option (Str × SP)) (B : Hp) (d : Option Addr) : Prop := match o with
  | none => d = none
  | some q => ∃ dd w, d = some dd ∧ B dd = some (.xd [(q.1, w)]) ∧ q.2.P B w
theorem excD_mono {o : Option (Str × SP)} {B B' : Hp} {d : Option Addr} (h : excD o B d) (e : Ex B B') : excD o B' d := by
  cases o with
  | none => exact h
  | some q =>
    obtain ⟨dd, w, h1, h2, h3⟩ := h
    exact ⟨dd, w, h1, e _ _ h2, q.2.mono h3 e⟩
def excX (C : Addr) (o : Option (Str × SP)) : XP := ⟨fun B c d => c = .ref C ∧ excD o B d, fun h e => ⟨h.1, excD_mono h.2 e⟩⟩
/-- it, caught -/
def excS (a : Addr) (d : Option Addr) (o : Option (Str × SP)) : SP := ⟨fun B v => v = .ref a ∧ excD o B d, fun h e => ⟨h.1, excD_mono h.2 e⟩⟩
/-- what the top tells of such a class -/
structure ExcF (K : PySem.W.Frag) (C : Addr) : Prop where
  q : PySem.W.excIn K C He.veBase "ValueError.__new__" = true
  kp : PySem.W.keepIn K (.ref C) = true
  s : PySem.W.subIn K (.ref C) (.type "BaseException") = some true
  t : PySem.W.typeIn K (.ref C) = some (.type "type")
theorem pmk_own0 {X : Cx} {C : Addr} {bmB : List Value} {B newId initId : String} {x : Str} {p pos : Pos} (F : ExcBaseFacts B newId initId bmB) (q : PySem.W.excIn X.K C bmB newId = true) (gC : X.mg x = some (.ref C))
    (kC : PySem.W.keepIn X.K (.ref C) = true) (r : Raises X (.ref C)) (hg : Gl X x) (hdb : (x == ("__debug__" : Str)) = false := by decide) :
    PMk X (.Call (.Name x p) [] [] pos) (fun _ H Q => Q (.ref C) none H) := by
  intro pins s σ H Q I h
  refine wpAny_Call_Name_kw (ld_glob I hg gC ?_ hdb)
  refine PySem.W.callWith_K0 I.kIn kC ?_
  show wpAny _ _ (call (.ref C) []) _ _ _
  obtain ⟨bm, N, nm, qn, bs, hdct, sn, sub, ab, col, dd, k0, k1, k2, k3, k5, mN, hC, hN, hni, T⟩ := exc_obj I.kIn q
  refine wpAny_call_exc_subT F T hC hN hni (fun h' e hm => ?_) (by show 0 ≤ sizeLine; exact Nat.zero_le _)
  exact mk_of I hm r h (I.hok.gone hm.new)
section
variable {S : Stc} {Γ Δ : Ctx} {a b c e : Expr} {es : List Expr} {pos : Pos} {st : Stmt} {rest A B : List Stmt}
theorem jm_own0 {x : Str} {p : Pos} {C : Addr} {u : ε} {Xp : ε → XP} (F : ExcF S.K C) (hm : S.mg x = some (.ref C)) (hX : Xp u = clsX C := by rfl) (hg : GlS S x := by rfl) (hdb : (x == ("__debug__" : Str)) = false := by decide) : JM S (.Call (.Name x p) [] [] pos) Γ (some u) Xp := fun σ W F' sta y hy Q k => by
  cases hy
  refine ⟨fun _ H Q => Q (.ref C) none H, fun X hX' => pmk_own0 PySem.F.excBase_ValueError (by rw [hX'.K]; exact F.q) (mgS hm hX') (by rw [hX'.K]; exact F.kp) (raises_own (by rw [hX'.K]; exact F.s) (by rw [hX'.K]; exact F.t)) (hg.gl hX') hdb, k _ _ W (Ext.refl sta.ok) ?_⟩
  rw [hX]
  exact ⟨rfl, rfl⟩
theorem jm_ownA {x : Str} {p : Pos} {C : Addr} {m : Option α} {G : α → List SP} {u : α → ε} {Xp : ε → XP} (F : ExcF S.K C) (hm : S.mg x = some (.ref C)) (ha : JA S (e :: es) Γ m G) (hX : ∀ y, Xp (u y) = clsX C := by intro _; rfl) (hl : ∀ y, (G y).length ≤ 1000 := by intro _; exact Nat.le_of_ble_eq_true rfl) (hg : GlS S x := by rfl) (hdb : (x == ("__debug__" : Str)) = false := by decide)
    (he : ∀ env, starEach (e :: es) env = (false, eval e env) :: starEach es env := by intro _; rfl) (hpl : ∀ env, (backTo pos (starEach es env)).any (·.1) = false := by intro _; rfl) : JM S (.Call (.Name x p) (e :: es) [] pos) Γ (m.bind fun y => some (u y)) Xp := fun σ W F' sta y hy Q k => by
  obtain ⟨y, h1, h2⟩ := run1 hy
  cases h2
  refine ⟨fun σ H Q => taOf S (e :: es) σ H fun vs H1 => vs.length ≤ sizeLine ∧ Q (.ref C) none H1, fun X hX' => pmk_ownA PySem.F.excBase_ValueError (by rw [hX'.K]; exact F.q) (mgS hm hX') (by rw [hX'.K]; exact F.kp) (raises_own (by rw [hX'.K]; exact F.s) (by rw [hX'.K]; exact F.t)) (hg.gl hX') (paO hX') hdb (he _) (hpl _), ha σ W F' sta y h1 _ fun vs W1 ext hh => ⟨?_, k _ _ W1 ext ?_⟩⟩
  · rw [hh.len]
    exact Nat.le_trans (hl y) (by decide)
  · rw [hX]
    exact ⟨rfl, rfl⟩
/-! ### try .. except C: (every exception of the body is C's) -/
/-- the context of an except suite -/
abbrev Stc.sui (S : Stc) : Stc := { S with W := fun _ _ _ _ => False, calm := false, top := false, ex := none }
theorem Stc.In.sui {X : Cx} (h : S.In X) (a : Addr) (pn : List (Addr × Obj)) : S.sui.In (X.suite a pn) :=
  ⟨h.prog, h.w, h.K, h.mg, h.base, h.N, h.sc, h.fn, rfl, nofun, h.un, PassesOwn.never, takes_none, nofun, nofun⟩
theorem Stc.In.tr {X : Cx} (h : S.In X) (hx : S.ex = none) {W : WX} {pn : List (Addr × Obj)} {xe : Value → Shared → Prop} (tk : Takes (X.tr pn xe) W) (pass : PassesOwn (model X.prog X.w) X.A X.env xe) : ({ S with W := W } : Stc).In (X.tr pn xe) :=
  ⟨h.prog, h.w, h.K, h.mg, h.base, h.N, h.sc, h.fn, h.calm, h.room, h.un, pass, tk, h.top, fun a C d z => by have : S.ex = some (a, C, d) := z; rw [hx] at this; cases this⟩
/-- what the handler does with the body's outcome -/
def tryM (m : Option (Res ε ω)) (f : ε → Option ω) : Option ω := m.bind fun r => r.k (fun x => some x) f
def TD (D : ω → Kd) (Γx : Ctx) (Xp : ε → XP) : Res ε ω → Kd
  | .ok x => D x
  | .er e => .xc Γx (Xp e)
theorem js_try {x : Str} {c : Value} {np pos' : Pos} {b₀ : Stmt} {mb : Option (Res ε ω)} {ms : ε → Option ω} {Xp : ε → XP} {D : ω → Kd} (Γx : Ctx) (hb : ∀ wx : WX, JB { S with W := wx } B Γ mb (TD D Γx Xp)) (hs : ∀ u, JB S.sui (b₀ :: A) Γx (ms u) D) (hm : S.mg x = some c) (hx : ∀ u B c' d, (Xp u).P B c' d → PySem.W.exmOne S.K c' c = some true)
    (hx0 : ∀ o, ∀ Γ' R, D o ≠ .xc Γ' R) (hg : GlS S x := by rfl) (hdb : (x == ("__debug__" : Str)) = false := by decide) (htop : S.top = true := by rfl) (hex : S.ex = none := by rfl) : JS S (.Try B [.ExceptHandler (some (.Name x np)) none (b₀ :: A) pos'] [] [] pos) Γ (tryM mb ms) D := fun σ W F sta z hz E k => by
  obtain ⟨r, h1, h2⟩ := run1 hz
  refine ⟨fun D σ H => tbOf { S with W := wOnly S.K c (fun _ _ _ => tbOf S.sui (b₀ :: A)) S.W D } B D σ H, fun X hX => ?_, ?_⟩
  · obtain ⟨t1, t2⟩ := hX.top htop
    have := ps_try_only (pos := pos) (pos' := pos') (np := np) t1 t2 (c := c) (x := x) (b₀ := b₀) (suite := A) (body := B) (ts := fun _ _ _ => tbOf S.sui (b₀ :: A)) (tb := fun W => tbOf { S with W := W } B) ⟨hg.gl hX, hdb, .inl (mgS hm hX)⟩ hX.tk (fun W pn xe tk pass => pbO (hX.tr hex tk pass)) (fun a oe cls d pn _ _ => pbO (hX.sui a _))
    rw [hX.K] at this
    exact this
  · refine hb _ σ W F sta r h1 E ?_
    cases r with
    | ok o =>
      cases h2
      show Post _ S.prot σ W F E (D z)
      generalize hq : D z = q at k
      cases q with
      | nx Γ => exact k
      | bk Γ => exact k
      | ct Γ => exact k
      | rt Γ R => exact k
      | xc Γ R => exact absurd hq (hx0 z Γ R)
    | er u =>
      intro c' d σ' W' F' kp stp sa hp
      refine ⟨true, hx u _ _ _ hp, fun _ a ha => ?_, fun q => nomatch q⟩
      refine hs u σ' W' F' sa z h2 E ?_
      have k' := k.before kp stp
      generalize hq : D z = q at k'
      cases q with
      | nx Γ => exact k'
      | bk Γ => exact k'
      | ct Γ => exact k'
      | rt Γ R => exact k'
      | xc Γ R => exact absurd hq (hx0 z Γ R)
end
end CC
set_option maxHeartbeats 4000000
/-! More operators. -/
namespace CC
open PySem PySem.Spec L2
open PyProof.Rows hiding St
variable {α β γ δ τ υ ω ρ ε : Type}
/-! ### in -/
structure FlatE [DecidableEq α] (E : α → SP) (V : α → V) : Prop where
  eq : ∀ {B x v}, (E x).P B v → v = V x
  flat : ∀ x, flatV (V x) = true
  inj : ∀ x y, eqV (V x) (V y) = decide (x = y)
theorem fl_int : FlatE intS V.int := ⟨fun h => h, fun _ => rfl, fun x y => by show (x == y) = _; rw [Bool.eq_iff_iff]; simp⟩
theorem fl_str : FlatE strS V.str := ⟨fun h => h, fun _ => rfl, fun x y => by show (x == y) = _; rw [Bool.eq_iff_iff]; simp⟩
theorem fl_bool : FlatE boolS V.bl := ⟨fun h => h, fun _ => rfl, fun x y => by show (x == y) = _; rw [Bool.eq_iff_iff]; simp⟩
theorem each_flat [DecidableEq α] {E : α → SP} {V : α → V} (f : FlatE E V) {B : Hp} : ∀ {vs : List L2.V} {xs : List α}, Each E B vs xs → vs = xs.map V
  | [], [], _ => rfl
  | v :: vs, x :: xs, h => by rw [f.eq h.1, each_flat f h.2]; rfl
  | [], _ :: _, h => h.elim
  | _ :: _, [], h => h.elim
theorem flat_all [DecidableEq α] {E : α → SP} {V : α → V} (f : FlatE E V) (xs : List α) : (xs.map V).all flatV = true := by
  rw [List.all_map]
  exact List.all_eq_true.mpr fun x _ => f.flat x
theorem flat_in [DecidableEq α] {E : α → SP} {V : α → V} (f : FlatE E V) (x : α) (xs : List α) : inV (V x) (xs.map V) = decide (x ∈ xs) := by
  unfold inV
  rw [List.any_map]
  have e : ((fun y => eqV y (V x)) ∘ V) = fun y => decide (y = x) := funext fun y => f.inj y x
  rw [e]
  rw [Bool.eq_iff_iff]
  simp
theorem ov_inT [DecidableEq α] {K : PySem.W.Frag} {E : α → SP} {V : α → V} (f : FlatE E V) : OpV (rIn K false) E (tupS E) (fun x xs => some (decide (x ∈ xs))) fun z => sh (boolS z) := fun W x y v u z ok hx hy e Q k => by
  cases e
  obtain ⟨a, vs, rfl, h2, h3⟩ := hy
  have e1 := each_flat f h3
  have e2 := f.eq hx
  subst e1 e2
  exact ⟨a, _, rfl, .inr (.inl (.inl (ok a _ h2))), f.flat x, flat_all f y, k.val ok (by show L2.V.bl (inV (V x) (y.map V)) = _; rw [flat_in f])⟩
theorem ov_inL [DecidableEq α] {K : PySem.W.Frag} {E : α → SP} {V : α → V} (f : FlatE E V) : OpV (rIn K false) E (lstS E) (fun x xs => some (decide (x ∈ xs))) fun z => sh (boolS z) := fun W x y v u z ok hx hy e Q k => by
  cases e
  obtain ⟨a, vs, rfl, h2, h3⟩ := hy
  have e1 := each_flat f h3
  have e2 := f.eq hx
  subst e1 e2
  exact ⟨a, _, rfl, .inl (.inl (.inl (ok a _ h2))), f.flat x, flat_all f y, k.val ok (by show L2.V.bl (inV (V x) (y.map V)) = _; rw [flat_in f])⟩
theorem ov_ninT [DecidableEq α] {K : PySem.W.Frag} {E : α → SP} {V : α → V} (f : FlatE E V) : OpV (rIn K true) E (tupS E) (fun x xs => some (!decide (x ∈ xs))) fun z => sh (boolS z) := fun W x y v u z ok hx hy e Q k => by
  cases e
  obtain ⟨a, vs, rfl, h2, h3⟩ := hy
  have e1 := each_flat f h3
  have e2 := f.eq hx
  subst e1 e2
  exact ⟨a, _, rfl, .inr (.inl (.inl (ok a _ h2))), f.flat x, flat_all f y, k.val ok (by show L2.V.bl (!inV (V x) (y.map V)) = _; rw [flat_in f])⟩
theorem ov_ninL [DecidableEq α] {K : PySem.W.Frag} {E : α → SP} {V : α → V} (f : FlatE E V) : OpV (rIn K true) E (lstS E) (fun x xs => some (!decide (x ∈ xs))) fun z => sh (boolS z) := fun W x y v u z ok hx hy e Q k => by
  cases e
  obtain ⟨a, vs, rfl, h2, h3⟩ := hy
  have e1 := each_flat f h3
  have e2 := f.eq hx
  subst e1 e2
  exact ⟨a, _, rfl, .inl (.inl (.inl (ok a _ h2))), f.flat x, flat_all f y, k.val ok (by show L2.V.bl (!inV (V x) (y.map V)) = _; rw [flat_in f])⟩
theorem oIn {S : Stc} : ∀ X, S.In X → OpR X (compareOp .In) (rIn S.K false) := fun _ h => h.K ▸ op_in_seq
theorem oNotIn {S : Stc} : ∀ X, S.In X → OpR X (compareOp .NotIn) (rIn S.K true) := fun _ h => h.K ▸ op_notIn_seq
/-! ### tuple +, list * -/
theorem oCatT {S : Stc} : ∀ X, S.In X → OpR X (binaryOp .Add) (rCatA S.K) := fun _ h => h.K ▸ op_catA
theorem ov_catT {K : PySem.W.Frag} {E : α → SP} : OpV (rCatA K) (tupS E) (tupS E) catM fun x => sh (tupS E x) := fun W x y v u z ok hx hy e Q k => by
  unfold catM at e
  split at e
  · rename_i hl
    cases e
    obtain ⟨a, vs, rfl, a2, a3⟩ := hx
    obtain ⟨b, us, rfl, b2, b3⟩ := hy
    refine ⟨a, b, vs, us, rfl, rfl, .inl (.inl (ok a _ a2)), .inl (.inl (ok b _ b2)), lim_le (by rw [a3.len, b3.len]; exact hl), fun h => ?_, fun _ h => ?_, fun _ _ => k.newT ok (a3.app b3)⟩
    · have : x = [] := List.eq_nil_of_length_eq_zero (by rw [← a3.len, h]; rfl)
      subst this
      exact k.val ok ⟨b, us, rfl, b2, b3⟩
    · have : y = [] := List.eq_nil_of_length_eq_zero (by rw [← b3.len, h]; rfl)
      subst this
      rw [List.append_nil] at k
      exact k.val ok ⟨a, vs, rfl, a2, a3⟩
  · cases e
def repM (xs : List α) (k : Int) : Option (List α) := if xs.length * k.toNat ≤ LIM ∧ -1000000 ≤ k ∧ k ≤ 1000000 then some (List.replicate k.toNat xs).flatten else none
theorem oRep {S : Stc} : ∀ X, S.In X → OpR X (binaryOp .Mult) rRep := fun _ _ => op_rep
theorem each_rep {E : α → SP} {B : Hp} {vs : List V} {xs : List α} (h : Each E B vs xs) : ∀ n : Nat, Each E B (List.replicate n vs).flatten (List.replicate n xs).flatten
  | 0 => trivial
  | n + 1 => by
    rw [List.replicate_succ, List.replicate_succ, List.flatten_cons, List.flatten_cons]
    exact h.app (each_rep h n)
theorem ov_rep {E : α → SP} : OpV rRep (lstS E) intS repM (lstO fun x => sh (E x)) := fun W x y v u z ok hx hy e Q k => by
  unfold repM at e
  split at e
  · rename_i hl
    cases e
    cases hy
    obtain ⟨a, vs, rfl, a2, a3⟩ := hx
    exact ⟨a, y, vs, rfl, rfl, ok a _ a2, by omega, by omega, lim_le (by rw [a3.len]; exact hl.1), k.newL ok (each_rep a3 _)⟩
  · cases e
/-! ### a < b < c -/
section
variable {S : Stc} {Γ : Ctx} {a b c e : Expr} {pos : Pos}
theorem jn_chain {op op' : CmpOp} {r r' : R2} {E : α → SP} {G : β → SP} {I : γ → SP} {f : α → β → Option Bool} {g : β → γ → Option Bool} {ma : Option α} {mb : Option β} {mc : Option γ} (ho : ∀ X, S.In X → OpR X (compareOp op) r) (hr : OpV r E G f fun z => sh (boolS z)) (ho' : ∀ X, S.In X → OpR X (compareOp op') r') (hr' : OpV r' G I g fun z => sh (boolS z))
    (ha : JN S a Γ ma fun x => sh (E x)) (hb : JN S b Γ mb fun x => sh (G x)) (hc : JN S c Γ mc fun x => sh (I x)) (hm : lastMarks [op, op'] [b, c] = false := by with_unfolding_all rfl) :
    JN S (.Compare a [op, op'] [b, c] pos) Γ (ma.bind fun x => mb.bind fun y => (f x y).bind fun t => bif t then mc.bind fun z => g y z else some false) fun z => sh (boolS z) := fun σ W F st z hz Q k => by
  obtain ⟨x, y, h1, h2, h3⟩ := run2 hz
  obtain ⟨t, h4, h5⟩ := run1 h3
  refine ⟨tChain r r' (tOf S a) (tOf S b) (tOf S c), fun X hX => pe_chain (ho X hX) (ho' X hX) (peO hX) (peO hX) (peO hX) hm, ?_⟩
  refine ha σ W F st x h1 _ fun v W1 F1 e1 _ _ r1 => hb σ W1 F (st.ext e1) y h2 _ fun u W2 F2 e2 _ _ r2 => ?_
  refine hr W2 x y v u t e2.ok (SP.mono _ r1.2 e2.b) r2.2 h4 _ fun w W3 F3 e3 _ _ r3 => ?_
  have e13 := (e1.trans e2).trans e3
  refine ⟨t, r3.2, ?_⟩
  cases t with
  | false =>
    cases h5
    rw [if_neg (fun z => nomatch z)]
    exact (k.ext e13).val e3.ok rfl
  | true =>
    rw [if_pos rfl]
    obtain ⟨q, h6, h7⟩ := run1 (f := fun z => g y z) h5
    refine hc σ W3 F (st.ext e13) q h6 _ fun w' W4 F4 e4 _ _ r4 => ?_
    exact hr' W4 y q u w' z e4.ok (SP.mono _ (SP.mono _ r2.2 e3.b) e4.b) r4.2 h7 Q (k.ext (e13.trans e4))
theorem sum_lst {m : Option (List Int)} {p : Pos} (hm : S.mg "sum" = none) (h : JN S a Γ m fun x => sh (lstS intS x)) (hg : GlS S "sum" := by rfl) (hs : ∀ env, starEach [a] env = [(false, eval a env)] := by intro _; rfl) (hcm : S.calm = true := by rfl) : JN S (.Call (.Name "sum" p) [a] [] pos) Γ (m.bind fun x => some x.sum) fun z => sh (intS z) :=
  jn_b1 (f := fun x : List Int => some x.sum) (fun X hX => hX.K ▸ cr_sum (hX.calm.trans hcm)) (fun W x v z ok hh e Q k => by
    cases e
    obtain ⟨a, vs, rfl, h2, h3⟩ := hh
    have e1 := each_flat fl_int h3
    subst e1
    exact ⟨a, x, rfl, .inl (.inl (ok a _ h2)), k.val ok rfl⟩) hm h hg (by decide +kernel) (by decide) (by decide) hs
end
end CC
set_option maxHeartbeats 4000000
/-! Dicts: keys are ints (texts), values are shared; records with written keys. -/
namespace CC
open PySem PySem.Spec L2
open PyProof.Rows hiding St
variable {α β γ δ τ υ ω ρ ε κ : Type}
structure KeyE (kE : κ → SP) (kk : κ → Key) : Prop where
  eq : ∀ {B k v}, (kE k).P B v → v = kV (kk k)
  inj : ∀ {a b}, kk a = kk b → a = b
theorem ke_int : KeyE intS Sum.inl := ⟨fun h => h, fun h => Sum.inl.inj h⟩
theorem ke_str : KeyE strS Sum.inr := ⟨fun h => h, fun h => Sum.inr.inj h⟩
def DRel (kk : κ → Key) (E : α → SP) (B : Hp) : List (Key × V) → List (κ × α) → Prop
  | [], [] => True
  | p :: r, q :: s => p.1 = kk q.1 ∧ (E q.2).P B p.2 ∧ DRel kk E B r s
  | _, _ => False
theorem DRel.mono {kk : κ → Key} {E : α → SP} {B B' : Hp} (e : Ex B B') : ∀ {r : List (Key × V)} {s : List (κ × α)}, DRel kk E B r s → DRel kk E B' r s
  | [], [], _ => trivial
  | _ :: _, _ :: _, h => ⟨h.1, SP.mono _ h.2.1 e, DRel.mono e h.2.2⟩
  | [], _ :: _, h => h.elim
  | _ :: _, [], h => h.elim
theorem DRel.len {kk : κ → Key} {E : α → SP} {B : Hp} : ∀ {r : List (Key × V)} {s : List (κ × α)}, DRel kk E B r s → r.length = s.length
  | [], [], _ => rfl
  | _ :: _, _ :: _, h => by rw [List.length_cons, List.length_cons, DRel.len h.2.2]
  | [], _ :: _, h => h.elim
  | _ :: _, [], h => h.elim
variable [DecidableEq κ]
def getM : List (κ × α) → κ → Option α
  | [], _ => none
  | q :: s, k => if q.1 = k then some q.2 else getM s k
def putR : List (κ × α) → κ → α → List (κ × α)
  | [], _, _ => []
  | q :: s, k, x => (if q.1 = k then (q.1, x) else q) :: putR s k x
def putM (s : List (κ × α)) (k : κ) (x : α) : List (κ × α) := if (getM s k).isSome then putR s k x else s ++ [(k, x)]
theorem DRel.get {kE : κ → SP} {kk : κ → Key} (K : KeyE kE kk) {E : α → SP} {B : Hp} : ∀ {r : List (Key × V)} {s : List (κ × α)} (k : κ), DRel kk E B r s → match getM s k with | none => valV r (kk k) = none | some x => ∃ v, valV r (kk k) = some v ∧ (E x).P B v
  | [], [], k, _ => rfl
  | p :: r, q :: s, k, h => by
    unfold getM
    by_cases e : q.1 = k
    · rw [if_pos e]
      exact ⟨p.2, valV_pos (h.1.trans (by rw [e])), h.2.1⟩
    · rw [if_neg e]
      have := DRel.get K k h.2.2
      rw [valV_neg (fun z => e (K.inj (h.1.symm.trans z)))]
      exact this
  | [], _ :: _, _, h => h.elim
  | _ :: _, [], _, h => h.elim
theorem DRel.repl {kE : κ → SP} {kk : κ → Key} (K : KeyE kE kk) {E : α → SP} {B : Hp} {k : κ} {x : α} {v : V} (hv : (E x).P B v) : ∀ {r : List (Key × V)} {s : List (κ × α)}, DRel kk E B r s → DRel kk E B (r.map fun kv => if kv.1 = kk k then (kv.1, v) else kv) (putR s k x)
  | [], [], _ => trivial
  | p :: r, q :: s, h => by
    have ih := DRel.repl K (k := k) hv h.2.2
    rw [List.map_cons]
    unfold putR
    by_cases e : q.1 = k
    · rw [if_pos e, if_pos (h.1.trans (by rw [e]))]
      exact ⟨h.1, hv, ih⟩
    · rw [if_neg e, if_neg (fun z => e (K.inj (h.1.symm.trans z)))]
      exact ⟨h.1, h.2.1, ih⟩
  | [], _ :: _, h => h.elim
  | _ :: _, [], h => h.elim
theorem DRel.snoc {kk : κ → Key} {E : α → SP} {B : Hp} {k : κ} {x : α} {v : V} (hv : (E x).P B v) : ∀ {r : List (Key × V)} {s : List (κ × α)}, DRel kk E B r s → DRel kk E B (r ++ [(kk k, v)]) (s ++ [(k, x)])
  | [], [], _ => ⟨rfl, hv, trivial⟩
  | _ :: _, _ :: _, h => ⟨h.1, h.2.1, DRel.snoc hv h.2.2⟩
  | [], _ :: _, h => h.elim
  | _ :: _, [], h => h.elim
theorem DRel.put {kE : κ → SP} {kk : κ → Key} (K : KeyE kE kk) {E : α → SP} {B : Hp} {r : List (Key × V)} {s : List (κ × α)} {k : κ} {x : α} {v : V} (hv : (E x).P B v) (h : DRel kk E B r s) : DRel kk E B (putK r (kk k) v) (putM s k x) := by
  have g := h.get K k
  unfold putK putM
  rw [valV_any]
  cases q : getM s k with
  | none =>
    rw [q] at g
    rw [show (valV r (kk k)).isSome = false by rw [g]; rfl, if_neg (fun z => nomatch z), if_neg (fun z => nomatch z)]
    exact h.snoc hv
  | some y =>
    rw [q] at g
    obtain ⟨u, g, _⟩ := g
    rw [show (valV r (kk k)).isSome = true by rw [g]; rfl, if_pos rfl, if_pos (show (some y).isSome = true from rfl)]
    exact h.repl K hv
omit [DecidableEq κ] in
theorem DRel.nil {kk : κ → Key} {E : α → SP} {B : Hp} : DRel kk E B [] ([] : List (κ × α)) := trivial
/-- a dict that stands still; one of one's own -/
def dkS (kk : κ → Key) (E : α → SP) (s : List (κ × α)) : SP := ⟨fun B v => ∃ a r, v = .ref a ∧ B a = some (.dK r) ∧ DRel kk E B r s, fun h e => by
  obtain ⟨a, r, h1, h2, h3⟩ := h
  exact ⟨a, r, h1, e a _ h2, h3.mono e⟩⟩
def dkO (kk : κ → Key) (E : α → SP) (s : List (κ × α)) : OP := ⟨fun W v F => ∃ a r, v = .ref a ∧ W.H a = some (.dK r) ∧ F = [a] ∧ DRel kk E W.B r s, fun h e k => by
  obtain ⟨a, r, h1, h2, rfl, h4⟩ := h
  exact ⟨a, r, h1, (k a List.mem_cons_self).trans h2, rfl, h4.mono e⟩⟩
omit [DecidableEq κ] in
theorem fz_dk {kk : κ → Key} {E : α → SP} (s : List (κ × α)) : FrzN (dkO kk E s) (dkS kk E s) := ⟨fun {W v F} h nd fr ok => by
  obtain ⟨a, r, rfl, h2, rfl, h4⟩ := h
  have na : W.B a = none := fr a List.mem_cons_self
  refine ⟨upd W.B a (.dK r), Ex.new na, fun b o e => ?_, fun b hb n => ?_, a, r, rfl, upd_same, h4.mono (Ex.new na)⟩
  · by_cases z : b = a
    · subst z
      rw [upd_same] at e
      rw [h2]
      exact e
    · rw [upd_ne z] at e
      exact ok b o e
  · have z : b ≠ a := fun z => n (z ▸ List.mem_cons_self)
    rw [upd_ne z]
    exact hb⟩
section
variable {S : Stc} {Γ : Ctx} {a b e : Expr} {es : List Expr} {pos : Pos}
omit [DecidableEq κ] in
theorem jn_dnew {kk : κ → Key} {E : α → SP} : JN S (.Dict [] [] pos) Γ (some []) (dkO kk E) := fun σ W F sta z hz Q kq => by
  cases hz
  refine ⟨tDNewK, fun X hX => pe_dnewK, fun p hp => ?_⟩
  exact kq (.ref p) ⟨upd W.H p (.dK []), W.B⟩ [p] (Ext.new sta.ok hp) (fun x hx => by rw [List.mem_singleton.mp hx]; exact hp) (fp_one (sta.ok.back hp)) ⟨p, [], rfl, upd_same, rfl, DRel.nil⟩
/-- what is read of either -/
def DRd (kk : κ → Key) (E : α → SP) (R : List (κ × α) → OP) : Prop := ∀ W s v F, Ex W.B W.H → (R s).C W v F → ∃ a r, v = .ref a ∧ W.H a = some (.dK r) ∧ DRel kk E W.B r s
omit [DecidableEq κ] in
theorem rd_dkS {kk : κ → Key} {E : α → SP} : DRd kk E (fun s => sh (dkS kk E s)) := fun W s v F ok h => by
  obtain ⟨_, a, r, h1, h2, h3⟩ := h
  exact ⟨a, r, h1, ok a _ h2, h3⟩
omit [DecidableEq κ] in
theorem rd_dkO {kk : κ → Key} {E : α → SP} : DRd kk E (dkO kk E) := fun W s v F ok h => by
  obtain ⟨a, r, h1, h2, _, h3⟩ := h
  exact ⟨a, r, h1, h2, h3⟩
theorem jn_din {kE : κ → SP} {kk : κ → Key} {E : α → SP} {R : List (κ × α) → OP} {ma : Option κ} {mb : Option (List (κ × α))} (K : KeyE kE kk) (D : DRd kk E R) (ha : JN S a Γ ma fun k => sh (kE k)) (hb : JR S b Γ mb R) (h1 : behindInMarks .In b = false := by first | exact nobehind _ (by decide) (by decide) | rfl) :
    JN S (.Compare a [.In] [b] pos) Γ (ma.bind fun k => mb.bind fun s => some (getM s k).isSome) fun z => sh (boolS z) := fun σ W F st z hz Q kq => by
  obtain ⟨k, s, m1, m2, m3⟩ := run2 hz
  cases m3
  refine ⟨tDIn (tOf S a) (tOf S b), fun X hX => pe_cmp (pc_din (by have := hX.un; omega) (peO hX) (peO hX)) h1, ?_⟩
  refine ha σ W F st k m1 _ fun v W1 F1 e1 _ _ r1 => hb σ W1 F (st.ext e1) s m2 _ fun u W2 e2 ⟨F2, r2, _⟩ => ?_
  obtain ⟨p, r, rfl, h2, h3⟩ := D W2 s u F2 e2.ok r2
  have ek := K.eq r1.2
  subst ek
  refine ⟨p, _, rfl, DGet.k h2, ?_⟩
  have g := h3.get K k
  have e : (valV r (kk k)).isSome = (getM s k).isSome := by
    cases q : getM s k with
    | none => rw [q] at g; rw [g]; rfl
    | some y =>
      rw [q] at g
      obtain ⟨u, g, _⟩ := g
      rw [g]
      rfl
  exact (kq.ext (e1.trans e2)).val e2.ok (by rw [e]; rfl)
theorem jn_dnin {kE : κ → SP} {kk : κ → Key} {E : α → SP} {R : List (κ × α) → OP} {ma : Option κ} {mb : Option (List (κ × α))} (K : KeyE kE kk) (D : DRd kk E R) (ha : JN S a Γ ma fun k => sh (kE k)) (hb : JR S b Γ mb R) (h1 : behindInMarks .NotIn b = false := by first | exact nobehind _ (by decide) (by decide) | rfl) :
    JN S (.Compare a [.NotIn] [b] pos) Γ (ma.bind fun k => mb.bind fun s => some (!(getM s k).isSome)) fun z => sh (boolS z) := fun σ W F st z hz Q kq => by
  obtain ⟨k, s, m1, m2, m3⟩ := run2 hz
  cases m3
  refine ⟨tDNotIn (tOf S a) (tOf S b), fun X hX => pe_cmp (pc_dnotin (by have := hX.un; omega) (peO hX) (peO hX)) h1, ?_⟩
  refine ha σ W F st k m1 _ fun v W1 F1 e1 _ _ r1 => hb σ W1 F (st.ext e1) s m2 _ fun u W2 e2 ⟨F2, r2, _⟩ => ?_
  obtain ⟨p, r, rfl, h2, h3⟩ := D W2 s u F2 e2.ok r2
  have ek := K.eq r1.2
  subst ek
  refine ⟨p, _, rfl, DGet.k h2, ?_⟩
  have g := h3.get K k
  have e : (valV r (kk k)).isSome = (getM s k).isSome := by
    cases q : getM s k with
    | none => rw [q] at g; rw [g]; rfl
    | some y =>
      rw [q] at g
      obtain ⟨u, g, _⟩ := g
      rw [g]
      rfl
  exact (kq.ext (e1.trans e2)).val e2.ok (by rw [e]; rfl)
theorem jn_dget {kE : κ → SP} {kk : κ → Key} {E : α → SP} {R : List (κ × α) → OP} {ma : Option κ} {mb : Option (List (κ × α))} (K : KeyE kE kk) (D : DRd kk E R) (hb : JR S b Γ mb R) (ha : JN S a Γ ma fun k => sh (kE k)) (hs : NoSl a := by exact fun _ _ => rfl) :
    JN S (.Subscript b a pos) Γ (mb.bind fun s => ma.bind fun k => getM s k) fun z => sh (E z) := fun σ W F st z hz Q kq => by
  obtain ⟨s, k, m1, m2, m3⟩ := run2 hz
  refine ⟨tDGet (tOf S b) (tOf S a), fun X hX => pe_dget (by have := hX.un; omega) (peO hX) (peO hX) hs, ?_⟩
  refine hb σ W F st s m1 _ fun u W1 e1 ⟨F2, r2, al⟩ => ha σ W1 F (st.ext e1) k m2 _ fun v W2 F1 e2 _ _ r1 => ?_
  have r2' : (R s).C W2 u F2 := OP.loc _ r2 e2.b fun x hx => e2.h.eq (al x hx)
  obtain ⟨p, r, rfl, h2, h3⟩ := D W2 s u F2 e2.ok r2'
  have ek := K.eq r1.2
  subst ek
  have g := h3.get K k
  rw [m3] at g
  obtain ⟨w, g1, g2⟩ := g
  exact ⟨p, w, rfl, by have := DGet.k (k := kk k) h2; rwa [g1] at this, (kq.ext (e1.trans e2)).val e2.ok g2⟩
omit [DecidableEq κ] in
theorem len_dk {kk : κ → Key} {E : α → SP} {R : List (κ × α) → OP} {m : Option (List (κ × α))} {p : Pos} (D : DRd kk E R) (hm : S.mg "len" = none) (h : JR S a Γ m R) (hg : GlS S "len" := by rfl) (hs : ∀ env, starEach [a] env = [(false, eval a env)] := by intro _; rfl) : JN S (.Call (.Name "len" p) [a] [] pos) Γ (m.bind fun xs => some (xs.length : Int)) fun z => sh (intS z) := fun σ W F sta z hz Q kq => by
  obtain ⟨s, h1, h2⟩ := run1 hz
  cases h2
  refine ⟨tCB (fun xs H Q => ∃ a kvs, xs = [V.ref a] ∧ H a = some (.dK kvs) ∧ Q (.int kvs.length) H) (tCons (tOf S a) tNil), fun X hX => pe_callB call_lenD (hg.gl hX) (mgS hm hX) PySem.boot_len (pa_cons (peO hX) pa_nil (hs _)) (by decide) (by decide) (hs _) rfl, h σ W F sta s h1 _ fun v W' ext ⟨F1, r0, al⟩ => ?_⟩
  obtain ⟨p, r, rfl, h2, h3⟩ := D W' s v F1 ext.ok r0
  exact ⟨p, r, rfl, h2, (kq.ext ext).val ext.ok (by rw [h3.len]; rfl)⟩
def putMO (s : List (κ × α)) (k : κ) (x : α) : Option (List (κ × α)) := if s.length < LIM then some (putM s k x) else none
theorem js_dput {x : Str} {p0 tpos : Pos} {kE : κ → SP} {kk : κ → Key} {E : α → SP} {s : List (κ × α)} {mv : Option α} {mk : Option κ} (i : Nat) (K : KeyE kE kk) (h : JN S e Γ mv fun x => sh (E x)) (hk : JN S b Γ mk fun k => sh (kE k)) (hi : Γ[i]? = some (some (dkO kk E s)) := by rfl) (hN : S.N[i]? = some x := by rfl) (hv : Vis S.sc x := by first | exact Or.inl rfl | exact Or.inr (Or.inl rfl) | exact Or.inr (Or.inr rfl))
    (hd : (x == ("__debug__" : Str)) = false := by decide) (hcd : (x == ("__classdict__" : Str)) = false := by decide) (hs : ∀ env, swapsWith e (some (.Subscript (.Name x p0) b tpos)) pos.line env = pure false := by intro _; rfl) :
    JS S (.Assign [.Subscript (.Name x p0) b tpos] e pos) Γ (mv.bind fun y => mk.bind fun k => putMO s k y) fun s' => .nx (Γ.set i (some (dkO kk E s'))) := fun σ W F sta z hz Ed kq => by
  obtain ⟨y, k, m1, m2, m3⟩ := run2 hz
  unfold putMO at m3
  split at m3
  · rename_i hlen
    cases m3
    refine ⟨sDPut (tVar i) (tOf S b) (tOf S e), fun X hX => ps_dput (by have := hX.un; omega) (pe_var (by rw [hX.N]; exact hN) (visS hv hX) hd hcd) (peO hX) (peO hX) (hs _), ?_⟩
    refine h σ W F sta y m1 _ fun u W1 Fv ext fr fp r => ?_
    obtain ⟨rfl, r⟩ := r
    obtain ⟨v, F1, F2, a1, a2, a3, a4⟩ := (sta.ext ext).hold.at hi
    refine ⟨v, a1, hk σ W1 F (sta.ext ext) k m2 _ fun w W3 Fv3 ext3 _ _ r3 => ?_⟩
    have sta3 := (sta.ext ext).ext ext3
    obtain ⟨v', F1', F2', c1, c2, c3, c4⟩ := sta3.hold.at hi
    have ev : v' = v := by rw [a1] at c1; exact (Option.some.inj (Option.some.inj c1)).symm
    subst ev
    obtain ⟨p, rr, rfl, d2, rfl, d4⟩ := c2
    have ek := K.eq r3.2
    subst ek
    have hB : W3.B p = none := (sta3.fp.perm c3).fr p (by simp)
    refine ⟨p, _, rfl, DPut.k d2 (lim_lt (by rw [d4.len]; exact hlen)), ?_⟩
    have d5 : DRel kk E W3.B (putK rr (kk k) u) (putM s k y) := d4.put K (SP.mono _ r ext3.b)
    have fpA := (sta3.fp.perm c3).left
    obtain ⟨F', s', stp⟩ := sta_own (W' := ⟨upd W3.H p (.dK (putK rr (kk k) u)), W3.B⟩) (F1' := [p]) (o' := dkO kk E (putM s k y)) [] sta3 (by rw [List.append_nil]; exact sta3.fp) c1 c3 c4 (wr_ok ext3.ok hB) rfl (fun a ha _ => upd_ne fun z => ha (z ▸ List.mem_cons_self)) wr_al
      ⟨fpA.nd, fun a ha => wr_al a (fpA.al a ha), fpA.fr⟩ (fun a ha => .inl ha) ⟨p, _, rfl, upd_same, rfl, d5⟩
    rw [List.append_nil] at stp
    exact kq σ _ F' Keep.refl ((ext.stp0.trans ext3.stp0).trans stp) s'
  · cases m3
end
end CC
set_option maxHeartbeats 4000000
/-! Records: a dict of one's own with written keys. -/
namespace CC
open PySem PySem.Spec L2
open PyProof.Rows hiding St
variable {α β γ δ τ υ ω ρ ε κ : Type}
def kvz : List Str → List V → List (Key × V)
  | k :: ks, v :: vs => (.inr k, v) :: kvz ks vs
  | _, _ => []
theorem kvz_len : ∀ {ks : List Str} {vs : List V}, vs.length = ks.length → (kvz ks vs).length = ks.length
  | [], [], _ => rfl
  | k :: ks, v :: vs, h => by
    show (kvz ks vs).length + 1 = _
    rw [kvz_len (by simpa using h)]
    rfl
  | [], _ :: _, h => by simp at h
  | _ :: _, [], h => by simp at h
theorem kvz_val : ∀ {ks : List Str} {vs : List V} {i : Nat} {x : Str} {v : V}, ks.Nodup → ks[i]? = some x → vs[i]? = some v → valV (kvz ks vs) (.inr x) = some v
  | k :: ks, u :: vs, 0, x, v, nd, h1, h2 => by
    have e1 : k = x := by simpa using h1
    have e2 : u = v := by simpa using h2
    subst e1 e2
    exact valV_pos rfl
  | k :: ks, u :: vs, i + 1, x, v, nd, h1, h2 => by
    have h1' : ks[i]? = some x := by simpa using h1
    have ne : ¬ ((.inr k : Key) = .inr x) := fun z => by
      have := Sum.inr.inj z
      exact (List.nodup_cons.mp nd).1 (this ▸ List.mem_of_getElem? h1')
    show valV ((.inr k, u) :: kvz ks vs) (.inr x) = _
    rw [valV_neg ne]
    exact kvz_val (List.nodup_cons.mp nd).2 h1' (by simpa using h2)
  | [], _, _, _, _, _, h1, _ => by simp at h1
  | _ :: _, [], _, _, _, _, _, h2 => by simp at h2
theorem kvz_map : ∀ {ks : List Str} {vs : List V} {x : Str} {u : V}, x ∉ ks → (kvz ks vs).map (fun kv => if kv.1 = (.inr x : Key) then (kv.1, u) else kv) = kvz ks vs
  | [], _, _, _, _ => rfl
  | _ :: _, [], _, _, _ => rfl
  | k :: ks, v :: vs, x, u, h => by
    have ne : ¬ ((.inr k : Key) = .inr x) := fun z => h (by rw [Sum.inr.inj z]; exact List.mem_cons_self)
    show (if (.inr k : Key) = .inr x then _ else _) :: (kvz ks vs).map _ = _
    rw [if_neg ne, kvz_map (fun z => h (List.mem_cons_of_mem _ z))]
    rfl
theorem kvz_put : ∀ {ks : List Str} {vs : List V} {i : Nat} {x : Str} {u : V}, ks.Nodup → vs.length = ks.length → ks[i]? = some x → (kvz ks vs).map (fun kv => if kv.1 = (.inr x : Key) then (kv.1, u) else kv) = kvz ks (vs.set i u)
  | k :: ks, v :: vs, 0, x, u, nd, hl, h1 => by
    have e1 : k = x := by simpa using h1
    subst e1
    show (if (.inr k : Key) = .inr k then _ else _) :: (kvz ks vs).map _ = _
    rw [if_pos rfl, kvz_map (List.nodup_cons.mp nd).1]
    rfl
  | k :: ks, v :: vs, i + 1, x, u, nd, hl, h1 => by
    have h1' : ks[i]? = some x := by simpa using h1
    have ne : ¬ ((.inr k : Key) = .inr x) := fun z => by
      have := Sum.inr.inj z
      exact (List.nodup_cons.mp nd).1 (this ▸ List.mem_of_getElem? h1')
    show (if (.inr k : Key) = .inr x then _ else _) :: (kvz ks vs).map _ = _
    rw [if_neg ne, kvz_put (List.nodup_cons.mp nd).2 (by simpa using hl) h1']
    rfl
  | [], _, _, _, _, _, _, h1 => by simp at h1
  | _ :: _, [], _, _, _, _, hl, _ => by simp at hl
theorem kvz_putK {ks : List Str} {vs : List V} {i : Nat} {x : Str} {u v : V} (nd : ks.Nodup) (hl : vs.length = ks.length) (h1 : ks[i]? = some x) (h2 : vs[i]? = some v) : putK (kvz ks vs) (.inr x) u = kvz ks (vs.set i u) := by
  unfold putK
  rw [valV_any, kvz_val nd h1 h2, if_pos (show (some v).isSome = true from rfl), kvz_put nd hl h1]
theorem kvz_merge : ∀ {ks : List Str} {vs : List V} {acc : List (Key × V)}, ks.Nodup → (∀ k ∈ ks, valV acc (.inr k) = none) → mergeK acc (kvz ks vs) = acc ++ kvz ks vs
  | [], _, acc, _, _ => by
    show acc = acc ++ []
    rw [List.append_nil]
  | _ :: _, [], acc, _, _ => by
    show acc = acc ++ []
    rw [List.append_nil]
  | k :: ks, v :: vs, acc, nd, h => by
    show mergeK (putK acc (.inr k) v) (kvz ks vs) = _
    rw [putK_new v (h k List.mem_cons_self), kvz_merge (List.nodup_cons.mp nd).2 fun j hj => ?_, List.append_assoc]
    · rfl
    · rw [valV_snoc _ _ _ _ (h k List.mem_cons_self), if_neg (fun z => (List.nodup_cons.mp nd).1 (by have e : j = k := Sum.inr.inj z; rw [← e]; exact hj))]
      exact h j (List.mem_cons_of_mem _ hj)
/-- the record with the keys ks -/
def recO (ks : List Str) (ps : List OP) : OP := ⟨fun W v F => ∃ a vs F2, v = .ref a ∧ W.H a = some (.dK (kvz ks vs)) ∧ F = a :: F2 ∧ HetO W vs ps F2, fun h e k => by
  obtain ⟨a, vs, F2, h1, h2, h3, h4⟩ := h
  subst h3
  exact ⟨a, vs, F2, h1, (k a List.mem_cons_self).trans h2, rfl, h4.loc e fun b hb => k b (List.mem_cons_of_mem _ hb)⟩⟩
section
variable {S : Stc} {Γ : Ctx} {a b e : Expr} {es : List Expr} {pos : Pos}
theorem jr_ixD {ks : List Str} {ps : α → List OP} {R : β → OP} {g : α → β} {m : Option α} {x : Str} {kk p'} (k : Nat) (h : JR S a Γ m fun x => recO ks (ps x)) (hk : ∀ x, (ps x)[k]? = some (R (g x)) := by intro _; rfl) (hx : ks[k]? = some x := by rfl) (nd : ks.Nodup := by decide) :
    JR S (.Subscript a (.Constant (.str x) kk p') pos) Γ (m.bind fun x => some (g x)) R := fun σ W F sta z hz Q kq => by
  obtain ⟨y, h1, h2⟩ := run1 hz
  cases h2
  refine ⟨tDGet (tOf S a) (tC (.str x)), fun X hX => pe_dget (by have := hX.un; omega) (peO hX) pe_str (fun _ _ => rfl), h σ W F sta y h1 _ fun v W' ext ⟨F1, r, al⟩ => ?_⟩
  obtain ⟨p, vs, F2, rfl, q2, rfl, q3⟩ := r
  obtain ⟨u, G1, G2, u1, u2, u3, _⟩ := q3.at (hk y)
  have gd : DGet W'.H p (kV (.inr x)) (valV (kvz ks vs) (.inr x)) := DGet.k q2
  rw [kvz_val nd hx u1] at gd
  exact ⟨p, u, rfl, gd, kq u W' ext ⟨G1, u2, fun b hb => al b (List.mem_cons_of_mem _ (u3.mem_iff.mpr (List.mem_append_left _ hb)))⟩⟩
theorem js_setD {x y : Str} {p0 tpos : Pos} {ks : List Str} {ps : List OP} {E : α → SP} {o : OP} {mv : Option α} {kk p'} (i k : Nat) (h : JN S e Γ mv fun x => sh (E x)) (hi : Γ[i]? = some (some (recO ks ps)) := by rfl) (hk : ps[k]? = some o := by rfl) (hx : ks[k]? = some y := by rfl) (hl : ps.length = ks.length := by rfl) (nd : ks.Nodup := by decide) (hle : ks.length ≤ 1000 := by decide) (hN : S.N[i]? = some x := by rfl) (hv : Vis S.sc x := by first | exact Or.inl rfl | exact Or.inr (Or.inl rfl) | exact Or.inr (Or.inr rfl))
    (hd : (x == ("__debug__" : Str)) = false := by decide) (hcd : (x == ("__classdict__" : Str)) = false := by decide) (hs : ∀ env, swapsWith e (some (.Subscript (.Name x p0) (.Constant (.str y) kk p') tpos)) pos.line env = pure false := by intro _; rfl) :
    JS S (.Assign [.Subscript (.Name x p0) (.Constant (.str y) kk p') tpos] e pos) Γ mv fun z => .nx (Γ.set i (some (recO ks (ps.set k (sh (E z)))))) := fun σ W F sta z m1 Ed kq => by
  refine ⟨sDPut (tVar i) (tC (.str y)) (tOf S e), fun X hX => ps_dput (by have := hX.un; omega) (pe_var (by rw [hX.N]; exact hN) (visS hv hX) hd hcd) pe_str (peO hX) (hs _), ?_⟩
  refine h σ W F sta z m1 _ fun u W1 Fv ext fr fp r => ?_
  obtain ⟨rfl, r⟩ := r
  have sta1 := sta.ext ext
  obtain ⟨v, F1, F2, a1, a2, a3, a4⟩ := sta1.hold.at hi
  obtain ⟨p, vs, G2, rfl, b2, rfl, b4⟩ := a2
  have hB : W1.B p = none := (sta1.fp.perm a3).fr p (by simp)
  obtain ⟨w0, K1, K2, k1, k2, k3, k4⟩ := b4.at hk
  have fpA := (sta1.fp.perm a3).left
  have hvl : vs.length = ks.length := by rw [b4.len]; exact hl
  have nP : ∀ a ∈ G2, a ≠ p := fun a ha z => (List.nodup_cons.mp fpA.nd).1 (z ▸ ha)
  obtain ⟨G', g1, g2⟩ := k4 ⟨upd W1.H p (.dK (kvz ks (vs.set k u))), W1.B⟩ (sh (E z)) u [] (fun _ _ h => h) (fun a ha => upd_ne (nP a (k3.mem_iff.mpr (List.mem_append_right _ ha)))) ⟨rfl, r⟩
  have sub : ∀ a ∈ p :: G', a ∈ p :: G2 := fun a ha => by
    rcases List.mem_cons.mp ha with z | z
    · exact z ▸ List.mem_cons_self
    · exact List.mem_cons_of_mem _ (k3.mem_iff.mpr (List.mem_append_right _ (by simpa using g2.mem_iff.mp z)))
  have fpB : FpOk W1 (p :: G') := by
    refine FpOk.left (F' := K1) (fpA.perm ?_)
    refine List.Perm.cons p ?_
    refine k3.trans (List.perm_append_comm.trans (List.Perm.append_right K1 ?_))
    simpa using g2.symm
  refine ⟨.ref p, a1, p, _, rfl, DPut.k (k := .inr y) b2 (by rw [kvz_len hvl]; exact Nat.lt_of_le_of_lt hle (by decide)), ?_⟩
  rw [kvz_putK nd hvl hx k1]
  obtain ⟨F', s', stp⟩ := sta_own (W' := ⟨upd W1.H p (.dK (kvz ks (vs.set k u))), W1.B⟩) (F1' := p :: G') (o' := recO ks (ps.set k (sh (E z)))) [] sta1 (by rw [List.append_nil]; exact sta1.fp) a1 a3 a4 (wr_ok ext.ok hB) rfl (fun a ha _ => upd_ne fun z => ha (z ▸ List.mem_cons_self)) wr_al
    ⟨fpB.nd, fun a ha => wr_al a (fpB.al a ha), fpB.fr⟩ (fun a ha => .inl (sub a ha)) ⟨p, vs.set k u, G', rfl, upd_same, rfl, g1⟩
  rw [List.append_nil] at stp
  exact kq σ _ F' Keep.refl (ext.stp0.trans stp) s'
/-! ### {'a': e, ..} -/
def pz : List Str → List V → List (V × V)
  | k :: ks, v :: vs => (.str k, v) :: pz ks vs
  | _, _ => []
theorem pz_eq : ∀ (ks : List Str) (vs : List V), pz ks vs = (kvz ks vs).map fun kv => (kV kv.1, kv.2)
  | [], _ => rfl
  | _ :: _, [] => rfl
  | k :: ks, v :: vs => by
    show (V.str k, v) :: pz ks vs = (kV (.inr k), v) :: _
    rw [pz_eq ks vs]
    rfl
def JP (S : Stc) (pos : Pos) (ks : List Str) (keys : List (Option Expr)) (vals : List Expr) (Γ : Ctx) (m : Option α) (R : α → List SP) : Prop :=
  ∃ trs, (∀ X, S.In X → PPs X pos keys vals trs) ∧ ∀ σ W F, Sta Γ σ W F → ∀ x, m = some x → ∀ Q : List (V × V) → Hp → Prop, (∀ vs W', Ext W W' → Hets W'.B vs (R x) → Q (pz ks vs) W'.H) → tPairs trs σ W.H Q
theorem jp_nil : JP S pos [] [] [] Γ (some ()) fun _ => [] := ⟨[], fun X _ => pps_nil, fun σ W F sta x hx Q k => k [] W (Ext.refl sta.ok) trivial⟩
theorem jp_cons {x : Str} {kk p'} {ks : List Str} {keys : List (Option Expr)} {vals : List Expr} {ma : Option α} {mb : Option β} {E : α → SP} {G : β → List SP} (ha : JN S e Γ ma fun x => sh (E x)) (hb : JP S pos ks keys vals Γ mb G) :
    JP S pos (x :: ks) (some (.Constant (.str x) kk p') :: keys) (e :: vals) Γ (ma.bind fun x => mb.bind fun y => some (x, y)) fun p => E p.1 :: G p.2 := by
  obtain ⟨trs, t1, t2⟩ := hb
  refine ⟨(tC (.str x), tOf S e) :: trs, fun X hX => pps_cons pe_str (peO hX) (t1 X hX), fun σ W F st z hz Q k => ?_⟩
  obtain ⟨y, w, h1, h2, h3⟩ := run2 hz
  cases h3
  show tOf S e σ W.H _
  refine ha σ W F st y h1 _ fun v W1 F1 e1 _ _ r1 => t2 σ W1 F (st.ext e1) w h2 _ fun vs W2 e2 h => ?_
  exact k (v :: vs) W2 (e1.trans e2) ⟨SP.mono _ r1.2 e2.b, h⟩
theorem HetO.of_hts {W : Wd} : ∀ {vs : List V} {ps : List SP}, Hets W.B vs ps → HetO W vs (ps.map sh) []
  | [], [], _ => rfl
  | _ :: _, _ :: _, h => ⟨[], [], rfl, ⟨rfl, h.1⟩, HetO.of_hts h.2⟩
  | [], _ :: _, h => h.elim
  | _ :: _, [], h => h.elim
theorem jn_rec {ks : List Str} {keys : List (Option Expr)} {vals : List Expr} {m : Option α} {R : α → List SP} {T : β → OP} {g : α → β} (h : JP S pos ks keys vals Γ m R) (hR : ∀ x, recO ks ((R x).map sh) = T (g x) := by intro _; rfl) (nd : ks.Nodup := by decide) (hks : ks.length ≤ 15 := by decide) (hl : ∀ x, (R x).length = ks.length := by intro _; rfl)
    (hall : keys.all (·.isSome) = true := by rfl) (hl2 : keys.length = vals.length := by rfl) (h0 : keys ≠ [] := by exact fun z => nomatch z) (h15 : keys.length ≤ 15 := by exact Nat.le_of_ble_eq_true rfl) : JN S (.Dict keys vals pos) Γ (m.bind fun x => some (g x)) T := fun σ W F sta z hz Q kk => by
  obtain ⟨x, h1, h2⟩ := run1 hz
  cases h2
  obtain ⟨trs, t1, t2⟩ := h
  refine ⟨tDisp trs, fun X hX => pe_disp (t1 X hX) hall hl2 h0 h15, fun p hp => ?_⟩
  have e1 : Ext W ⟨upd W.H p (.dK []), W.B⟩ := Ext.new sta.ok hp
  refine t2 σ ⟨upd W.H p (.dK []), W.B⟩ F (sta.ext e1) x h1 _ fun vs W2 e2 hh => ?_
  have hp2 : W2.H p = some (.dK []) := e2.h p _ upd_same
  have hvl : vs.length = ks.length := hh.len.trans (hl x)
  refine ⟨hp2, kvz ks vs, pz_eq ks vs, by rw [kvz_len hvl]; exact hks, ?_⟩
  rw [kvz_merge nd (fun _ _ => rfl), List.nil_append]
  have hB : W2.B p = none := e2.fr p (by show upd W.H p (.dK []) p ≠ none; rw [upd_same]; exact fun z => nomatch z) (sta.ok.back hp)
  have e3 : Ext W ⟨upd W2.H p (.dK (kvz ks vs)), W2.B⟩ := by
    refine ⟨wr_ok e2.ok hB, fun a o h => ?_, e2.b, fun a h3 h4 => ?_⟩
    · have na : a ≠ p := fun z => by rw [z, hp] at h; cases h
      show upd W2.H p _ a = _
      rw [upd_ne na]
      exact e2.h a o (e1.h a o h)
    · exact (e1.trans e2).fr a h3 h4
  have fp3 : FpOk ⟨upd W2.H p (.dK (kvz ks vs)), W2.B⟩ [p] := by
    refine ⟨List.nodup_cons.mpr ⟨by simp, List.nodup_nil⟩, fun a ha => ?_, fun a ha => ?_⟩
    · rw [List.mem_singleton.mp ha]
      show upd W2.H p _ p ≠ none
      rw [upd_same]
      exact fun z => nomatch z
    · rw [List.mem_singleton.mp ha]
      exact hB
  exact kk (.ref p) _ [p] e3 (fun a ha => by rw [List.mem_singleton.mp ha]; exact hp) fp3
    (by rw [← hR]; exact ⟨p, vs, [], rfl, upd_same, rfl, HetO.of_hts (W := ⟨upd W2.H p (.dK (kvz ks vs)), W2.B⟩) hh⟩)
end
end CC
set_option maxHeartbeats 4000000
/-! Comprehensions of two clauses. -/
namespace CC
open PySem PySem.Spec L2
open PyProof.Rows hiding St
variable {α β γ δ τ υ ω ρ ε κ : Type}
/-- a new list at D is being made: bs of ys is left (W' stood behind the making) -/
def Bld (R : β → OP) (W' : Wd) (D : Addr) (ys bs : List β) (W1 : Wd) : Prop := W'.H D = none ∧ Ext W' W1 ∧ ∃ (acc : List V) (as : List β) (Fa : List Addr), W1.H D = some (.lst acc) ∧ W1.B D = none ∧ as ++ bs = ys ∧ Owns R W1 acc as Fa ∧ FpOk W1 Fa ∧ D ∉ Fa ∧ ∀ a ∈ Fa, W'.H a = none
theorem Bld.start {R : β → OP} {W' : Wd} {D : Addr} {ys : List β} (ok : Ex W'.B W'.H) (hD : W'.H D = none) : Bld R W' D ys ys ⟨upd W'.H D (.lst []), W'.B⟩ :=
  ⟨hD, Ext.new ok hD, [], [], [], upd_same, ok.back hD, rfl, rfl, FpOk.nil, by simp, by simp⟩
theorem Bld.ext {R : β → OP} {W' W1 W2 : Wd} {D : Addr} {ys bs : List β} (b : Bld R W' D ys bs W1) (e : Ext W1 W2) : Bld R W' D ys bs W2 := by
  obtain ⟨hD, e1, acc, as, Fa, d1, d2, c2, o1, o2, o3, o4⟩ := b
  exact ⟨hD, e1.trans e, acc, as, Fa, e.h D _ d1, e.fr D (by rw [d1]; exact fun z => nomatch z) d2, c2, o1.loc e.b fun a ha => e.h.eq (o2.al a ha), o2.ext e, o3, o4⟩
theorem Bld.step {R : β → OP} {W' W1 W4 : Wd} {D : Addr} {ys bs : List β} {y : β} {u : V} {Fu : List Addr} (b : Bld R W' D ys (y :: bs) W1) (hl : ys.length ≤ LIM) (e4 : Ext W1 W4) (fr4 : ∀ a ∈ Fu, W1.H a = none) (fp4 : FpOk W4 Fu) (r4 : (R y).C W4 u Fu) :
    ∃ acc, W4.H D = some (.lst acc) ∧ acc.length < sizeLine ∧ Bld R W' D ys bs ⟨upd W4.H D (.lst (acc ++ [u])), W4.B⟩ := by
  obtain ⟨hD, e1, acc, as, Fa, d1, d2, c2, o1, o2, o3, o4⟩ := b
  have hD4 : W4.H D = some (.lst acc) := e4.h D _ d1
  have hB4 : W4.B D = none := e4.fr D (by rw [d1]; exact fun z => nomatch z) d2
  have ha4 : acc.length < LIM := by
    have h1 := o1.len
    have h2 := congrArg List.length c2
    rw [List.length_append, List.length_cons] at h2
    omega
  refine ⟨acc, hD4, lim_lt ha4, hD, ?_, acc ++ [u], as ++ [y], Fa ++ Fu, upd_same, hB4, by rw [List.append_assoc]; exact c2, ?_, ?_, ?_, ?_⟩
  · have q := e1.trans e4
    refine ⟨fun a o h => ?_, fun a o h => ?_, q.b, q.fr⟩
    · have z : a ≠ D := fun z => by
        rw [z] at h
        rw [show W4.B D = some o from h] at hB4
        cases hB4
      show upd W4.H D _ a = some o
      rw [upd_ne z]
      exact q.ok a o h
    · show upd W4.H D _ a = some o
      rw [upd_ne (ne_of_none h hD)]
      exact q.h a o h
  · have nD : ∀ a ∈ Fa ++ Fu, a ≠ D := fun a ha z => by
      rcases List.mem_append.mp ha with h | h
      · exact o3 (z ▸ h)
      · have q2 := fr4 a h
        rw [z, d1] at q2
        cases q2
    have A1 : Owns R W4 acc as Fa := o1.loc e4.b fun a ha => e4.h.eq (o2.al a ha)
    have A2 : Owns R W4 [u] [y] Fu := ⟨Fu, [], (List.append_nil _).symm, r4, rfl⟩
    have A3 : Owns R W4 (acc ++ [u]) (as ++ [y]) (Fa ++ Fu) := A1.app A2
    refine Owns.loc (W := W4) (W' := ⟨upd W4.H D (.lst (acc ++ [u])), W4.B⟩) (fun _ _ h => h) A3 fun a ha => ?_
    show upd W4.H D (.lst (acc ++ [u])) a = W4.H a
    exact upd_ne (nD a ha)
  · have fpA : FpOk W4 (Fa ++ Fu) := o2.fresh e4 fp4 fr4
    refine ⟨fpA.nd, fun a ha => ?_, fpA.fr⟩
    show upd W4.H D _ a ≠ none
    by_cases z : a = D
    · rw [z, upd_same]
      exact fun z => nomatch z
    · rw [upd_ne z]
      exact fpA.al a ha
  · intro h
    rcases List.mem_append.mp h with h | h
    · exact o3 h
    · have q2 := fr4 D h
      rw [d1] at q2
      cases q2
  · intro a ha
    rcases List.mem_append.mp ha with h | h
    · exact o4 a h
    · exact e1.h.back (fr4 a h)
theorem Sta.via {Γ : Ctx} {σ : L2.St} {W' W3 W5 : Wd} {F F2 : List Addr} (s : Sta Γ σ W3 F2) (sub : ∀ a ∈ F2, a ∈ F) (fp : FpOk W' F) (e3 : Ext W' W3) (e5 : Ext W' W5) (eb : Ex W3.B W5.B) : Sta Γ σ W5 F2 :=
  ⟨e5.ok, ⟨s.fp.nd, fun a h => e5.h.ne (fp.al a (sub a h)), fun a h => e5.fr a (fp.al a (sub a h)) (fp.fr a (sub a h))⟩, s.len, s.hold.loc eb fun a h => (e5.h.eq (fp.al a (sub a h))).trans (e3.h.eq (fp.al a (sub a h))).symm⟩
def comp2Go (t : α → Option Bool) (it : α → Option (List β)) (t1 : α → β → Option Bool) (f : α → β → Option γ) : List α → Option (List γ)
  | [] => some []
  | x :: xs => (t x).bind fun b => bif b then (it x).bind fun zs => (compGo (t1 x) (f x) zs).bind fun ys => (comp2Go t it t1 f xs).bind fun r => some (ys ++ r) else comp2Go t it t1 f xs
def comp2M (t : α → Option Bool) (it : α → Option (List β)) (t1 : α → β → Option Bool) (f : α → β → Option γ) (xs : List α) : Option (List γ) := (comp2Go t it t1 f xs).bind fun ys => if ys.length ≤ LIM then some ys else none
def JC2 (S : Stc) (elt tg iter : Expr) (ifs : List Expr) (tg1 iter1 : Expr) (ifs1 : List Expr) (scope : Scope) (Γ : Ctx) (m : Option α) (R : α → OP) : Prop :=
  ∃ (own : List (Str × Nat)) (vs1 : List Nat), BlkOk S.N S.sc scope own ∧ (∀ i ∈ vs1, i ∈ own.map (·.2)) ∧ ∀ σ W F, Sta Γ σ W F → ∀ x, m = some x → ∀ Q : VK, Got (R x) W Q → tLc2 (tiOf S tg iter) (tgOf (S.blk scope) tg) (ttsOf (S.blk scope) ifs) (tiOf (S.blk scope) tg1 iter1) (tgOf (S.blk scope) tg1) (ttsOf (S.blk scope) ifs1) (tOf (S.blk scope) elt) (own.map (·.2)) vs1 σ W.H Q
section
variable {S : Stc} {Γ : Ctx} {elt tg iter tg1 iter1 : Expr} {ifs ifs1 : List Expr} {pos : Pos}
theorem jn_lc2 {scope : Scope} {m : Option α} {R : α → OP} (nd : S.N.Nodup) (h : JC2 S elt tg iter ifs tg1 iter1 ifs1 scope Γ m R) (hs : ∀ env x, foldedSetIterable iter env x = pure x := by intro _ _; rfl) (hs1 : ∀ env x, foldedSetIterable iter1 env x = pure x := by intro _ _; rfl) (hcm : S.calm = true := by rfl) :
    JN S (.ListComp elt [⟨tg, iter, ifs, 0⟩, ⟨tg1, iter1, ifs1, 0⟩] scope pos) Γ m R := fun σ W F st x hx Q k => by
  obtain ⟨own, vs1, ok, hv, go⟩ := h
  exact ⟨_, fun X hX => pe_lc2 (hX.calm.trans hcm) (by rw [hX.N]; exact nd) (piO hX) (by rw [hX.N, hX.sc]; exact ok) hv (fun s H C cl fp => pgO (hX.blk scope s H C cl fp)) (fun s H C cl fp => ptsO (hX.blk scope s H C cl fp)) (fun s H C cl fp => piO (hX.blk scope s H C cl fp)) (fun s H C cl fp => pgO (hX.blk scope s H C cl fp)) (fun s H C cl fp => ptsO (hX.blk scope s H C cl fp)) (fun s H C cl fp => peO (hX.blk scope s H C cl fp)) (hs _) hs1, go σ W F st x hx Q k⟩
theorem jc2_of {scope : Scope} {mi : Option (List α)} {E : α → SP} {E1 : β → SP} {up : α → Ctx → Ctx} {up1 : β → Ctx → Ctx} {ws ws1 : List Nat} {mt : α → Option Bool} {mi1 : α → Option (List β)} {mt1 : α → β → Option Bool} {me : α → β → Option γ} {R : γ → OP} (own : List (Str × Nat)) (vs1 : List Nat) (hi : JIc S tg iter Γ mi E) (ok : blkC S.N S.sc scope own = true) (hg : JG (S.blk scope) tg E up ws)
    (hw : ∀ i ∈ ws, i ∈ own.map (·.2)) (hl : ∀ i ∈ ws, i < Γ.length) (ht : ∀ x, JTs (S.blk scope) ifs (up x (wipeC Γ (own.map (·.2)))) (mt x)) (hv : ∀ i ∈ vs1, i ∈ own.map (·.2))
    (hi1 : ∀ x, JI (S.blk scope) tg1 iter1 (up x (wipeC Γ (own.map (·.2)))) (mi1 x) E1) (hg1 : JG (S.blk scope) tg1 E1 up1 ws1) (hw1 : ∀ i ∈ ws1, i ∈ vs1) (hl1 : ∀ x, ∀ i ∈ ws1, i < (up x (wipeC Γ (own.map (·.2)))).length)
    (ht1 : ∀ x z, JTs (S.blk scope) ifs1 (up1 z (wipeC (up x (wipeC Γ (own.map (·.2)))) vs1)) (mt1 x z)) (he : ∀ x z, JN (S.blk scope) elt (up1 z (wipeC (up x (wipeC Γ (own.map (·.2)))) vs1)) (me x z) R) :
    JC2 S elt tg iter ifs tg1 iter1 ifs1 scope Γ (mi.bind fun xs => comp2M mt mi1 mt1 me xs) fun ys => lstO R ys := by
  refine ⟨own, vs1, blkOk_by ok, hv, fun σ W F st ys hx Q k => ?_⟩
  obtain ⟨xs, h1, h2⟩ := run1 hx
  unfold comp2M at h2
  obtain ⟨ys', h2, h3⟩ := run1 h2
  split at h3
  · rename_i hlen
    cases h3
    refine hi σ W F st xs h1 _ fun J W' ext iok => fun D hD => ?_
    have st' := st.ext ext
    refine ⟨fun i m H => m = xs.length - i ∧ i ≤ xs.length ∧ ∃ (W1 : Wd) (bs : List γ), W1.H = H ∧ Bld R W' D ys bs W1 ∧ comp2Go mt mi1 mt1 me (xs.drop i) = some bs, ⟨xs.length, by simp, Nat.zero_le _, _, ys, rfl, Bld.start ext.ok hD, by simpa using h2⟩, ?_⟩
    rintro i m H ⟨rfl, hi', W1, bs, rfl, bd, c1⟩
    obtain ⟨iok1, iok2⟩ := iok W1 bd.2.1
    by_cases hlt : i < xs.length
    · obtain ⟨g1, g2⟩ := iok1 i xs[i] (List.getElem?_eq_getElem hlt)
      refine .inr ⟨g1, fun H' => ∃ m', m' < xs.length - i ∧ (m' = xs.length - (i + 1) ∧ i + 1 ≤ xs.length ∧ ∃ (W1 : Wd) (bs : List γ), W1.H = H' ∧ Bld R W' D ys bs W1 ∧ comp2Go mt mi1 mt1 me (xs.drop (i + 1)) = some bs), fun H' h => h, fun v H' y => ?_⟩
      obtain ⟨W2, rfl, e2, p2⟩ := g2 v H' y
      have hDrop : xs.drop i = xs[i] :: xs.drop (i + 1) := List.drop_eq_getElem_cons hlt
      rw [hDrop] at c1
      obtain ⟨b, t1, t2⟩ := run1 (f := fun b => bif b then (mi1 xs[i]).bind fun zs => (compGo (mt1 xs[i]) (me xs[i]) zs).bind fun ys => (comp2Go mt mi1 mt1 me (xs.drop (i + 1))).bind fun r => some (ys ++ r) else comp2Go mt mi1 mt1 me (xs.drop (i + 1))) c1
      obtain ⟨Fw, sw, subw⟩ := (st'.ext (bd.2.1.trans e2)).wipe (own.map (·.2))
      refine hg _ _ W2 Fw xs[i] v sw (fun j hj => by rw [wipeC_len]; exact hl j hj) p2 _ fun σ2 F2 wp _ s2 sub2 => ⟨?_, ?_⟩
      · rw [wp _ hw]
        exact jc_of.wipe_wipe σ (own.map (·.2))
      refine ht xs[i] σ2 W2 F2 s2 b t1 _ fun W3 e3 => ?_
      have bd3 := (bd.ext e2).ext e3
      cases b with
      | false => exact iteF ⟨xs.length - (i + 1), by omega, rfl, hlt, W3, bs, rfl, bd3, t2⟩
      | true =>
        obtain ⟨zs, u1, u2⟩ := run1 (f := fun zs => (compGo (mt1 xs[i]) (me xs[i]) zs).bind fun ys => (comp2Go mt mi1 mt1 me (xs.drop (i + 1))).bind fun r => some (ys ++ r)) t2
        obtain ⟨ys1, r1, u3, u4, u5⟩ := run2 (f := fun ys r => some (ys ++ r)) u2
        cases u5
        refine iteT (hi1 xs[i] σ2 W3 F2 (s2.ext e3) zs u1 _ fun J1 W4 ext4 jok => ?_)
        have s4 := (s2.ext e3).ext ext4
        refine ⟨fun j m H => m = zs.length - j ∧ j ≤ zs.length ∧ ∃ (W5 : Wd) (cs : List γ), W5.H = H ∧ Ex W4.B W5.B ∧ Bld R W' D ys (cs ++ r1) W5 ∧ compGo (mt1 xs[i]) (me xs[i]) (zs.drop j) = some cs, ⟨zs.length, by simp, Nat.zero_le _, W4, ys1, rfl, Ex.refl _, bd3.ext ext4, by simpa using u3⟩, ?_⟩
        rintro j m H ⟨rfl, hj', W5, cs, rfl, e5, bd5, c5⟩
        obtain ⟨jok1, jok2⟩ := jok W5 ⟨bd5.2.1.ok, e5⟩
        by_cases hltj : j < zs.length
        · obtain ⟨q1, q2⟩ := jok1 j zs[j] (List.getElem?_eq_getElem hltj)
          refine .inr ⟨q1, fun H' => ∃ m', m' < zs.length - j ∧ (m' = zs.length - (j + 1) ∧ j + 1 ≤ zs.length ∧ ∃ (W5 : Wd) (cs : List γ), W5.H = H' ∧ Ex W4.B W5.B ∧ Bld R W' D ys (cs ++ r1) W5 ∧ compGo (mt1 xs[i]) (me xs[i]) (zs.drop (j + 1)) = some cs), fun H' h => h, fun v1 H' y1 => ?_⟩
          obtain ⟨W6, rfl, e6, p6⟩ := q2 v1 H' y1
          have hDrop1 : zs.drop j = zs[j] :: zs.drop (j + 1) := List.drop_eq_getElem_cons hltj
          rw [hDrop1] at c5
          obtain ⟨b1, w1, w2⟩ := run1 (f := fun b => bif b then (me xs[i] zs[j]).bind fun y => (compGo (mt1 xs[i]) (me xs[i]) (zs.drop (j + 1))).bind fun ys => some (y :: ys) else compGo (mt1 xs[i]) (me xs[i]) (zs.drop (j + 1))) c5
          obtain ⟨Fv, sv, subv⟩ := ((s4.via (fun a ha => subw a (sub2 a ha)) st'.fp ((bd3.ext ext4).2.1) bd5.2.1 e5).ext e6).wipe vs1
          refine hg1 _ _ W6 Fv zs[j] v1 sv (fun l hl' => by rw [wipeC_len]; exact hl1 xs[i] l hl') p6 _ fun σ3 F3 wp3 _ s3 sub3 => ⟨?_, ?_⟩
          · rw [wp3 _ hw1]
            exact jc_of.wipe_wipe σ2 vs1
          refine ht1 xs[i] zs[j] σ3 W6 F3 s3 b1 w1 _ fun W7 e7 => ?_
          have e57 : Ex W4.B W7.B := e5.trans (e6.trans e7).b
          cases b1 with
          | false => exact iteF ⟨zs.length - (j + 1), by omega, rfl, hltj, W7, cs, rfl, e57, (bd5.ext e6).ext e7, w2⟩
          | true =>
            obtain ⟨y2, cs2, w3, w4, w5⟩ := run2 (f := fun y ys => some (y :: ys)) w2
            cases w5
            refine iteT (he xs[i] zs[j] σ3 W7 F3 (s3.ext e7) y2 w3 _ fun u W8 Fu e8 fr8 fp8 r8 => ?_)
            obtain ⟨acc, a1, a2, a3⟩ := ((bd5.ext e6).ext e7).step hlen e8 fr8 fp8 r8
            exact ⟨acc, a1, a2, zs.length - (j + 1), by omega, rfl, hltj, ⟨upd W8.H D (.lst (acc ++ [u])), W8.B⟩, cs2, rfl, e57.trans e8.b, a3, w4⟩
        · have ej : j = zs.length := by omega
          subst ej
          rw [List.drop_length] at c5
          cases c5
          exact .inl ⟨jok2 _ (Nat.le_refl _), xs.length - (i + 1), by omega, rfl, hlt, W5, r1, rfl, bd5, u4⟩
    · have ei : i = xs.length := by omega
      subst ei
      rw [List.drop_length] at c1
      cases c1
      obtain ⟨hD0, e1, acc, as, Fa, d1, d2, c2, o1, o2, o3, o4⟩ := bd
      rw [List.append_nil] at c2
      subst c2
      refine .inl ⟨iok2 _ (Nat.le_refl _), k (.ref D) W1 (D :: Fa) (ext.trans e1) (fun a ha => ?_) ?_ ⟨D, acc, Fa, rfl, d1, rfl, o1⟩⟩
      · rcases List.mem_cons.mp ha with z | z
        · rw [z]; exact ext.h.back hD
        · exact ext.h.back (o4 a z)
      · refine ⟨List.nodup_cons.mpr ⟨o3, o2.nd⟩, fun a ha => ?_, fun a ha => ?_⟩
        · rcases List.mem_cons.mp ha with z | z
          · rw [z, d1]; exact fun z => nomatch z
          · exact o2.al a z
        · rcases List.mem_cons.mp ha with z | z
          · rw [z]; exact d2
          · exact o2.fr a z
  · cases h3
theorem js_setLc2 {x : Str} {py spos : Pos} {scope : Scope} {m : Option α} {R : α → OP} (i : Nat) (nd : S.N.Nodup) (h : JC2 S elt tg iter ifs tg1 iter1 ifs1 scope Γ m R) (hi : (Γ[i]?).isSome = true := by rfl) (hN : S.N[i]? = some x := by rfl) (hx : S.sc.names.lookup x = some .local := by rfl) (hp : (S.prot.contains i) = false := by rfl)
    (hk : S.sc.kind = .function := by rfl) (hl : (py.line == pos.line) = true := by rfl) (hown : (scope.names.any fun (n, k) => n == x && (k == .local || k == .cell)) = false := by decide +kernel) (hs : ∀ env x, foldedSetIterable iter env x = pure x := by intro _ _; rfl) (hs1 : ∀ env x, foldedSetIterable iter1 env x = pure x := by intro _ _; rfl) (hcm : S.calm = true := by rfl) :
    JS S (.Assign [.Name x py] (.ListComp elt [⟨tg, iter, ifs, 0⟩, ⟨tg1, iter1, ifs1, 0⟩] scope pos) spos) Γ m fun a => .nx (Γ.set i (some (R a))) := fun σ W F sta y hy E k => by
  obtain ⟨own, vs1, ok, hv, go⟩ := h
  refine ⟨_, fun X hX => ps_setLc2 (hX.calm.trans hcm) (by rw [hX.N]; exact nd) (by rw [hX.N]; exact hN) (by rw [hX.sc]; exact hx) (sw_true (by rw [hX.sc]; exact hk) (by rw [hX.sc]; exact hx) hl hown) (piO hX) (by rw [hX.N, hX.sc]; exact ok) hv (fun s H C cl fp => pgO (hX.blk scope s H C cl fp)) (fun s H C cl fp => ptsO (hX.blk scope s H C cl fp)) (fun s H C cl fp => piO (hX.blk scope s H C cl fp)) (fun s H C cl fp => pgO (hX.blk scope s H C cl fp)) (fun s H C cl fp => ptsO (hX.blk scope s H C cl fp)) (fun s H C cl fp => peO (hX.blk scope s H C cl fp)) (hs _) hs1, go σ W F sta y hy _ fun v W' Fv ext fr fp r => ?_⟩
  obtain ⟨F', s', stp⟩ := sta_set sta ext fr fp r hi
  exact k _ W' F' (Keep.set (ncon hp)) stp s'
end
end CC
set_option maxHeartbeats 4000000
/-! Calls with keywords in any order; an item of a list in a list taken out; written numbers of the module. -/
namespace CC
open PySem PySem.Spec L2
open PyProof.Rows hiding St
variable {α β γ δ τ υ ω ρ ε κ : Type}
def sel (l : List α) (is : List Nat) : List α := is.filterMap fun i => l[i]?
theorem vals_sel {vs : List V} {us : List Value} (h : Vals vs us) : ∀ is : List Nat, Vals (sel vs is) (sel us is)
  | [] => .nil
  | i :: is => by
    have ih := vals_sel h is
    unfold sel at ih ⊢
    cases e : vs[i]? with
    | none =>
      have e2 : us[i]? = none := by
        rw [List.getElem?_eq_none_iff] at e ⊢
        rw [← h.length]
        exact e
      rw [List.filterMap_cons_none e, List.filterMap_cons_none e2]
      exact ih
    | some v =>
      obtain ⟨u, e2, r⟩ := h.get e
      rw [List.filterMap_cons_some e, List.filterMap_cons_some e2]
      exact .cons r ih
theorem hets_sel {B : Hp} {vs : List V} {ps : List SP} (h : Hets B vs ps) : ∀ is : List Nat, Hets B (sel vs is) (sel ps is)
  | [] => trivial
  | i :: is => by
    have ih := hets_sel h is
    unfold sel at ih ⊢
    cases e : ps[i]? with
    | none =>
      have e2 : vs[i]? = none := by
        rw [List.getElem?_eq_none_iff] at e ⊢
        rw [h.len]
        exact e
      rw [List.filterMap_cons_none e, List.filterMap_cons_none e2]
      exact ih
    | some p =>
      obtain ⟨v, e2, r⟩ := h.get e
      rw [List.filterMap_cons_some e, List.filterMap_cons_some e2]
      exact ⟨r, ih⟩
theorem hets_s {B : Hp} {vs zs : List V} {ps qs rs : List SP} {is : List Nat} (h : Hets B vs ps) (k : Hets B zs qs) (e : rs = sel (ps ++ qs) is) : Hets B (sel (vs ++ zs) is) rs := e ▸ hets_sel (h.app k) is
theorem kb_plain {K : PySem.W.Frag} {x qual : Str} {params : Arguments} {body : List Stmt} {scope : Scope} {f : Addr} {fd : FuncData} {ps : List Str} (F : FunD K x qual params body scope [] [] f fd) (n : Nat) (ks : List Str) (is : List Nat)
    (h : ∀ (kV doc pm : Value) (an : Option Addr) (cdv ct : Value) (us ws : List Value), us.length = n → ws.length = ks.length → bindArgs (PySem.W.fnOf x qual params body scope .none kV doc pm an cdv ct) ⟨us, ks.zip ws⟩ = pure (ps.zip (sel (us ++ ws) is))) :
    KBn K fd ps n ks (fun us ws => sel (us ++ ws) is) (fun vs zs => sel (vs ++ zs) is) := by
  obtain ⟨oc, od, dV, kV, doc, pm, an, cdv, ct, osl, rfl, lk, hcd, hD, hK⟩ := F.ex
  rcases hD with ⟨_, rfl⟩ | ⟨e, _⟩
  · exact ⟨fun s us ws X l1 l2 => .of_eq (h kV doc pm an cdv ct us ws l1 l2), fun r q => vals_sel (r.append q) is⟩
  · exact absurd rfl e
section
variable {S : Stc} {Γ : Ctx} {a b e : Expr} {es : List Expr} {pos : Pos}
/-- a number of the module -/
theorem jn_gint {x : Str} {i : Int} (hm : ∃ t, S.mg x = some (.int i t)) (hg : GlS S x := by rfl) (hd : (x == ("__debug__" : Str)) = false := by decide) : JN S (.Name x pos) Γ (some i) fun z => sh (intS z) := by
  obtain ⟨t, hm⟩ := hm
  exact jn_c (v := .int i) (E := intS) (a := i) (fun X hX => pe_glob (hg.gl hX) (mgS hm hX) ⟨t, rfl⟩ hd) fun _ => rfl
end
section
variable {S : Stc} {Γ : τ → Ctx} {s : τ} {tg iter : Expr} {pos : Pos} {A : List Stmt}
theorem js_forE1 {mi : Option (List α × τ)} {E : α → SP} {up : α → Ctx → Ctx} {ws : List Nat} {Γl : υ → Ctx} {T : ρ → Kd} {f : α → υ → Option (Out υ ρ)} (s0 : τ → υ) (hi : JIE S tg iter Γ s mi E) (hg : JG S tg E up ws) (w : ∀ s, Weak (Γ s) (Γl (s0 s))) (hl : ∀ s, ∀ i ∈ ws, i < (Γl s).length)
    (hT : ∀ r, NoNx (T r) ∧ (∀ Δ, T r ≠ .bk Δ) ∧ ∀ Δ, T r ≠ .ct Δ) (hb : ∀ x s, JB S A (up x (Γl s)) (f x s) (DL Γl T)) (hs : ∀ env x, foldedSetIterable iter env x = pure x := by intro _ _; rfl) (hcm : S.calm = true := by rfl) :
    JS S (.For tg iter A [] pos) (Γ s) (mi.bind fun q => loopGo f q.1 (s0 q.2)) (DF Γl T) := fun σ W F sta z hz Ed k => by
  obtain ⟨q, h1, h2⟩ := run1 hz
  exact js_forE (Γl := fun _ => Γl) (f := fun _ => f) s0 hi hg w (fun _ => hl) hT (fun _ => hb) hs hcm σ W F sta (q.2, z) (by rw [h1]; show (loopGo f q.1 (s0 q.2)).bind _ = _; rw [h2]; rfl) Ed k
theorem js_forSE {mi : Option (List α × τ)} {E : α → SP} {up : α → Ctx → Ctx} {ws : List Nat} {Γl : υ → Ctx} {f : α → υ → Option υ} (s0 : τ → υ) (hi : JIE S tg iter Γ s mi E) (hg : JG S tg E up ws) (w : ∀ s, Weak (Γ s) (Γl (s0 s))) (hl : ∀ s, ∀ i ∈ ws, i < (Γl s).length)
    (hb : ∀ x s, JB S A (up x (Γl s)) (f x s) fun s' => .nx (Γl s')) (hs : ∀ env x, foldedSetIterable iter env x = pure x := by intro _ _; rfl) (hcm : S.calm = true := by rfl) :
    JS S (.For tg iter A [] pos) (Γ s) (mi.bind fun q => foldGo f q.1 (s0 q.2)) fun s => .nx (Γl s) := fun σ W F sta z hz Ed k => by
  have h := js_forE1 (ρ := Empty) (T := fun r => nomatch r) (f := fun x s => (f x s).bind fun s' => some (.nx s')) (pos := pos) s0 hi hg w hl (fun r => nomatch r) (fun x s => JB.map (hb x s) fun s' => rfl) hs hcm
  refine h σ W F sta (.nx z) ?_ Ed k
  obtain ⟨q, h1, h2⟩ := run1 hz
  rw [h1]
  show loopGo _ q.1 (s0 q.2) = _
  rw [loopGo_fold, h2]
  rfl
end
/-- a def with state first that falls off its end -/
theorem fnd_stateN {P : Program} {w : World} {K : PySem.W.Frag} {mg : Str → Option Value} {base : Heap} {x qual : Str} {st : Stmt} {f : Addr} {fd : FuncData} {dvs : List V} {kwd : List (Str × V)} {N ps : List Str} {k : Nat} {O : τ → OP} {G : α → List SP} {fM : α → τ → Option τ} (F : FunD K x qual (defArgs st) (defBody st) (defScope st) dvs kwd f fd) (Sc : FnScope N ps (defScope st)) (hG : ∀ a, (G a).length + 1 = ps.length) (hn : ps.length ≤ N.length)
    (body : ∀ a s, JB (stcOf P w K mg base N (defScope st) k [0]) (defBody st) (some (O s) :: (shC (G a) ++ nonC (N.length - ps.length))) (fM a s) fun r => .nx (some (O r) :: nonC (N.length - 1))) : FnOk P w K mg base CX0 (k + 1) f fd ps (spS O G (fun a s => (fM a s).bind fun s' => some ((), s')) fun _ => sh nonS) := by
  refine F.ok Sc (fun vs H Q E h => ?_) (fun cdv A outer s H vs Q E hr h => ?_)
  · obtain ⟨a, s, W, F, v0, vr, r, rfl, _, _, _, _, h3, _⟩ := h
    rw [List.length_cons, h3.len, hG]
  · obtain ⟨a, s0, W, Fp, v0, vr, r, rfl, rfl, ok, fp0, h0, h3, h4, kq⟩ := h
    obtain ⟨s1, h5, h6⟩ := run1 h4
    cases h6
    refine ⟨tbOf (stcOf P w K mg base N (defScope st) k [0]) (defBody st), (pbO (in_cx hr)).nox, ?_⟩
    have hl : (v0 :: vr).length = ps.length := by rw [List.length_cons, h3.len]; exact hG a
    have sta : Sta (some (O s0) :: (shC (G a) ++ nonC (N.length - ps.length))) (L2.start N (v0 :: vr)) W Fp := ⟨ok, fp0, by
      unfold L2.start shC nonC
      have := hG a
      simp [h3.len]
      omega, ⟨v0, Fp, [], rfl, (List.append_nil _).symm, h0, by
      unfold L2.start
      rw [hl]
      exact holds_sh h3⟩⟩
    refine body a s0 _ W Fp sta s1 h5 _ fun σ' W' F' kp stp sa => ?_
    obtain ⟨u, F1, F2, b1, b2, b3, b4⟩ := sa.hold
    have e0 : σ'[0]? = some (some v0) := (kp 0 (by simp)).trans rfl
    have eu : u = v0 := by
      rw [List.head?_eq_getElem?] at b1
      rw [e0] at b1
      exact (Option.some.inj (Option.some.inj b1)).symm
    subst eu
    have eF : F2 = [] := by
      have : ∀ (n : Nat) (σ : L2.St) (F : List Addr), Holds (nonC n) σ W' F → F = [] := by
        intro n
        induction n with
        | zero => intro σ F h; exact h
        | succ n ih => intro σ F h; exact ih σ.tail F h
      exact this _ _ _ b4
    subst eF
    rw [List.append_nil] at b2
    subst b2
    exact kq .non W' F' [] (by rw [List.append_nil]; exact stp) (by rw [List.append_nil]; exact sa.fp) b3 ⟨rfl, rfl⟩
end CC
set_option maxHeartbeats 4000000
/-! A row of a table under a second name. -/
namespace CC
open PySem PySem.Spec L2
open PyProof.Rows hiding St
variable {α β γ δ τ υ ω ρ ε κ : Type}
/-- all owned but the k-th -/
def OwnsBut (E : α → OP) (W : Wd) : Nat → List V → List α → List Addr → Prop
  | 0, _ :: vs, _ :: xs, F => Owns E W vs xs F
  | k + 1, v :: vs, x :: xs, F => ∃ F1 F2, F = F1 ++ F2 ∧ (E x).C W v F1 ∧ OwnsBut E W k vs xs F2
  | _, [], _, _ => False
  | _, _ :: _, [], _ => False
theorem OwnsBut.loc {E : α → OP} {W W' : Wd} (e : Ex W.B W'.B) : ∀ {k : Nat} {vs : List V} {xs : List α} {F : List Addr}, OwnsBut E W k vs xs F → (∀ a ∈ F, W'.H a = W.H a) → OwnsBut E W' k vs xs F
  | 0, _ :: _, _ :: _, _, h, q => Owns.loc e h q
  | k + 1, _ :: _, _ :: _, _, ⟨F1, F2, h1, h2, h3⟩, q => by
    subst h1
    exact ⟨F1, F2, rfl, OP.loc _ h2 e fun a ha => q a (List.mem_append_left _ ha), OwnsBut.loc e h3 fun a ha => q a (List.mem_append_right _ ha)⟩
  | 0, [], _, _, h, _ => h.elim
  | 0, _ :: _, [], _, h, _ => h.elim
  | _ + 1, [], _, _, h, _ => h.elim
  | _ + 1, _ :: _, [], _, h, _ => h.elim
theorem Owns.split {E : α → OP} {W : Wd} : ∀ {k : Nat} {vs : List V} {xs : List α} {F : List Addr} {x : α}, Owns E W vs xs F → xs[k]? = some x → ∃ v F1 F2, vs[k]? = some v ∧ (E x).C W v F1 ∧ OwnsBut E W k vs xs F2 ∧ F.Perm (F1 ++ F2)
  | 0, v :: vs, y :: xs, _, x, ⟨F1, F2, h1, h2, h3⟩, e => by
    have : y = x := by simpa using e
    subst this h1
    exact ⟨v, F1, F2, rfl, h2, h3, .refl _⟩
  | k + 1, v :: vs, y :: xs, _, x, ⟨F1, F2, h1, h2, h3⟩, e => by
    subst h1
    obtain ⟨u, G1, G2, a1, a2, a3, a4⟩ := Owns.split (k := k) h3 (by simpa using e)
    refine ⟨u, G1, F1 ++ G2, by simpa using a1, a2, ⟨F1, G2, rfl, h2, a3⟩, ?_⟩
    refine (List.Perm.append_left F1 a4).trans ?_
    rw [← List.append_assoc, ← List.append_assoc]
    exact List.Perm.append_right G2 List.perm_append_comm
  | _, [], [], _, _, _, e => by simp at e
  | _, [], _ :: _, _, _, h, _ => h.elim
  | _, _ :: _, [], _, _, h, _ => h.elim
theorem OwnsBut.join {E : α → OP} {W : Wd} : ∀ {k : Nat} {vs : List V} {xs : List α} {F2 F1 : List Addr} {x : α} {v : V}, OwnsBut E W k vs xs F2 → vs[k]? = some v → (E x).C W v F1 → ∃ F, Owns E W vs (xs.set k x) F ∧ F.Perm (F1 ++ F2)
  | 0, u :: vs, y :: xs, F2, F1, x, v, h, e, c => by
    have : u = v := by simpa using e
    subst this
    exact ⟨F1 ++ F2, ⟨F1, F2, rfl, c, h⟩, .refl _⟩
  | k + 1, u :: vs, y :: xs, _, F1, x, v, ⟨G1, G2, h1, h2, h3⟩, e, c => by
    subst h1
    obtain ⟨F, a1, a2⟩ := OwnsBut.join (k := k) h3 (by simpa using e) c
    refine ⟨G1 ++ F, ⟨G1, F, rfl, h2, a1⟩, ?_⟩
    refine (List.Perm.append_left G1 a2).trans ?_
    rw [← List.append_assoc, ← List.append_assoc]
    exact List.Perm.append_right G2 List.perm_append_comm
  | 0, [], _, _, _, _, _, h, _, _ => h.elim
  | 0, _ :: _, [], _, _, _, _, h, _, _ => h.elim
  | _ + 1, [], _, _, _, _, _, h, _, _ => h.elim
  | _ + 1, _ :: _, [], _, _, _, _, h, _, _ => h.elim
/-- a list whose k-th item, the value v, is lent -/
def holeO (E : α → OP) (k : Nat) (v : V) (xs : List α) : OP := ⟨fun W w F => ∃ a vs F2, w = .ref a ∧ W.H a = some (.lst vs) ∧ F = a :: F2 ∧ vs[k]? = some v ∧ OwnsBut E W k vs xs F2, fun h e q => by
  obtain ⟨a, vs, F2, h1, h2, h3, h4, h5⟩ := h
  subst h3
  exact ⟨a, vs, F2, h1, (q a List.mem_cons_self).trans h2, rfl, h4, h5.loc e fun b hb => q b (List.mem_cons_of_mem _ hb)⟩⟩
/-- the very value v -/
def alO (o : OP) (v : V) : OP := ⟨fun W w F => w = v ∧ o.C W w F, fun h e q => ⟨h.1, o.loc h.2 e q⟩⟩
section
variable {S : Stc} {Γ Δ : Ctx} {a b e : Expr} {pos : Pos} {st : Stmt} {rest : List Stmt}
theorem jb_borrow {r u : Str} {p0 p1 p2 : Pos} {E : α → OP} {xss : List α} {mi : Option Int} {mr : Nat → α → Option ω} {D : ω → Kd} (iu ir : Nat) (nd : S.N.Nodup) (ha : JN S a Γ mi fun z => sh (intS z)) (hi : Γ[iu]? = some (some (lstO E xss)) := by rfl) (hir : (Γ[ir]?).isSome = true := by rfl) (hne : iu ≠ ir := by decide)
    (hr : ∀ k v x, JB S rest ((Γ.set iu (some (holeO E k v xss))).set ir (some (alO (E x) v))) (mr k x) D)
    (hNu : S.N[iu]? = some u := by rfl) (hNr : S.N[ir]? = some r := by rfl) (hvu : Vis S.sc u := by first | exact Or.inl rfl | exact Or.inr (Or.inl rfl) | exact Or.inr (Or.inr rfl)) (hd : (u == ("__debug__" : Str)) = false := by decide) (hcd : (u == ("__classdict__" : Str)) = false := by decide)
    (hx : Loc S.sc r := by first | exact Or.inl rfl | exact Or.inr rfl) (hp : (S.prot.contains ir) = false := by rfl) (hpl : PlainIx a := by exact fun _ _ => rfl)
    (hs : ∀ env, swapsWith (.Subscript (.Name u p0) a p1) (some (.Name r p2)) pos.line env = pure false := by intro _; rfl) (hf : S.fn r = true ∨ S.sc.names.lookup r = some .local := by first | exact .inl rfl | exact .inr rfl) :
    JB S (.Assign [.Name r p2] (.Subscript (.Name u p0) a p1) pos :: rest) Γ (mi.bind fun i => (ixN xss.length i).bind fun k => (xss[k]?).bind fun x => mr k x) D := fun σ W F sta z hz Ed kk => by
  obtain ⟨i, m1, m2⟩ := run1 hz
  obtain ⟨k, m3, m4⟩ := run1 (f := fun k => (xss[k]?).bind fun x => mr k x) m2
  obtain ⟨x, m5, m6⟩ := run1 (f := fun x => mr k x) m4
  refine ⟨tSeq (tAsg (tOp (rIxL S.K) (tVar iu) (tOf S a)) (gName ir)) (tbOf S rest), fun X hX => pss_cons (ps_set (by rw [hX.N]; exact nd) (by rw [hX.N]; exact hNr) (locS hx hX) (pe_ix (oIxL X hX) (pe_var (by rw [hX.N]; exact hNu) (visS hvu hX) hd hcd) (peO hX) hpl) (hs _) (by rw [hX.fn, hX.sc]; exact hf)) (pbO hX), ?_⟩
  obtain ⟨w, F1, F2, a1, _⟩ := sta.hold.at hi
  refine ⟨w, a1, ha σ W F sta i m1 _ fun t W1 _ ext _ _ r1 => ?_⟩
  obtain ⟨_, rfl⟩ := r1
  have sta1 := sta.ext ext
  obtain ⟨w', F1', F2', c1, c2, c3, c4⟩ := sta1.hold.at hi
  have ev : w' = w := by rw [a1] at c1; exact (Option.some.inj (Option.some.inj c1)).symm
  subst ev
  obtain ⟨p, vs, G2, rfl, d2, rfl, d4⟩ := c2
  obtain ⟨v, K1, K2, k1, k2, k3, k4⟩ := d4.split m5
  refine ⟨p, vs, i, v, rfl, rfl, .inl (.inl d2), by unfold atI; rw [d4.len, m3]; exact k1, ?_⟩
  obtain ⟨F', s1, s2⟩ := c4 W1 (holeO E k v xss) (.ref p) (p :: K2) (fun _ _ h => h) (fun _ _ => rfl) ⟨p, vs, K2, rfl, d2, rfl, k1, k3⟩
  rw [set_back c1] at s1
  have pF : F.Perm (F' ++ K1) := by
    refine c3.trans ?_
    refine List.Perm.trans ?_ (List.Perm.append_right K1 s2.symm)
    have e1 : ((p :: G2) ++ F2').Perm ((p :: (K2 ++ K1)) ++ F2') := List.Perm.append_right F2' (List.Perm.cons p (k4.trans List.perm_append_comm))
    refine e1.trans ?_
    show ((p :: K2) ++ K1 ++ F2').Perm _
    rw [List.append_assoc, List.append_assoc]
    exact List.Perm.append_left _ List.perm_append_comm
  have fpA := sta1.fp.perm pF
  have s3 : Sta (Γ.set iu (some (holeO E k v xss))) σ W1 F' := ⟨sta1.ok, fpA.left, by rw [List.length_set]; exact sta1.len, s1⟩
  have hlt : ir < (Γ.set iu (some (holeO E k v xss))).length := by
    rw [List.length_set]
    cases h : Γ[ir]? with
    | none => rw [h] at hir; cases hir
    | some o => exact (List.getElem?_eq_some_iff.mp h).1
  obtain ⟨F3, s4, sub⟩ := s3.put (o := alO (E x) v) (v := v) (F1 := K1) hlt ⟨rfl, k2⟩ fpA
  refine hr k v x (σ.set ir (some v)) W1 F3 s4 z m6 Ed (kk.before (Keep.set (ncon hp)) ?_)
  exact ext.stp0.perm fun b hb => pF.mem_iff.mpr (sub b hb)
/-- what was lent is put back -/
theorem jb_back {sts : List Stmt} {E : α → OP} {xss : List α} {m : Option ω} {D : ω → Kd} {k : Nat} {v : V} {x : α} (iu ir : Nat) (hu : (Γ.set ir none)[iu]? = some (some (holeO E k v xss))) (hr : Γ[ir]? = some (some (alO (E x) v))) (h : JB S sts ((Γ.set ir none).set iu (some (lstO E (xss.set k x)))) m D) : JB S sts Γ m D := fun σ W F sta z hz Ed kk => by
  obtain ⟨w, F1, F2, a1, ⟨rfl, a2⟩, a3, s1⟩ := sta_take sta hr
  obtain ⟨w', G1, G2, c1, c2, c3, c4⟩ := s1.hold.at hu
  obtain ⟨p, vs, H2, rfl, d2, rfl, d3, d4⟩ := c2
  obtain ⟨F', e1, e2⟩ := d4.join d3 a2
  obtain ⟨F3, t1, t2⟩ := c4 W (lstO E (xss.set k x)) (.ref p) (p :: F') (fun _ _ h => h) (fun _ _ => rfl) ⟨p, vs, F', rfl, d2, rfl, e1⟩
  rw [set_back c1] at t1
  have pF : F.Perm F3 := by
    refine a3.trans ?_
    refine (List.Perm.append_right F1 c3).trans ?_
    refine List.Perm.trans ?_ t2.symm
    show ((p :: H2) ++ G2 ++ F1).Perm (p :: F' ++ G2)
    refine List.Perm.trans ?_ (List.Perm.append_right G2 (List.Perm.cons p e2.symm))
    show (p :: (H2 ++ G2 ++ F1)).Perm (p :: ((F1 ++ H2) ++ G2))
    refine List.Perm.cons p ?_
    rw [List.append_assoc F1]
    exact List.perm_append_comm
  have s2 : Sta ((Γ.set ir none).set iu (some (lstO E (xss.set k x)))) σ W F3 := ⟨sta.ok, sta.fp.perm pF, by rw [List.length_set]; exact s1.len, t1⟩
  exact h σ W F3 s2 z hz Ed (kk.before Keep.refl ((Stp.refl sta.ok).perm fun b hb => pF.mem_iff.mpr hb))
theorem ts_prot {D : Ends} {σ : L2.St} {H : Hp} {p : List Nat} (h : tsOf { S with prot := p } st D σ H) : tsOf S st D σ H := by
  obtain ⟨t, h1, h2⟩ := h
  exact ⟨t, fun X hX => h1 X ⟨hX.prog, hX.w, hX.K, hX.mg, hX.base, hX.N, hX.sc, hX.fn, hX.calm, hX.room, hX.un, hX.pass, hX.tk, hX.top, hX.ex⟩, h2⟩
/-- a statement over the lent row, which keeps its slot -/
theorem js_al {o : OP} {o' : τ → OP} {v : V} {m : Option τ} {Γl : τ → Ctx} (ir : Nat) (hi : Γ[ir]? = some (some (alO o v))) (h : JS { S with prot := ir :: S.prot } st (Γ.set ir (some o)) m fun x => .nx (Γl x)) (hl : ∀ x, (Γl x)[ir]? = some (some (o' x)) := by intro _; rfl) :
    JS S st Γ m fun x => .nx ((Γl x).set ir (some (alO (o' x) v))) := fun σ W F sta z hz Ed kk => by
  obtain ⟨w, F1, F2, a1, ⟨rfl, a2⟩, a3, a4⟩ := sta.hold.at hi
  obtain ⟨F', s1, s2⟩ := a4 W o w F1 (fun _ _ h => h) (fun _ _ => rfl) a2
  rw [set_back a1] at s1
  have pF : F.Perm F' := a3.trans s2.symm
  have sta' : Sta (Γ.set ir (some o)) σ W F' := ⟨sta.ok, sta.fp.perm pF, by rw [List.length_set]; exact sta.len, s1⟩
  refine ts_prot (p := ir :: S.prot) (h σ W F' sta' z hz Ed fun σ' W' F2' kp stp sa => ?_)
  have e0 : σ'[ir]? = some (some w) := (kp ir List.mem_cons_self).trans a1
  obtain ⟨w', G1, G2, b1, b2, b3, b4⟩ := sa.hold.at (hl z)
  have ew : w' = w := by rw [e0] at b1; exact (Option.some.inj (Option.some.inj b1)).symm
  subst ew
  obtain ⟨F3, t1, t2⟩ := b4 W' (alO (o' z) w') w' G1 (fun _ _ h => h) (fun _ _ => rfl) ⟨rfl, b2⟩
  rw [set_back b1] at t1
  have pG : F2'.Perm F3 := b3.trans t2.symm
  refine kk σ' W' F3 (fun p hp => kp p (List.mem_cons_of_mem _ hp)) ?_ ⟨sa.ok, sa.fp.perm pG, by rw [List.length_set]; exact sa.len, t1⟩
  exact (stp.permL fun b hb => pF.mem_iff.mpr hb).perm fun b hb => pG.mem_iff.mpr hb
end
theorem iv_alO {K : PySem.W.Frag} {E : α → OP} {v : V} : IxV (rIxL K) (fun xs => alO (lstO E xs) v) intS (fun xs i => atI xs i) E := fun W x y v u z F1 ok hx hy e Q k => iv_lstO W x y v u z F1 ok hx.2 hy e Q k
section
variable {S : Stc} {Γ Δ : Ctx} {a b e : Expr} {pos : Pos} {st : Stmt} {rest : List Stmt}
theorem sta_frz {σ : L2.St} {W : Wd} {F : List Addr} {i : Nat} {o : OP} {p : SP} (st : Sta Γ σ W F) (hi : Γ[i]? = some (some o)) (f : FrzN o p) : ∃ B' F', Ex W.B B' ∧ Sta (Γ.set i (some (sh p))) σ ⟨W.H, B'⟩ F' := by
  obtain ⟨v, F1, F2, a1, a2, a3, a4⟩ := st.hold.at hi
  have fp := st.fp.perm a3
  obtain ⟨B', b1, b2, b3, b4⟩ := f.run a2 fp.left.nd fp.left.fr st.ok
  obtain ⟨F', c1, c2⟩ := a4 ⟨W.H, B'⟩ (sh p) v [] b1 (fun _ _ => rfl) ⟨rfl, b4⟩
  have fp' : FpOk ⟨W.H, B'⟩ F' := by
    refine FpOk.perm (F := F2) ?_ (by simpa using c2.symm)
    exact ⟨fp.right.nd, fp.right.al, fun a ha => b3 a (fp.right.fr a ha) fun z => fp.disj a z ha⟩
  rw [set_back a1] at c1
  exact ⟨B', F', b1, b2, fp', by rw [List.length_set]; exact st.len, c1⟩
theorem ext_thaw {W W' : Wd} {B' : Hp} (ok : Ex W.B W.H) (b : Ex W.B B') (e : Ext ⟨W.H, B'⟩ W') : Ext W ⟨W'.H, W.B⟩ := ⟨ok.trans e.h, e.h, Ex.refl _, fun _ _ h => h⟩
/-- what is owned is read as if it stood still; the value does not lean on it -/
theorem jn_thaw {m : Option α} {E : α → SP} {i : Nat} {o : OP} {p : SP} (hE : ∀ x B B' v, (E x).P B v → (E x).P B' v) (hi : Γ[i]? = some (some o)) (f : FrzN o p) (h : JN S e (Γ.set i (some (sh p))) m fun x => sh (E x)) : JN S e Γ m fun x => sh (E x) := fun σ W F st x hx Q k => by
  obtain ⟨B', F', b, st'⟩ := sta_frz st hi f
  exact h σ ⟨W.H, B'⟩ F' st' x hx Q fun v W' Fv ext fr fp r => k v ⟨W'.H, W.B⟩ [] (ext_thaw st.ok b ext) (by simp) FpOk.nil ⟨rfl, hE _ _ _ _ r.2⟩
theorem jt_thaw {m : Option Bool} {i : Nat} {o : OP} {p : SP} (hi : Γ[i]? = some (some o)) (f : FrzN o p) (h : JT S e (Γ.set i (some (sh p))) m) : JT S e Γ m := fun σ W F st x hx Q k => by
  obtain ⟨B', F', b, st'⟩ := sta_frz st hi f
  exact h σ ⟨W.H, B'⟩ F' st' x hx Q fun W' ext => k ⟨W'.H, W.B⟩ (ext_thaw st.ok b ext)
theorem flat_int : ∀ (x : Int) (B B' : Hp) (v : V), (intS x).P B v → (intS x).P B' v := fun _ _ _ _ h => h
theorem flat_bool : ∀ (x : Bool) (B B' : Hp) (v : V), (boolS x).P B v → (boolS x).P B' v := fun _ _ _ _ h => h
theorem flat_str : ∀ (x : Str) (B B' : Hp) (v : V), (strS x).P B v → (strS x).P B' v := fun _ _ _ _ h => h
end
section
variable {S : Stc} {Γ : Ctx} {a b e : Expr} {pos : Pos}
theorem each_ints {B : Hp} : ∀ {ns : List Int}, Each intS B (ns.map V.int) ns
  | [] => trivial
  | _ :: _ => ⟨rfl, each_ints⟩
theorem sorted_ints {m : Option (List Int)} {p : Pos} (hm : S.mg "sorted" = none) (h : JN S a Γ m fun x => sh (lstS intS x)) (hg : GlS S "sorted" := by rfl) (hs : ∀ env, starEach [a] env = [(false, eval a env)] := by intro _; rfl) : JN S (.Call (.Name "sorted" p) [a] [] pos) Γ (m.bind fun xs => some (sortI xs)) (lstO fun x => sh (intS x)) :=
  jn_b1 (f := fun xs : List Int => some (sortI xs)) (fun X hX => hX.K ▸ cr_sortedI) (fun W x v z ok hh e Q k => by
    cases e
    obtain ⟨a, vs, rfl, h2, h3⟩ := hh
    have e1 := each_flat fl_int h3
    subst e1
    refine ⟨a, x, rfl, .inl (.inl (ok a _ h2)), fun ys p perm srt np => ?_⟩
    have e : ys = sortI x := srt_uniq leI_an (List.Pairwise.imp (fun {u w} hn => by unfold leI; simpa using hn) srt) (isort_srt leI_tot leI_tr x) (perm.trans (isort_perm leI x).symm)
    subst e
    exact k.newL ok each_ints p np) hm h hg (by decide +kernel) (by decide) (by decide) hs
end
end CC
set_option maxHeartbeats 4000000
/-! A list of one's own within a list of several kinds. -/
namespace CC
open PySem PySem.Spec L2
open PyProof.Rows hiding St
variable {α β γ δ τ υ ω ρ ε κ : Type}
section
variable {S : Stc} {Γ : Ctx} {a b e : Expr} {es : List Expr} {pos : Pos}
/-- [fresh, shared, ..] -/
theorem jn_hl1 {m0 : Option α} {m : Option β} {R0 : α → OP} {G : β → List SP} {T : γ → OP} {g : α → β → γ} (h0 : JN S e Γ m0 R0) (h : JA S es Γ m G) (hR : ∀ x y, hetO (R0 x :: (G y).map sh) = T (g x y) := by intro _ _; rfl) (hl : ∀ x, (G x).length ≤ 1000 := by intro _; exact Nat.le_of_ble_eq_true rfl) (hs : ∀ env, starEach (e :: es) env = (false, eval e env) :: starEach es env := by intro _; rfl) :
    JN S (.List (e :: es) pos) Γ (m0.bind fun x => m.bind fun y => some (g x y)) T := fun σ W F sta z hz Q kk => by
  obtain ⟨x, y, h1, h2, h3⟩ := run2 hz
  cases h3
  refine ⟨tLst (tCons (tOf S e) (taOf S es)), fun X hX => pe_lst (pa_cons (peO hX) (paO hX) (hs _)), ?_⟩
  refine h0 σ W F sta x h1 _ fun v W1 Fv e1 fr fp r => ?_
  refine h σ W1 F (sta.ext e1) y h2 _ fun vs W2 e2 hh => ?_
  refine ⟨Nat.le_trans (by rw [List.length_cons, hh.len]; exact Nat.succ_le_succ (hl y)) (by decide), fun q hq => ?_⟩
  have e3 : Ext W2 ⟨upd W2.H q (.lst (v :: vs)), W2.B⟩ := Ext.new e2.ok hq
  have r2 : (R0 x).C W2 v Fv := (R0 x).ext r e2 fp
  have nq : ∀ b ∈ Fv, b ≠ q := fun b hb z => (fp.ext e2).al b hb (z ▸ hq)
  have r3 : (R0 x).C ⟨upd W2.H q (.lst (v :: vs)), W2.B⟩ v Fv := (R0 x).loc r2 (fun _ _ h => h) fun b hb => upd_ne (nq b hb)
  refine kk (.ref q) ⟨upd W2.H q (.lst (v :: vs)), W2.B⟩ (q :: Fv) ((e1.trans e2).trans e3) (fun b hb => ?_) ?_ (by rw [← hR]; exact ⟨q, v :: vs, Fv, rfl, upd_same, rfl, Fv, [], (List.append_nil _).symm, r3, HetO.of_hts (W := ⟨upd W2.H q (.lst (v :: vs)), W2.B⟩) hh⟩)
  · rcases List.mem_cons.mp hb with z | z
    · rw [z]; exact (e1.trans e2).h.back hq
    · exact fr b z
  · have f2 := fp.ext e2
    refine ⟨List.nodup_cons.mpr ⟨fun hb => nq q hb rfl, f2.nd⟩, fun b hb => wr_al' b hb f2, fun b hb => ?_⟩
    rcases List.mem_cons.mp hb with z | z
    · rw [z]
      exact e2.ok.back hq
    · exact f2.fr b z
where
  wr_al' {W2 : Wd} {q : Addr} {o : HO} {Fv : List Addr} (b : Addr) (hb : b ∈ q :: Fv) (f2 : FpOk W2 Fv) : upd W2.H q o b ≠ none := by
    by_cases z : b = q
    · rw [z, upd_same]
      exact fun z => nomatch z
    · rw [upd_ne z]
      exact f2.al b ((List.mem_cons.mp hb).resolve_left z)
end
section
variable {S : Stc} {Γ : τ → Ctx} {s : τ} {e : Expr} {pos : Pos}
/-- x[k].pop(e), x a list of several kinds, its k-th item a list of its own -/
theorem je_popH {x : Str} {p0 apos p2 : Pos} {kk p'} {ps : τ → List OP} {E : α → SP} {mi : Option Int} {j : Int} (i k : Nat) (get : τ → List α) (put : τ → List α → τ) (h : JN S e (Γ s) mi fun z => sh (intS z)) (hi : ∀ s, (Γ s)[i]? = some (some (hetO (ps s))) := by intro _; rfl) (hk : ∀ s, (ps s)[k]? = some (lstO (fun y => sh (E y)) (get s)) := by intro _; rfl)
    (hp : ∀ s u, (Γ s).set i (some (hetO ((ps s).set k (lstO (fun y => sh (E y)) u)))) = Γ (put s u) := by intro _ _; rfl) (hj : j = (k : Int) := by rfl)
    (hN : S.N[i]? = some x := by rfl) (hv : Vis S.sc x := by first | exact Or.inl rfl | exact Or.inr (Or.inl rfl) | exact Or.inr (Or.inr rfl)) (hd : (x == ("__debug__" : Str)) = false := by decide) (hcd : (x == ("__classdict__" : Str)) = false := by decide)
    (hbase : ∀ env, attributeBase (.Subscript (.Name x p0) (.Constant (.int j) kk p') p2) "pop" env (eval (.Subscript (.Name x p0) (.Constant (.int j) kk p') p2) env) = eval (.Subscript (.Name x p0) (.Constant (.int j) kk p') p2) env := by intro _; rfl)
    (hfew : ∀ env, ((backTo pos (starEach [e] env)).all (fun x => !x.1) && (backToKw pos (keywordEach [] env)).all (fun x => x.1.isSome) && decide ([e].length + ([] : List Keyword).length + (if ([] : List Keyword).isEmpty then 0 else 1) < 30)) = true := by intro _; rfl)
    (hline : (apos.endLine == pos.line) = true := by rfl) (hs : ∀ env, starEach [e] env = (false, eval e env) :: starEach [] env := by intro _; rfl) :
    JE S (.Call (.Attribute (.Subscript (.Name x p0) (.Constant (.int j) kk p') p2) "pop" apos) [e] [] pos) Γ s (mi.bind fun z => (popAt (get s) z).bind fun r => some (r.1, put s r.2)) fun y => sh (E y) := fun σ W F sta z hz Q kq => by
  obtain ⟨q, h1, h2⟩ := run1 hz
  obtain ⟨r, h3, h4⟩ := run1 (f := fun r : α × List α => some (r.1, put s r.2)) h2
  cases h4
  unfold popAt at h3
  split at h3
  · rename_i hb
    obtain ⟨y, h5, h6⟩ := run1 (f := fun y : α => some (y, (get s).eraseIdx q.toNat)) h3
    cases h6
    refine ⟨tBM S.K "list" rPopAt (tOp (rIxL S.K) (tVar i) (tC (.int j))) (tCons (tOf S e) tNil), fun X hX => hX.K ▸ pe_bm PySem.F.plainAttrs_list PySem.F.slot_list_pop PySem.F.type_list_pop mt_popAt (pe_ix (hX.K ▸ oIxL X hX) (pe_var (by rw [hX.N]; exact hN) (visS hv hX) hd hcd) pe_int (fun _ _ => rfl)) (pa_cons (peO hX) pa_nil (hs _)) (hbase _) (hfew _) hline (hs _) rfl, ?_⟩
    obtain ⟨v, F1, F2, a1, a2, a3, a4⟩ := sta.hold.at (hi s)
    obtain ⟨a, vs, G2, rfl, b2, rfl, b4⟩ := id a2
    obtain ⟨w, K1, K2, k1, k2, k3, k4⟩ := b4.at (hk s)
    obtain ⟨p, us, L2', rfl, l2, rfl, l4⟩ := k2
    refine ⟨.ref a, a1, a, vs, j, .ref p, rfl, rfl, .inl (.inl b2), by rw [hj]; exact atI_k k1, ?_⟩
    refine ⟨.inl ⟨rfl, us, .inl (.inl l2)⟩, h σ W F sta q h1 _ fun u W1 Fa ext _ _ r1 => ?_⟩
    obtain ⟨_, rfl⟩ := r1
    have sta1 := sta.ext ext
    obtain ⟨v', F1', F2', c1, c2, c3, c4⟩ := sta1.hold.at (hi s)
    have ev : v' = .ref a := by rw [a1] at c1; exact (Option.some.inj (Option.some.inj c1)).symm
    subst ev
    obtain ⟨a', vs', G3, e1, d2, rfl, d4⟩ := c2
    cases e1
    have evs : vs' = vs := by
      rw [ext.h a _ b2] at d2
      cases d2
      rfl
    subst evs
    obtain ⟨w', M1, M2, n1, n2, n3, n4⟩ := d4.at (hk s)
    rw [k1] at n1
    cases n1
    obtain ⟨p', us', L3, e2, o2, rfl, o4⟩ := n2
    cases e2
    obtain ⟨rfl, o5⟩ := o4.each
    have fpA := (sta1.fp.perm c3).left
    have hB : W1.B p = none := fpA.fr p (List.mem_cons_of_mem _ (n3.mem_iff.mpr (by simp)))
    have hne : a ≠ p := fun z => (List.nodup_cons.mp fpA.nd).1 (z ▸ n3.mem_iff.mpr (by simp))
    have hK : ∀ b ∈ M2, b ≠ p := fun b hb z => by
      have nd := (n3.nodup_iff.mp (List.nodup_cons.mp fpA.nd).2)
      exact (List.nodup_cons.mp nd).1 (z ▸ hb)
    obtain ⟨t, t1, t2⟩ := o5.get h5
    have hlen := o5.len
    have hlt : q.toNat < (get s).length := (List.getElem?_eq_some_iff.mp h5).1
    have z : LIM = 1000000 := rfl
    have eseq : seqIndex? q us'.length = some q.toNat := by
      have hx : ixN us'.length q = some q.toNat := by
        unfold ixN
        rw [if_pos hb.1, if_pos (by omega)]
      exact (ixN_seq hx).1
    refine ⟨p, us', q, q.toNat, t, rfl, rfl, o2, by omega, by omega, eseq, t1, ?_⟩
    have rN : (lstO (fun x => sh (E x)) ((get s).eraseIdx q.toNat)).C ⟨upd W1.H p (.lst (us'.eraseIdx q.toNat)), W1.B⟩ (.ref p) [p] :=
      ⟨p, _, [], rfl, upd_same, rfl, Owns.of_each (o5.eraseIdx q.toNat)⟩
    obtain ⟨G', g1, g2⟩ := n4 ⟨upd W1.H p (.lst (us'.eraseIdx q.toNat)), W1.B⟩ (lstO (fun x => sh (E x)) ((get s).eraseIdx q.toNat)) (.ref p) [p] (fun _ _ h => h) (fun b hb => upd_ne (hK b hb)) rN
    have hset : vs'.set k (.ref p) = vs' := by
      refine List.ext_getElem? fun n => ?_
      by_cases z : k = n
      · subst z
        rw [k1, List.getElem?_set_self (List.getElem?_eq_some_iff.mp k1).1]
      · rw [List.getElem?_set_ne z]
    rw [hset] at g1
    have pG : (a :: G').Perm (a :: G3) := List.Perm.cons a (g2.trans n3.symm)
    have fpB := fpA.perm pG.symm
    obtain ⟨F', s', stp⟩ := sta_own (W' := ⟨upd W1.H p (.lst (us'.eraseIdx q.toNat)), W1.B⟩) (F1' := a :: G') (o' := hetO ((ps s).set k (lstO (fun x => sh (E x)) ((get s).eraseIdx q.toNat)))) [] sta1 (by rw [List.append_nil]; exact sta1.fp) c1 c3 c4 (wr_ok ext.ok hB) rfl
      (fun b hb _ => upd_ne fun z => hb (z ▸ List.mem_cons_of_mem _ (n3.mem_iff.mpr (by simp)))) wr_al ⟨fpB.nd, fun b hb => wr_al b (fpB.al b hb), fpB.fr⟩ (fun b hb => .inl (pG.mem_iff.mp hb)) ⟨a, vs', G', rfl, (upd_ne hne).trans d2, rfl, g1⟩
    rw [List.append_nil] at stp
    rw [hp] at s'
    refine kq t _ F' [] (by rw [List.append_nil]; exact ext.stp0.trans stp) s' (by rw [List.append_nil]; exact s'.fp) ⟨rfl, t2⟩
  · cases h3
end
section
variable {S : Stc} {Γ : τ → Ctx} {s : τ} {a e : Expr} {pos : Pos}
theorem je_abs {m : Option (Int × τ)} {p : Pos} (hm : S.mg "abs" = none) (h : JE S a Γ s m fun x => sh (intS x)) (hg : GlS S "abs" := by rfl) (hs : ∀ env, starEach [a] env = [(false, eval a env)] := by intro _; rfl) : JE S (.Call (.Name "abs" p) [a] [] pos) Γ s (m.bind fun q => some (absI q.1, q.2)) fun z => sh (intS z) :=
  je_b1 (f := fun x : Int => some (absI x)) (fun X hX => call_abs) (fun W x v z ok hh e Q k => by
    cases e
    cases hh
    exact ⟨_, rfl, k.val ok rfl⟩) hm h hg (by decide +kernel) (by decide) (by decide) hs
end
/-! ### == of values of any kind -/
mutual
def toD : PV → PyData
  | .non => .none
  | .bl b => .bool b
  | .int i => .int i
  | .str z => .str z
  | .tup xs => .tuple (toDs xs)
  | .lst xs => .list (toDs xs)
def toDs : List PV → List PyData
  | [] => []
  | x :: xs => toD x :: toDs xs
end
mutual
theorem any_dp {K : PySem.W.Frag} {B H : Hp} (e : Ex B H) : ∀ (x : PV) (v : V), anyP B x v → Dp K H v (toD x)
  | .non, v, h => by unfold anyP at h; unfold toD; subst h; exact .non
  | .bl b, v, h => by unfold anyP at h; unfold toD; subst h; exact .bl b
  | .int i, v, h => by unfold anyP at h; unfold toD; subst h; exact .int i
  | .str z, v, h => by unfold anyP at h; unfold toD; subst h; exact .str z
  | .tup xs, v, h => by
    unfold anyP at h
    unfold toD
    obtain ⟨a, vs, rfl, h2, h3⟩ := h
    exact .tup (.inl (.inl (e a _ h2))) (anys_dp e xs vs h3)
  | .lst xs, v, h => by
    unfold anyP at h
    unfold toD
    obtain ⟨a, vs, rfl, h2, h3⟩ := h
    exact .lst (.inl (.inl (e a _ h2))) (anys_dp e xs vs h3)
theorem anys_dp {K : PySem.W.Frag} {B H : Hp} (e : Ex B H) : ∀ (xs : List PV) (vs : List V), anysP B xs vs → DpAll K H vs (toDs xs)
  | [], [], _ => by unfold toDs; exact .nil
  | x :: xs, v :: vs, h => by
    unfold anysP at h
    unfold toDs
    exact .cons (any_dp e x v h.1) (anys_dp e xs vs h.2)
  | [], _ :: _, h => by unfold anysP at h; exact h.elim
  | _ :: _, [], h => by unfold anysP at h; exact h.elim
end
def eqP (x y : PV) : Option Bool := if SeqAt.shaped (toD x) = true ∧ SeqAt.shaped (toD y) = true then some (PyData.eqv (toD x) (toD y)) else none
def neP (x y : PV) : Option Bool := (eqP x y).bind fun b => some (!b)
theorem oEqD {S : Stc} : ∀ X, S.In X → OpR X (compareOp .Eq) (rEqD S.K) := fun _ h => h.K ▸ op_eqD h.un
theorem oNeD {S : Stc} : ∀ X, S.In X → OpR X (compareOp .NotEq) (rNeD S.K) := fun _ h => h.K ▸ op_neD h.un
theorem ov_eqP {K : PySem.W.Frag} : OpV (rEqD K) anyS anyS eqP fun z => sh (boolS z) := fun W x y v u z ok hx hy e Q k => by
  unfold eqP at e
  split at e
  · rename_i hs
    cases e
    exact ⟨_, _, any_dp ok x v hx, any_dp ok y u hy, hs.1, hs.2, k.val ok rfl⟩
  · cases e
theorem ov_neP {K : PySem.W.Frag} : OpV (rNeD K) anyS anyS neP fun z => sh (boolS z) := fun W x y v u z ok hx hy e Q k => by
  unfold neP eqP at e
  split at e
  · rename_i hs
    cases e
    exact ⟨_, _, any_dp ok x v hx, any_dp ok y u hy, hs.1, hs.2, k.val ok rfl⟩
  · cases e
end CC
set_option maxHeartbeats 4000000
/-! What the top has left: further facts by tests of one's own. -/
namespace CC
open PySem PySem.Spec L2
open PyProof.Rows hiding St
abbrev Tst := PySem.W.Frag → Bool
def obsX (mo : List Tst) (fa : List He.Fa) (fn : List He.DefD) (K : PySem.W.Frag) : Bool × He.AlD := (mo.all fun f => f K, He.obsD fa fn K)
def SaysX (mo : List Tst) (fa : List He.Fa) (fn : List He.DefD) (K : PySem.W.Frag) : Prop := obsX mo fa fn K = (true, He.valD fn)
def obsXG (n : Nat) (mo : List Tst) (fa : List He.Fa) (fn : List He.DefD) (g : Addr → Option Obj) : Bool × He.AlD := obsX mo fa fn (He.frG g (He.asD g n))
def hookX (n : Nat) (mo : List Tst) (fa : List He.Fa) (fn : List He.DefD) : PySem.W.Hook where
  α := Bool × He.AlD
  obs := fun s => obsXG n mo fa fn s.heap.get?
  val := fun _ => (true, He.valD fn)
  says := fun _ h => ∃ K : PySem.W.Frag, K.In h ∧ SaysX mo fa fn K
  of := fun _ _ e => ⟨_, He.frG_in, e⟩
  keeps := fun _ _ _ ⟨K, hK, c⟩ k => ⟨K, PySem.W.Frag.In.keeps hK k, c⟩
theorem obsXG_eq {n : Nat} {mo : List Tst} {fa : List He.Fa} {fn : List He.DefD} {g : Addr → Option Obj} {s : Shared} (h : ∀ a, g a = s.heap.get? a) : obsXG n mo fa fn g = (hookX n mo fa fn).obs s := by
  have e : g = s.heap.get? := funext h
  rw [e] <;> rfl
theorem SaysX.d {mo : List Tst} {fa : List He.Fa} {fn : List He.DefD} {K : PySem.W.Frag} (c : SaysX mo fa fn K) : He.SaysD fa fn K := congrArg (fun z : Bool × He.AlD => z.2) c
theorem SaysX.t {mo : List Tst} {fa : List He.Fa} {fn : List He.DefD} {K : PySem.W.Frag} (c : SaysX mo fa fn K) (i : Nat) {f : Tst} (h : mo[i]? = some f := by rfl) : f K = true := by
  have c1 : (mo.all fun f => f K) = true := congrArg (fun z : Bool × He.AlD => z.1) c
  exact List.all_eq_true.mp c1 f (List.mem_of_getElem? h)
/-- isinstance of an exception of x by the class y, by a built-in type -/
def tKit (x y : Str) (b : Bool) : Tst := fun K => decide (PySem.W.kitOne K (.ref (He.ga K x)) (.ref (He.ga K y)) = some b)
def tKitT (x : Str) (T : String) (b : Bool) : Tst := fun K => decide (PySem.W.kitOne K (.ref (He.ga K x)) (.type T) = some b)
/-- an exception class whose instances may be asked -/
def tExcC (x : Str) : Tst := fun K => decide (PySem.W.findIn K (.ref (He.ga K x)) "__getattribute__" = some (some (.builtin "BaseException.__getattribute__"))) && (decide (PySem.W.findIn K (.ref (He.ga K x)) "__getattr__" = some none) && (decide (PySem.W.subIn K (.ref (He.ga K x)) (.type "BaseException") = some true) && (PySem.W.hasDictIn K (He.ga K x) &&
  (decide (PySem.W.findIn K (.ref (He.ga K x)) "__class__" = some (some (.builtin "object.__class__"))) && (decide (PySem.W.specialIn K (.builtin "object.__class__") "__get__" = some (some (.builtin "getset_descriptor.__get__"))) && (decide (PySem.W.takesIn K (.builtin "object.__class__") = some true) && decide (PySem.W.mroIn K (He.ga K x) (.type "object") = some true)))))))
theorem tExcC_ok {K : PySem.W.Frag} {x : Str} (h : tExcC x K = true) : ExcC K (He.ga K x) := by
  unfold tExcC at h
  simp only [Bool.and_eq_true, decide_eq_true_eq] at h
  obtain ⟨h1, h2, h3, h4, h5, h6, h7, h8⟩ := h
  exact ⟨h1, h2, h3, h4, h5, h6, h7, h8⟩
end CC
set_option maxHeartbeats 4000000
/-! try .. except C as e: the suite asks e. -/
namespace CC
open PySem PySem.Spec L2
open PyProof.Rows hiding St
variable {α β γ δ τ υ ω ρ ε κ : Type}
/-- isinstance(e, c), e with its dict -/
def rIsD (K : PySem.W.Frag) (D a : Addr) (d : Option Addr) : List V → Hp → VK → Prop := fun xs H Q => (∃ o, excD o H d) ∧ rIsE K D a xs H Q
theorem instD {X : Cx} {pins : List (Addr × Obj)} {σ : L2.St} {H : Hp} {s : Shared} {a D : Addr} {oe : Obj} {pn : List (Addr × Obj)} {d : Option Addr} (I : Inv (X.suite a ((a, oe) :: pn)) pins σ H s) (hz : Zc (.ref D) d oe) (hf : ∃ vs, oe.data = .fields vs) (he : ∃ o, excD o H d) : ∃ od, PySem.W.InstAt s.heap a oe D od := by
  obtain ⟨hget, _⟩ := I.pin (a, oe) (List.mem_append.mpr (.inl List.mem_cons_self))
  obtain ⟨vs, hv⟩ := hf
  obtain ⟨oc, od, oda, osl⟩ := oe
  obtain ⟨h1, h2⟩ := hz
  dsimp only at h1 h2 hv
  subst h1 h2 hv
  obtain ⟨o, he⟩ := he
  cases o with
  | none =>
    have he : od = none := he
    subst he
    exact ⟨none, hget, rfl, rfl, trivial⟩
  | some q =>
    obtain ⟨dd, w, e1, e2, _⟩ := he
    subst e1
    have hx : ObjOk X.prog X.w H s.heap dd (.xd [(q.1, w)]) := I.hok dd _ e2
    obtain ⟨mA, hns, _⟩ := hx
    obtain ⟨od, ho, _⟩ := lookIn_ns hns
    exact ⟨some od, hget, rfl, rfl, ho⟩
theorem call_isD {X : Cx} {a D : Addr} {oe : Obj} {pn : List (Addr × Obj)} {d : Option Addr} (C : ExcC X.K D) (hz : Zc (.ref D) d oe) (hf : ∃ vs, oe.data = .fields vs) : CallR (X.suite a ((a, oe) :: pn)) (.builtin "isinstance") (rIsD X.K D a d) := by
  intro pins s σ H xs us Q I r h
  obtain ⟨hd, c, cv, b, rfl, hcv, e, q⟩ := h
  cases r with
  | cons rx rr =>
    cases rr with
    | cons rt rr =>
      cases rr
      cases rx
      have ec := hcv _ rt
      subst ec
      obtain ⟨od, J⟩ := instD I hz hf hd
      obtain ⟨cd, hcl, _⟩ := PySem.W.any_some C.hd
      exact PySem.W.kia_one (PySem.W.kitx_exc (by rw [hcl]; rfl) C.hg C.hk C.hs C.ha C.hn C.ht C.hm) I.kIn J e (fun z => nomatch z) fun tk => ⟨.bl b, H, I.kept (t' := tk) fun _ _ z => z, rfl, q⟩
section
variable {S : Stc} {Γ Δ : Ctx} {pos : Pos} {st : Stmt} {rest A B : List Stmt}
/-- isinstance(e, C) -/
theorem jn_isE {x c : Str} {p p1 pc : Pos} {a C D : Addr} {b : Bool} {d : Option Addr} {o : Option (Str × SP)} (i : Nat) (hex : S.ex = some (a, C, d)) (hE : ExcC S.K C) (hk : PySem.W.kitOne S.K (.ref C) (.ref D) = some b) (hm : S.mg "isinstance" = none) (hmc : S.mg c = some (.ref D)) (hi : Γ[i]? = some (some (sh (excS a d o))) := by rfl) (hN : S.N[i]? = some x := by rfl) (hv : Vis S.sc x := by first | exact Or.inl rfl | exact Or.inr (Or.inl rfl) | exact Or.inr (Or.inr rfl)) (hg : GlS S "isinstance" := by rfl) (hgc : GlS S c := by rfl)
    (hd : (x == ("__debug__" : Str)) = false := by decide) (hcd : (x == ("__classdict__" : Str)) = false := by decide) (hdb : (c == ("__debug__" : Str)) = false := by decide)
    (hs : ∀ env, starEach [.Name x p1, .Name c pc] env = [(false, eval (.Name x p1) env), (false, eval (.Name c pc) env)] := by intro _; rfl) (hs2 : ∀ env, starEach [Expr.Name c pc] env = [(false, eval (.Name c pc) env)] := by intro _; rfl) :
    JN S (.Call (.Name "isinstance" p) [.Name x p1, .Name c pc] [] pos) Γ (some b) fun z => sh (boolS z) := fun σ W F sta z hz Q kq => by
  cases hz
  obtain ⟨v, h1, h2⟩ := sta.get hi
  obtain ⟨rfl, h2⟩ := h2
  refine ⟨tCB (rIsD S.K C a d) (tCons (tVar i) (tCons (tC (.ref D)) tNil)), fun X hX => ?_, ?_⟩
  · obtain ⟨X', oe, pn, rfl, hz, hf⟩ := hX.ex a C d hex
    have hc : CallR (X'.suite a ((a, oe) :: pn)) (.builtin "isinstance") (rIsD S.K C a d) := by
      have e : (X'.suite a ((a, oe) :: pn)).K = S.K := hX.K
      have := call_isD (X := X') (a := a) (pn := pn) (by rw [show X'.K = S.K from e]; exact hE) hz hf
      rw [show X'.K = S.K from e] at this
      exact this
    exact pe_callB hc (hg.gl hX) (mgS hm hX) (by decide +kernel) (pa_cons (pe_var (by rw [hX.N]; exact hN) (visS hv hX) hd hcd) (pa_cons (pe_glob (v := .ref D) (hgc.gl hX) (mgS hmc hX) rfl hdb) pa_nil (hs2 _)) ((hs _).trans (by rw [hs2]))) (by decide) (by decide) ((hs _).trans (by rw [hs2])) (by rw [hs2]; rfl)
  · exact ⟨.ref a, h1, ⟨o, excD_mono h2 sta.ok⟩, .ref D, .ref D, b, rfl, fun u r => r, hk, kq.val sta.ok rfl⟩
/-- isinstance(e, T), T built in -/
theorem jn_isET {x c : Str} {T : String} {p p1 pc : Pos} {a C : Addr} {b : Bool} {d : Option Addr} {o : Option (Str × SP)} (i : Nat) (hex : S.ex = some (a, C, d)) (hE : ExcC S.K C) (hk : PySem.W.kitOne S.K (.ref C) (.type T) = some b) (hm : S.mg "isinstance" = none) (hmc : S.mg c = none) (hi : Γ[i]? = some (some (sh (excS a d o))) := by rfl) (hN : S.N[i]? = some x := by rfl) (hv : Vis S.sc x := by first | exact Or.inl rfl | exact Or.inr (Or.inl rfl) | exact Or.inr (Or.inr rfl)) (hg : GlS S "isinstance" := by rfl) (hgc : GlS S c := by rfl)
    (hvc : bootBuiltins c = some (.type T) := by decide +kernel) (hn : c ≠ "__name__" := by decide)
    (hd : (x == ("__debug__" : Str)) = false := by decide) (hcd : (x == ("__classdict__" : Str)) = false := by decide) (hdb : (c == ("__debug__" : Str)) = false := by decide)
    (hs : ∀ env, starEach [.Name x p1, .Name c pc] env = [(false, eval (.Name x p1) env), (false, eval (.Name c pc) env)] := by intro _; rfl) (hs2 : ∀ env, starEach [Expr.Name c pc] env = [(false, eval (.Name c pc) env)] := by intro _; rfl) :
    JN S (.Call (.Name "isinstance" p) [.Name x p1, .Name c pc] [] pos) Γ (some b) fun z => sh (boolS z) := fun σ W F sta z hz Q kq => by
  cases hz
  obtain ⟨v, h1, h2⟩ := sta.get hi
  obtain ⟨rfl, h2⟩ := h2
  refine ⟨tCB (rIsD S.K C a d) (tCons (tVar i) (tCons (tC (.ty T)) tNil)), fun X hX => ?_, ?_⟩
  · obtain ⟨X', oe, pn, rfl, hz, hf⟩ := hX.ex a C d hex
    have hc : CallR (X'.suite a ((a, oe) :: pn)) (.builtin "isinstance") (rIsD S.K C a d) := by
      have e : (X'.suite a ((a, oe) :: pn)).K = S.K := hX.K
      have := call_isD (X := X') (a := a) (pn := pn) (by rw [show X'.K = S.K from e]; exact hE) hz hf
      rw [show X'.K = S.K from e] at this
      exact this
    exact pe_callB hc (hg.gl hX) (mgS hm hX) (by decide +kernel) (pa_cons (pe_var (by rw [hX.N]; exact hN) (visS hv hX) hd hcd) (pa_cons (pe_bltn (v := .ty T) (hgc.gl hX) (mgS hmc hX) hvc rfl hn hdb) pa_nil (hs2 _)) ((hs _).trans (by rw [hs2]))) (by decide) (by decide) ((hs _).trans (by rw [hs2])) (by rw [hs2]; rfl)
  · exact ⟨.ref a, h1, ⟨o, excD_mono h2 sta.ok⟩, .ty T, .type T, b, rfl, fun u r => r, hk, kq.val sta.ok rfl⟩
end
section
variable {S : Stc} {Γ Δ : Ctx} {pos : Pos} {st : Stmt} {rest A B : List Stmt}
/-- the context of a suite that has its exception by name -/
abbrev Stc.suiE (S : Stc) (a C : Addr) (d : Option Addr) : Stc := { S with W := fun _ _ _ _ => False, calm := false, top := false, ex := some (a, C, d) }
theorem Stc.In.suiE {X : Cx} (h : S.In X) {a C : Addr} {d : Option Addr} {oe : Obj} {pn : List (Addr × Obj)} (hz : Zc (.ref C) d oe) (hf : ∃ vs, oe.data = .fields vs) : (S.suiE a C d).In (X.suite a ((a, oe) :: pn)) :=
  ⟨h.prog, h.w, h.K, h.mg, h.base, h.N, h.sc, h.fn, rfl, nofun, h.un, PassesOwn.never, takes_none, nofun, fun a' C' d' z => by
    have z' : some (a, C, d) = some (a', C', d') := z
    cases z'
    exact ⟨X, oe, pn, rfl, hz, hf⟩⟩
/-- try .. except C as n: the suite returns -/
theorem js_tryAs {x n : Str} {c : Value} {np pos' : Pos} {b₀ : Stmt} {mb : Option (Res ε ω)} {ms : ε → Option ω} {Xp : ε → XP} {D : ω → Kd} (Γx : Ctx) (i : Nat) (Cu : ε → Addr) (Au : ε → Option (Str × SP)) (nd : S.N.Nodup) (hb : ∀ wx : WX, JB { S with W := wx } B Γ mb (TD D Γx Xp)) (hX : ∀ u, Xp u = excX (Cu u) (Au u)) (hs : ∀ u a d, JB (S.suiE a (Cu u) d) (b₀ :: A) (Γx.set i (some (sh (excS a d (Au u))))) (ms u) D) (hm : S.mg x = some c) (hx : ∀ u, PySem.W.exmOne S.K (.ref (Cu u)) c = some true)
    (hrt : ∀ o, ∃ Γ' R, D o = .rt Γ' R) (hi : (Γx[i]?).isSome = true := by rfl) (hp : (S.prot.contains i) = false := by rfl) (hN : S.N[i]? = some n := by rfl) (hln : S.sc.names.lookup n = some .local := by rfl) (hg : GlS S x := by rfl) (hdb : (x == ("__debug__" : Str)) = false := by decide) (htop : S.top = true := by rfl) (hex : S.ex = none := by rfl) : JS S (.Try B [.ExceptHandler (some (.Name x np)) (some n) (b₀ :: A) pos'] [] [] pos) Γ (tryM mb ms) D := fun σ W F sta z hz E k => by
  obtain ⟨r, h1, h2⟩ := run1 hz
  refine ⟨fun D σ H => tbOf { S with W := wAs S.K c i (fun a cls d D σ H => ∃ C, cls = .ref C ∧ tbOf (S.suiE a C d) (b₀ :: A) D σ H) S.W D } B D σ H, fun X hX' => ?_, ?_⟩
  · obtain ⟨t1, t2⟩ := hX'.top htop
    have := ps_try_as (pos := pos) (pos' := pos') (np := np) (i := i) (n := n) t1 t2 (by rw [hX'.N]; exact nd) (by rw [hX'.N]; exact hN) (show X.env.scope.names.lookup n = some .local by rw [hX'.sc]; exact hln) (c := c) (x := x) (b₀ := b₀) (suite := A) (body := B) (ts := fun a cls d D σ H => ∃ C, cls = .ref C ∧ tbOf (S.suiE a C d) (b₀ :: A) D σ H) (tb := fun W => tbOf { S with W := W } B) ⟨hg.gl hX', hdb, .inl (mgS hm hX')⟩ hX'.tk (fun W pn xe tk pass => pbO (hX'.tr hex tk pass)) (fun a oe cls d pn zc hf => ⟨fun pins s σ H D I ⟨C, e1, q⟩ => by
        subst e1
        exact (pbO (hX'.suiE zc hf)).run pins s σ H D I q⟩)
    rw [hX'.K] at this
    exact this
  · refine hb _ σ W F sta r h1 E ?_
    cases r with
    | ok o =>
      cases h2
      show Post _ S.prot σ W F E (D z)
      obtain ⟨Γ', R, hq⟩ := hrt z
      rw [hq] at k ⊢
      exact k
    | er u =>
      intro c' d σ' W' F' kp stp sa hpx
      rw [hX] at hpx
      obtain ⟨rfl, hpd⟩ := hpx
      refine ⟨true, hx u, fun _ a ha => ⟨Cu u, rfl, ?_⟩, fun q => nomatch q⟩
      have hlt : i < Γx.length := by
        cases h : Γx[i]? with
        | none => rw [h] at hi; cases hi
        | some o => exact (List.getElem?_eq_some_iff.mp h).1
      obtain ⟨F3, s4, sub⟩ := sa.put (o := sh (excS a d (Au u))) (v := .ref a) (F1 := []) hlt ⟨rfl, rfl, hpd⟩ (by rw [List.append_nil]; exact sa.fp)
      refine hs u a d _ W' F3 s4 z h2 _ ?_
      have k' := k.before (σ1 := σ'.set i (some (.ref a))) (kp.trans (Keep.set (ncon hp))) (stp.perm fun b hb => by simpa using sub b hb)
      obtain ⟨Γ', R, hq⟩ := hrt z
      rw [hq] at k' ⊢
      exact k'
end
/-! ### f(k = v, ..), f may raise -/
section
variable {X : Cx} {CX : CXT} {k n : Nat} {f : Addr} {fd : FuncData} {ps ks : List Str} {sp : Sp} {E : L2.St → XK} {x : Str} {p pos : Pos} {kws : List Keyword} {t tk : TA} {g : List Value → List Value → List Value} {gV : List V → List V → List V}
theorem run_fnNS {pins : List (Addr × Obj)} {σ : L2.St} {H : Hp} {s : Shared} {Q : VK} {us ws : List Value} {vs zs : List V} (F : FnOk X.prog X.w X.K X.mg X.base CX k f fd ps sp) (hr : Room k X.A) (hb : KBn X.K fd ps n ks g gV) (hx : PassesAt CX X σ (E σ))
    (I : Inv X pins σ H s) (r : Vals vs us) (rz : Vals zs ws) (l1 : vs.length = n) (l2 : zs.length = ks.length) (h : sp (gV vs zs) H Q (E σ)) : wpAny (model X.prog X.w) X.A (call (.ref f) us (ks.zip ws)) (EP X pins σ Q) X.xe s := by
  have r2 := hb.rel r rz
  refine wpAny_call (codeAny_mono (F.run X.A X.stack s H ⟨us, ks.zip ws⟩ (g us ws) (gV vs zs) Q (E σ) hr I.env0 (hb.to s us ws I.kIn (r.length.symm.trans l1) (rz.length.symm.trans l2)) r2 h) fun r s' hq => ?_)
  cases r with
  | error e => exact hx pins H s e s' I hq
  | ok fl =>
    cases fl with
    | ret u => exact I.after hq
    | next => exact False.elim hq
    | brk => exact False.elim hq
    | cont => exact False.elim hq
def tCall0S (m : Nat) (sp : Sp) (gV : List V → List V → List V) (E : L2.St → XK) (tk : TA) : TE := fun σ H Q => tk σ H fun zs H2 => zs.length = m ∧ sp (gV [] zs) H2 Q (E σ)
theorem pe_call0S (F : FnOk X.prog X.w X.K X.mg X.base CX k f fd ps sp) (hr : Room k X.A) (hg : Gl X x) (hm : X.mg x = some (.ref f)) (hk : PySem.W.keepIn X.K (.ref f) = true) (hb : KBn X.K fd ps 0 ks g gV) (hx : ∀ σ, PassesAt CX X σ (E σ)) (hkw : PK X kws tk)
    (hall : (backToKw pos (keywordEach kws X.env)).all (·.1.isSome) = true) (hks : (backToKw pos (keywordEach kws X.env)).filterMap (·.1) = ks) (hdb : (x == ("__debug__" : Str)) = false)
    (hpl : ((backTo pos (starEach [] X.env)).any (·.1) || (backToKw pos (keywordEach kws X.env)).any (·.1.isNone)) = false) : PE X (.Call (.Name x p) [] kws pos) (tCall0S ks.length sp gV E tk) := by
  refine ⟨fun pins s σ H Q I h => ?_⟩
  refine wpAny_Call_Name_kw (ld_glob I hg hm ?_ hdb)
  refine PySem.W.callWith_KW0 (h₀ := X.base) I.ok.mod.kin hk hall ?_ hpl
  refine thn (hkw.run pos pins s σ H _ I h) fun ws s2 ⟨zs, H2, I2, rz, l2, q2⟩ => ⟨I2.kIn, ?_⟩
  rw [hks]
  exact run_fnNS (us := []) (vs := []) F hr hb (hx σ) I2 .nil rz rfl l2 q2
end
section
variable {S : Stc} {Γ Δ : Ctx} {pos : Pos}
theorem jx_call0N {x : Str} {p : Pos} {f : Addr} {fd : FuncData} {ps ks : List Str} {k : Nat} {G : γ → List SP} {Gk : β → List SP} {fM : γ → Option (Res ε ρ)} {R : ρ → OP} {Xp : ε → XP} {mk : Option β} {kws : List Keyword} {gv : List Value → List Value → List Value} {gV : List V → List V → List V} (g : β → γ) (Fn : FnOk S.P S.w S.K S.mg S.base (L2.CX S.P S.w) k f fd ps (spX G fM R Xp)) (hm : S.mg x = some (.ref f)) (kp : PySem.W.keepIn S.K (.ref f) = true) (hb : KBn S.K fd ps 0 ks gv gV)
    (hG : ∀ z B zs, Hets B zs (Gk z) → Hets B (gV [] zs) (G (g z))) (hlk : ∀ z, (Gk z).length = ks.length) (hk : k ≤ S.k) (hkw : JK S kws Γ mk Gk) (hg : GlS S x := by rfl) (hdb : (x == ("__debug__" : Str)) = false := by decide)
    (hall : ∀ env, (backToKw pos (keywordEach kws env)).all (·.1.isSome) = true := by intro _; rfl) (hks : ∀ env, (backToKw pos (keywordEach kws env)).filterMap (·.1) = ks := by intro _; rfl)
    (hpl : ∀ env, ((backTo pos (starEach [] env)).any (·.1) || (backToKw pos (keywordEach kws env)).any (·.1.isNone)) = false := by intro _; rfl) (hcm : S.calm = true := by rfl) : JNX S (.Call (.Name x p) [] kws pos) Γ (mk.bind fun z => fM (g z)) R Xp := fun σ W F st z hz Q kk => by
  obtain ⟨w, h2, h3⟩ := run1 hz
  refine ⟨tCall0S ks.length (spX G fM R Xp) gV (WE S.W) (tkOf S kws), fun X hX => pe_call0S (fnokS Fn hX) ((hX.room hcm).mono hk) (hg.gl hX) (mgS hm hX) (by rw [hX.K]; exact kp) (kbnS hX hb) (fun σ => by rw [← hX.prog, ← hX.w]; exact passAt hX.tk σ) (pkO hX) (hall _) (hks _) hdb (hpl _), ?_⟩
  refine hkw σ W F st w h2 _ fun zs W2 e2 hz => ⟨hz.len.trans (hlk w), ?_⟩
  refine ⟨g w, W2, z, rfl, e2.ok, hG w _ zs hz, h3, ?_⟩
  cases z with
  | ok v => exact Got.ext kk e2
  | er u => exact fun c d W3 e3 hp => kk c d W3 (e2.trans e3) hp
end
end CC
set_option maxHeartbeats 4000000
/-! Exceptions, as printed: outcomes told by TD; isinstance of a handled exception by several classes. -/
namespace CC
open PySem PySem.Spec L2
open PyProof.Rows hiding St
variable {α β γ δ τ υ ω ρ ε κ : Type}
theorem rx_td {Δ Δx : Ctx} {R : α → OP} {Xp : ε → XP} : RX Δ Δx R Xp = TD (fun a => .rt Δ (R a)) Δx Xp := funext fun r => by cases r <;> rfl
theorem td_nonx {D : ω → Kd} {Γx : Ctx} {Xp : ε → XP} (h : ∀ x, NoNx (D x)) : ∀ r, NoNx (TD D Γx Xp r)
  | .ok x => h x
  | .er _ => trivial
theorem td_ends {D : ω → Kd} {Γx : Ctx} {Xp : ε → XP} (h : ∀ x, NoNx (D x) ∧ (∀ Δ, D x ≠ .bk Δ) ∧ ∀ Δ, D x ≠ .ct Δ) : ∀ r, NoNx (TD D Γx Xp r) ∧ (∀ Δ, TD D Γx Xp r ≠ .bk Δ) ∧ ∀ Δ, TD D Γx Xp r ≠ .ct Δ
  | .ok x => h x
  | .er _ => ⟨trivial, nofun, nofun⟩
section
variable {S : Stc} {Γ Δ Δx : Ctx} {a b c e : Expr} {es : List Expr} {pos : Pos} {st : Stmt} {rest A B : List Stmt}
/-- an if whose way is not claimed -/
theorem jb_ifN {mc : Option Bool} {mr : Option ω} {D : ω → Kd} (hc : JT S c Γ mc) (hr : JB S rest Γ mr D) : JB S (.If c A [] pos :: rest) Γ (mc.bind fun b => bif b then none else mr) D := fun σ W F sta z hz E k => by
  obtain ⟨x, h1, h2⟩ := run1 hz
  cases x with
  | true => cases h2
  | false =>
    refine ⟨tSeq (tIfS (ttOf S c) tNever tNext) (tbOf S rest), fun X hX => pss_cons (ps_if (ptO hX) pss_never pss_nil) (pbO hX), ?_⟩
    refine hc σ W F sta false h1 _ fun W' ext => ?_
    have stp : Stp W F W' F := by have := ext.stp (F := F) (Fv := []) (by simp); rwa [List.append_nil] at this
    exact iteF (hr σ W' F (sta.ext ext) z h2 E (k.before Keep.refl stp))
/-- nothing is claimed -/
theorem jb_none {sts : List Stmt} {D : ω → Kd} : JB S sts Γ (none : Option ω) D := fun _ _ _ _ _ h => nomatch h
theorem jb_retT {m : Option (Res ε α)} {R : α → OP} {Xp : ε → XP} (w : Weak Γ Δ) (wx : Weak Γ Δx) (h : JNX S e Γ m R Xp) : JB S (.Return (some e) pos :: rest) Γ m (TD (fun y => .rt Δ (R y)) Δx Xp) := rx_td ▸ jb_retX w wx h
theorem jx_any {E : α → SP} {f : α → PV} {m : Option (Res ε α)} {Xp : ε → XP} (ao : AnyOf E f) (h : JNX S e Γ m (fun x => sh (E x)) Xp) : JNX S e Γ (m.bind fun r => some (mapX f r)) (fun y => sh (anyS y)) Xp := fun σ W F st z hz Q k => by
  obtain ⟨r, h1, h2⟩ := run1 hz
  cases h2
  refine h σ W F st r h1 Q ?_
  cases r with
  | ok x => exact fun v W' Fv e fr fp rr => k v W' Fv e fr fp ⟨rr.1, ao.go W'.B x v rr.2⟩
  | er u => exact k
/-- a pure outcome among those that may raise -/
theorem jb_okT {sts : List Stmt} {m : Option ω} {D : ω → Kd} {Γx : Ctx} {Xp : ε → XP} (h : JB S sts Γ m D) : JB S sts Γ (m.bind fun x => some (Res.ok x)) (TD D Γx Xp) := JB.map h fun _ => rfl
end
theorem fnd_pureT {P : Program} {w : World} {K : PySem.W.Frag} {mg : Str → Option Value} {base : Heap} {x qual : Str} {st : Stmt} {f : Addr} {fd : FuncData} {dvs : List V} {kwd : List (Str × V)} {N ps : List Str} {k : Nat} {G : α → List SP} {fM : α → Option (Res ε ρ)} {R : ρ → OP} {Xp : ε → XP} {Δ : Ctx} (F : FunD K x qual (defArgs st) (defBody st) (defScope st) dvs kwd f fd) (Sc : FnScope N ps (defScope st)) (hG : ∀ a, (G a).length = ps.length) (hn : ps.length ≤ N.length)
    (body : ∀ a (wx : WX), JB { stcOf P w K mg base N (defScope st) k [] with W := wx } (defBody st) (shC (G a) ++ nonC (N.length - ps.length)) (fM a) (TD (fun y => .rt Δ (R y)) Δ Xp)) : FnOk P w K mg base (L2.CX P w) (k + 1) f fd ps (spX G fM R Xp) :=
  fnd_pureX (Δ := Δ) F Sc hG hn fun a wx => rx_td ▸ body a wx
/-! ### isinstance(e, (C, D)) in a suite -/
def tConsts : List V → TA
  | [] => tNil
  | c :: cs => tCons (tC c) (tConsts cs)
def JCl (S : Stc) (es : List Expr) (cs : List V) (us : List Value) : Prop := (∀ X, S.In X → PA X es (tConsts cs)) ∧ Paired ClsV cs us
theorem jcl_nil {S : Stc} : JCl S [] [] [] := ⟨fun _ _ => pa_nil, .nil⟩
theorem jcl_cons {S : Stc} {c : Str} {pc : Pos} {es : List Expr} {cs : List V} {us : List Value} {D : Addr} (hm : S.mg c = some (.ref D)) (h : JCl S es cs us) (hg : GlS S c := by rfl) (hdb : (c == ("__debug__" : Str)) = false := by decide) (hs : ∀ env, starEach (.Name c pc :: es) env = (false, eval (.Name c pc) env) :: starEach es env := by intro _; rfl) : JCl S (.Name c pc :: es) (.ref D :: cs) (.ref D :: us) :=
  ⟨fun X hX => pa_cons (pe_glob (v := .ref D) (hg.gl hX) (mgS hm hX) rfl hdb) (h.1 X hX) (hs _), .cons (.own D) h.2⟩
/-- isinstance(e, (c, d)), e the exception that the suite holds -/
def rIsET (K : PySem.W.Frag) (D a : Addr) (d : Option Addr) : List V → Hp → VK → Prop := fun xs H Q => (∃ o, excD o H d) ∧ ∃ (tp : Addr) (cs : List V) (us : List Value) (b : Bool), xs = [.ref a, .ref tp] ∧ H tp = some (.tup cs) ∧ Paired ClsV cs us ∧ PySem.W.kitAny K (.ref D) us = some b ∧ Q (.bl b) H
theorem call_isET {X : Cx} {a D : Addr} {oe : Obj} {pn : List (Addr × Obj)} {d : Option Addr} (C : ExcC X.K D) (hz : Zc (.ref D) d oe) (hf : ∃ vs, oe.data = .fields vs) : CallR (X.suite a ((a, oe) :: pn)) (.builtin "isinstance") (rIsET X.K D a d) := by
  intro pins s σ H xs us Q I r h
  obtain ⟨hd, tp, cs, ws, b, rfl, hT, k, e, q⟩ := h
  obtain ⟨u1, u2, rfl, r1, r2⟩ := vals2 r
  cases (show u1 = Value.ref a from r1)
  cases (show u2 = Value.ref tp from r2)
  obtain ⟨od', J⟩ := instD I hz hf hd
  obtain ⟨_, its, rv, o, h1, h2, n, h3⟩ := (show ObjOk X.prog X.w H s.heap tp (.tup cs) from I.hok tp _ hT)
  have e3 := ClsV.all k rv
  subst e3
  obtain ⟨oc, od, dt, sl⟩ := o
  simp only at h2 h3
  subst h2 h3
  obtain ⟨cd, hcl, _⟩ := PySem.W.any_some C.hd
  exact PySem.W.kia_tup (PySem.W.kitx_exc (by rw [hcl]; rfl) C.hg C.hk C.hs C.ha C.hn C.ht C.hm) I.kIn J h1 e (fun z => nomatch z) fun tk => ⟨.bl b, H, I.kept (t' := tk) fun _ _ z => z, rfl, q⟩
section
variable {S : Stc} {Γ Δ : Ctx} {pos : Pos}
theorem jn_isETup {x : Str} {es : List Expr} {kt : Nat} {p p1 pt : Pos} {a C : Addr} {b : Bool} {cs : List V} {us : List Value} {d : Option Addr} {o : Option (Str × SP)} (i : Nat) (hex : S.ex = some (a, C, d)) (hE : ExcC S.K C) (hk : PySem.W.kitAny S.K (.ref C) us = some b) (hcl : JCl S es cs us) (hm : S.mg "isinstance" = none) (hi : Γ[i]? = some (some (sh (excS a d o))) := by rfl) (hl : cs.length ≤ 1000 := by exact Nat.le_of_ble_eq_true rfl) (hN : S.N[i]? = some x := by rfl) (hv : Vis S.sc x := by first | exact Or.inl rfl | exact Or.inr (Or.inl rfl) | exact Or.inr (Or.inr rfl)) (hg : GlS S "isinstance" := by rfl)
    (hd : (x == ("__debug__" : Str)) = false := by decide) (hcd : (x == ("__classdict__" : Str)) = false := by decide)
    (hs : ∀ env, starEach [.Name x p1, .Tuple es kt pt] env = [(false, eval (.Name x p1) env), (false, eval (.Tuple es kt pt) env)] := by intro _; rfl) (hs2 : ∀ env, starEach [Expr.Tuple es kt pt] env = [(false, eval (.Tuple es kt pt) env)] := by intro _; rfl) :
    JN S (.Call (.Name "isinstance" p) [.Name x p1, .Tuple es kt pt] [] pos) Γ (some b) fun z => sh (boolS z) := fun σ W F sta z hz Q kq => by
  cases hz
  obtain ⟨v, h1, h2⟩ := sta.get hi
  obtain ⟨rfl, h2⟩ := h2
  refine ⟨tCB (rIsET S.K C a d) (tCons (tVar i) (tCons (tTup (tConsts cs)) tNil)), fun X hX => ?_, ?_⟩
  · obtain ⟨X', oe, pn, rfl, hz, hf⟩ := hX.ex a C d hex
    have hc : CallR (X'.suite a ((a, oe) :: pn)) (.builtin "isinstance") (rIsET S.K C a d) := by
      have e : (X'.suite a ((a, oe) :: pn)).K = S.K := hX.K
      have := call_isET (X := X') (a := a) (pn := pn) (by rw [show X'.K = S.K from e]; exact hE) hz hf
      rw [show X'.K = S.K from e] at this
      exact this
    exact pe_callB hc (hg.gl hX) (mgS hm hX) (by decide +kernel) (pa_cons (pe_var (by rw [hX.N]; exact hN) (visS hv hX) hd hcd) (pa_cons (pe_tup (hcl.1 _ hX)) pa_nil (hs2 _)) ((hs _).trans (by rw [hs2]))) (by decide) (by decide) ((hs _).trans (by rw [hs2])) (by rw [hs2]; rfl)
  · refine ⟨.ref a, h1, ?_⟩
    have go : ∀ (cs : List V) (H : Hp) (Q : List V → Hp → Prop), Q cs H → tConsts cs σ H Q := by
      intro cs
      induction cs with
      | nil => intro H Q q; exact q
      | cons c cs ih => intro H Q q; exact ih H _ q
    refine go cs W.H _ ⟨Nat.le_trans hl (by decide), fun q hq => ?_⟩
    have e2 := Ext.newB sta.ok (o := .tup cs) hq
    refine ⟨⟨o, excD_mono h2 (sta.ok.trans e2.h)⟩, q, cs, us, b, rfl, upd_same, hcl.2, hk, ?_⟩
    exact (kq.ext (W1 := ⟨upd W.H q (.tup cs), upd W.B q (.tup cs)⟩) e2).val e2.ok rfl
end
end CC
set_option maxHeartbeats 4000000
/-! enumerate over a tuple. -/
namespace CC
open PySem PySem.Spec L2
open PyProof.Rows hiding St
open PySem (Draws Begins begins_tuple)
open AutoSeq1 (wpAny_loadPart')
theorem meets_enumT {v : Value} {o : Obj} {H : Heap → Prop} (B : Begins v o H) :
    Meets (Builtin.«enumerate.__new__» ⟨[.type "enumerate", v], []⟩) (fun _ R s => H s.heap ∧
      R (.ok (.ret (.ref (s.heap.push o).objs.size))) { s with heap := (s.heap.push o).push { cls := .type "enumerate", data := .fields #[.none, .bool false, .ref s.heap.objs.size, rawInt 0, .none, .none] } }) :=
  .of_wp fun prog w A R s h => by
    obtain ⟨hp, g, d, tk, os⟩ := s; obtain ⟨h1, h⟩ := h
    have hsub := sub_enumerate
    have q1 : ∀ {A' : Around} {E : Value → Shared → Prop} {Q : Value → Shared → Prop}, Q (.ref hp.objs.size) ⟨hp.push o, g, d, tk, os⟩ → wpAny (model prog w) A' (pyIter v) Q E ⟨hp, g, d, tk, os⟩ :=
      fun q => B.iter prog w _ _ ⟨hp, g, d, tk, os⟩ _ h1 q
    wp_walk using q1
    refine wpAny_stack_any fun st => wpAny_pure ?_
    split
    · rename_i c _ _ _ _ _
      cases (c == Value.type "enumerate")
      · wp_walk using q1
        exact ⟨_, rfl, h⟩
      · wp_walk using q1
        exact ⟨_, rfl, h⟩
    · wp_walk using q1
      exact ⟨_, rfl, h⟩
theorem call_enumT {prog : Program} {w : World} {A : Around} {E : Value → Shared → Prop} {s : Shared} {v : Value} {o : Obj} {H : Heap → Prop} {Q : Value → Shared → Prop} (B : Begins v o H) (h1 : H s.heap)
    (h : ∀ h', IsEnum h' (s.heap.objs.size + 1) s.heap.objs.size 0 .none → h'.get? s.heap.objs.size = some o → h'.objs.size = s.heap.objs.size + 2 →
      (∀ b o, s.heap.get? b = some o → h'.get? b = some o) → Q (.ref (s.heap.objs.size + 1)) { s with heap := h' }) :
    wpAny (model prog w) A (call (.type "enumerate") [v]) Q E s := by
  refine callType_new F.called_enumerate (by decide) (F.typeCall_enumerate_1 _) (F.newCall_enumerate_1 _) (fun obj => F.args_object_init_2 obj _) F.entry_enumerate_new
    (meets_enumT B) ⟨h1, ?_⟩
  have hz : (s.heap.push o).objs.size = s.heap.objs.size + 1 := Heap.size_push ..
  show _ ∧ _
  rw [hz]
  have he : IsEnum ((s.heap.push o).push { cls := .type "enumerate", data := .fields #[.none, .bool false, .ref s.heap.objs.size, rawInt 0, .none, .none] }) (s.heap.objs.size + 1) s.heap.objs.size 0 .none := by
    have := Heap.get?_push_size (s.heap.push o) (o := { cls := .type "enumerate", data := .fields #[.none, .bool false, .ref s.heap.objs.size, rawInt 0, .none, .none] }) rfl
    rw [hz] at this; exact this
  refine ⟨⟨_, he, rfl⟩, h _ he (Heap.get?_push_of_some _ (Heap.get?_push_size _ B.free)) (by rw [Heap.size_push, hz]) fun b o x => Heap.get?_push_of_some _ (Heap.get?_push_of_some _ x)⟩
theorem wpAny_pyNext_enum_endT {prog : Program} {w : World} {A : Around} {E : Value → Shared → Prop} {s : Shared} {e it t : Addr} {i : Nat} {items : Array Value} {old : Value} {Q : Option Value → Shared → Prop} (hh : A.handled = none)
    (he : IsEnum s.heap e it i old) (hit : s.heap.IsTupleIter it t i) (ht : s.heap.IsTuple t items) (hx : items[i]? = none)
    (hQ : ∀ h', Heap.ExtBut it s.heap h' → Q none { s with heap := h' }) : wpAny (model prog w) A (pyNext (.ref e)) Q E s := by
  have hT : s.TypeIs (.ref e) "enumerate" := ⟨_, he, rfl⟩
  unfold pyNext
  refine wpAny_bind (wpAny_attempt (wpAny_callSpecial?_slot (name := Str.ofString "__next__") hT F.slot_enumerate_next
    (wpAny_call_entry F.slot_enumerate_next hT F.entry_enumerate_next ?_ (F.args_enumerate_next_1 _))))
  show wpAny _ _ (field (.ref e) 2 >>= _) _ _ _
  refine wpAny_bind (wpAny_field he rfl (x := .ref it) rfl ?_)
  refine wpAny_bind (wpAny_nextOf_tuple_end hh hit ht hx fun h' x he' hx' => ?_)
  obtain ⟨o, ho, hc⟩ := hx'
  refine wpAny_bind (wpAny_isInstance (T := "StopIteration") (b := true) ⟨o, ho, hc⟩ isSubtype_stop ?_)
  exact wpAny_pure (hQ _ he')
/-- the tuple at a, each item in a new pair -/
def IteT (K : PySem.W.Frag) (a : Addr) : It :=
  ⟨fun i H => ∃ (xs : List V) (x : V), SqT K H a xs ∧ xs[i]? = some x, fun i H v H' => ∃ T x, v = .ref T ∧ H T = none ∧ H' = upd H T (.tup [.int (i : Nat), x]) ∧ ∀ xs, SqT K H a xs → xs[i]? = some x, fun i H => ∃ xs : List V, SqT K H a xs ∧ xs.length ≤ i⟩
theorem turn_enumT {P : Program} {w : World} {K : PySem.W.Frag} {elts : List Expr} {kk : Nat} {tpos : Pos} (a e it : Addr) (its : Array Value) :
    Turn P w K (.Tuple elts kk tpos) (IteT K a) [e, it] e (fun i h => (∃ old, IsEnum h e it ((i : Nat) : Int) old) ∧ h.IsTupleIter it a i ∧ e ≠ it) where
  mem := by simp
  obj := fun i h st b hb => by
    obtain ⟨⟨old, he⟩, ⟨o, ho, hc, hd⟩, _⟩ := st
    have e' : b = e ∨ b = it := by simpa using hb
    rcases e' with z | z
    · rw [z]; exact ⟨_, he, fun v q => nomatch q⟩
    · rw [z]; exact ⟨o, ho, fun v q => by rw [hd] at q; cases q⟩
  keep := fun i h h' st k => by
    obtain ⟨⟨old, he⟩, ⟨o, ho, r⟩, hne⟩ := st
    exact ⟨⟨old, k e (by simp) _ he⟩, ⟨o, k it (by simp) o ho, r⟩, hne⟩
  item := by
    intro X hP hw hK hc i pins s σ H E I hf st hg
    subst hP hw hK
    obtain ⟨⟨old, he⟩, hit, hne⟩ := st
    obtain ⟨xs, x, hq, hx⟩ := hg
    obtain ⟨its, rv, p, hz⟩ := I.tuple hq
    obtain ⟨u, hu, ru⟩ := rv.get hx
    have hel : e < s.heap.objs.size := Heap.lt_size he
    have hil : it < s.heap.objs.size := by obtain ⟨_, q, _⟩ := hit; exact Heap.lt_size q
    have pT : s.heap.IsTuple a its.toArray := p
    obtain ⟨oa, hoa, hca, na, hda⟩ := id pT
    have hai : a ≠ it := fun z => by
      obtain ⟨o, ho, hc, _⟩ := hit
      rw [← z, hoa] at ho
      cases ho
      rw [hca] at hc
      exact absurd hc (by decide)
    have hea : e ≠ a := fun z => by
      have he' : s.heap.get? e = _ := he
      rw [z, hoa] at he'
      cases he'
      exact absurd (show Value.type "enumerate" = Value.type "tuple" from hca) (by decide)
    refine wpAny_pyNext_enum_itemD (D := Draws.tuple (A := X.A.in1) (I.ok.hd hc) it a hai its.toArray) he ⟨hit, pT⟩ (by have := (List.getElem?_eq_some_iff.mp hu).1; simpa using this) hne (by simp [hne, hea]) fun y h' tk hy ho hst hT hsz hk => ?_
    have ey : y = u := by
      have h1 : its.toArray[i]? = some y := hy
      simp only [List.getElem?_toArray] at h1
      rw [hu] at h1
      exact (Option.some.inj h1).symm
    subst ey
    obtain ⟨hit', _⟩ := hst
    refine ⟨_, rfl, wpAny_letOwnedTupleGo_enum (s := { s with heap := h', toks := tk + 1 }) ho fun h'' he' sb => ?_⟩
    have hT2 : h''.get? s.heap.objs.size = some { cls := .type "tuple", data := .seq #[.int i tk, y] } := (sb.2 _ (Nat.ne_of_gt hel)).trans hT
    have new : ObjOk X.prog X.w (upd H s.heap.objs.size (.tup [.int (i : Nat), x])) h'' s.heap.objs.size (.tup [.int (i : Nat), x]) :=
      ⟨by show 2 ≤ sizeLine; decide, [.int i tk, y], .cons ⟨_, rfl⟩ (.cons ru .nil), ⟨_, hT2, rfl, _, rfl⟩⟩
    have I1 : Inv X pins σ (upd H s.heap.objs.size (.tup [.int (i : Nat), x])) { s with heap := h'', toks := tk + 1 } :=
      I.turnedNew (ch := [e, it]) (fun b ob hb q => (sb.2 b (fun z => hb (by simp [z]))).trans (hk b ob (fun z => hb (by simp [z])) (fun z => hb (by simp [z])) q)) hf (Nat.le_refl _) new
    refine ⟨.ref s.heap.objs.size, _, I1, rfl, ⟨_, x, rfl, I.hok.fresh (Nat.le_refl _), rfl, fun ys hy => by rw [I.tuple_inj hy hq]; exact hx⟩, ⟨⟨y, ?_⟩, ?_, hne⟩, fun b hb => ?_⟩
    · have e1 : ((i + 1 : Nat) : Int) = (i : Int) + 1 := by omega
      rw [e1]; exact he'
    · obtain ⟨o, q, r⟩ := hit'
      exact ⟨o, (sb.2 it (Ne.symm hne)).trans q, r⟩
    · have hb' : b < s.heap.objs.size := by
        have e' : b = e ∨ b = it := by simpa using hb
        rcases e' with z | z
        · rw [z]; exact hel
        · rw [z]; exact hil
      rw [upd_ne (Nat.ne_of_lt hb')]
      exact (hf b hb).1
  done := by
    intro X hP hw hK hc i pins s σ H E I hf st hg
    subst hP hw hK
    obtain ⟨⟨old, he⟩, hit, hne⟩ := st
    obtain ⟨xs, hq, hx⟩ := hg
    obtain ⟨its, rv, p, hz⟩ := I.tuple hq
    obtain ⟨f0, f1, f2, f3, f4, f5⟩ := hf it (by simp)
    have hl := rv.length
    have pT : s.heap.IsTuple a its.toArray := p
    obtain ⟨oa, hoa, hca, na, hda⟩ := id pT
    have hai : a ≠ it := fun z => by
      obtain ⟨o, ho, hc, _⟩ := hit
      rw [← z, hoa] at ho
      cases ho
      rw [hca] at hc
      exact absurd hc (by decide)
    exact wpAny_pyNext_enum_endT (I.ok.hd hc) he hit pT (by simp; omega) fun h' eb => ⟨rfl, I.turned (t' := s.toks) (fun b o hb q => eb b o hb q) f0 f1 f3 f4 f5⟩
  self := fun A i s Q E st h => let ⟨⟨_, he⟩, _⟩ := st; wpAny_pyIter_enum he h
def iEnumT (K : PySem.W.Frag) (ta : TA) : TI := fun σ H R => ta σ H fun vs H1 => ∃ a xs, vs = [.ref a] ∧ SqT K H1 a xs ∧ R (IteT K a) H1
theorem pi_enumT {X : Cx} {e : Expr} {ta : TA} {p pos tpos : Pos} {elts : List Expr} {kk : Nat} (hg : Gl X "enumerate") (hm : X.mg "enumerate" = none) (ha : PA X [e] ta) (hs : starEach [e] X.env = [(false, eval e X.env)] := by rfl) :
    PI X (.Tuple elts kk tpos) (.Call (.Name "enumerate" p) [e] [] pos) (iEnumT X.K ta) := by
  refine ⟨fun pins s σ H R I h => ?_⟩
  refine Call_ (ld_blt I hg hm boot_enumerate (PyProof.Rows.callWith_type1 (thn (ha.run pos pins s σ H _ I h) fun us s1 ⟨vs, H1, I1, r1, q1⟩ => ?_) hs rfl))
  obtain ⟨a, xs, ex, hq, q⟩ := q1
  subst ex
  cases r1 with
  | cons r rr =>
    cases rr
    cases r
    obtain ⟨its, rv, p', hz⟩ := I1.tuple hq
    have pT : s1.heap.IsTuple a its.toArray := p'
    refine call_enumT (begins_tuple a its.toArray) pT fun h' he hit hsz hk => wpAny_pyIter_enum he ?_
    have I2 : Inv X pins σ H1 { s1 with heap := h' } := I1.kept (t' := s1.toks) hk
    refine ⟨s1.heap.objs.size + 1, [s1.heap.objs.size + 1, s1.heap.objs.size], _, _, H1, rfl, I2, turn_enumT a (s1.heap.objs.size + 1) s1.heap.objs.size #[], ⟨⟨.none, he⟩, ⟨_, hit, rfl, rfl⟩, Nat.succ_ne_self _⟩, fun b hb => ?_, q⟩
    have e' : b = s1.heap.objs.size + 1 ∨ b = s1.heap.objs.size := by simpa using hb
    have hle : s1.heap.objs.size ≤ b := by
      rcases e' with z | z
      · rw [z]; exact Nat.le_add_right _ _
      · rw [z]; exact Nat.le_refl _
    exact I1.fpOk hle (I1.hok.fresh hle)
/-! ### .. in the judgements -/
variable {α β γ δ τ υ ω ρ ε : Type}
def enumL : Nat → List α → List (Int × α)
  | _, [] => []
  | k, x :: xs => ((k : Int), x) :: enumL (k + 1) xs
theorem enumL_get : ∀ {xs : List α} {k i : Nat}, (enumL k xs)[i]? = xs[i]?.map fun x => (((k + i : Nat) : Int), x)
  | [], k, i => by simp [enumL]
  | x :: xs, k, 0 => by simp [enumL]
  | x :: xs, k, i + 1 => by
    have := enumL_get (xs := xs) (k := k + 1) (i := i)
    simp only [enumL, List.getElem?_cons_succ, this]
    rw [show k + 1 + i = k + (i + 1) by omega]
theorem enumL_len {xs : List α} {k : Nat} : (enumL k xs).length = xs.length := by
  induction xs generalizing k with
  | nil => rfl
  | cons x xs ih => simp [enumL, ih]
theorem ok_enumT {K : PySem.W.Frag} {C : Wd → Prop} {p : Addr} {xs : List α} {E : α → SP} (h : ∀ W1, C W1 → Ex W1.B W1.H ∧ ∃ vs, W1.H p = some (.tup vs) ∧ Each E W1.B vs xs) : ItOk (IteT K p) C (enumL 0 xs) (prS intS E) := fun W1 c => by
  obtain ⟨ok, vs, h1, h2⟩ := h W1 c
  have hq : SqT K W1.H p vs := .inl (.inl h1)
  refine ⟨fun i x hx => ?_, fun i hi => ⟨vs, hq, by rw [h2.len]; rw [enumL_len] at hi; exact hi⟩⟩
  rw [enumL_get] at hx
  cases hxi : xs[i]? with
  | none => rw [hxi] at hx; cases hx
  | some y =>
    rw [hxi] at hx
    cases hx
    obtain ⟨v, hv, pv⟩ := h2.get hxi
    refine ⟨⟨vs, v, hq, hv⟩, fun u H' ⟨T, x', e1, e2, e3, e4⟩ => ?_⟩
    have q := e4 vs hq
    rw [hv] at q
    cases q
    subst e1 e3
    have e2' := Ext.newB ok (o := .tup [.int (i : Nat), v]) e2
    refine ⟨⟨upd W1.H T (.tup [.int (i : Nat), v]), upd W1.B T (.tup [.int (i : Nat), v])⟩, rfl, e2', T, [.int (i : Nat), v], rfl, upd_same, ?_⟩
    refine ⟨?_, SP.mono _ pv e2'.b, trivial⟩
    show V.int (i : Nat) = V.int (((0 + i : Nat) : Int))
    rw [Nat.zero_add]
theorem ok_enumL {K : PySem.W.Frag} {C : Wd → Prop} {p : Addr} {xs : List α} {E : α → SP} (h : ∀ W1, C W1 → Ex W1.B W1.H ∧ ∃ vs, W1.H p = some (.lst vs) ∧ Each E W1.B vs xs) : ItOk (Ite K p) C (enumL 0 xs) (prS intS E) := fun W1 c => by
  obtain ⟨ok, vs, h1, h2⟩ := h W1 c
  have hq : SqL K W1.H p vs := .inl (.inl h1)
  refine ⟨fun i x hx => ?_, fun i hi => ⟨vs, hq, by rw [h2.len]; rw [enumL_len] at hi; exact hi⟩⟩
  rw [enumL_get] at hx
  cases hxi : xs[i]? with
  | none => rw [hxi] at hx; cases hx
  | some y =>
    rw [hxi] at hx
    cases hx
    obtain ⟨v, hv, pv⟩ := h2.get hxi
    refine ⟨⟨vs, v, hq, hv⟩, fun u H' ⟨T, x', e1, e2, e3, e4⟩ => ?_⟩
    have q := e4 vs hq
    rw [hv] at q
    cases q
    subst e1 e3
    have e2' := Ext.newB ok (o := .tup [.int (i : Nat), v]) e2
    refine ⟨⟨upd W1.H T (.tup [.int (i : Nat), v]), upd W1.B T (.tup [.int (i : Nat), v])⟩, rfl, e2', T, [.int (i : Nat), v], rfl, upd_same, ?_⟩
    refine ⟨?_, SP.mono _ pv e2'.b, trivial⟩
    show V.int (i : Nat) = V.int (((0 + i : Nat) : Int))
    rw [Nat.zero_add]
section
variable {S : Stc} {Γ Δ : Ctx} {a b c e tg iter elt : Expr} {es ifs : List Expr} {pos : Pos}
theorem ji_enumT {p tpos : Pos} {elts : List Expr} {kk : Nat} {m : Option (List α)} {E : α → SP} (hm : S.mg "enumerate" = none) (h : JN S a Γ m fun xs => sh (tupS E xs)) (hg : GlS S "enumerate" := by rfl) (hs : ∀ env, starEach [a] env = [(false, eval a env)] := by intro _; rfl) :
    JI S (.Tuple elts kk tpos) (.Call (.Name "enumerate" p) [a] [] pos) Γ (m.bind fun xs => some (enumL 0 xs)) (prS intS E) := fun σ W F st xs hx R k => by
  obtain ⟨ys, h1, h2⟩ := run1 hx
  cases h2
  refine ⟨iEnumT S.K (tCons (tOf S a) tNil), fun X hX => hX.K ▸ pi_enumT (hg.gl hX) (mgS hm hX) (pa_cons (peO hX) pa_nil (hs _)) (hs _), h σ W F st ys h1 _ fun v W' Fv ext _ _ r => ?_⟩
  obtain ⟨_, a, vs, rfl, h2, h3⟩ := r
  exact ⟨a, vs, rfl, .inl (.inl (ext.ok a _ h2)), k _ W' ext (ok_enumT fun W1 c => ⟨c.1, vs, c.1 a _ (c.2 a _ h2), h3.mono c.2⟩)⟩
theorem ji_enumL {p tpos : Pos} {elts : List Expr} {kk : Nat} {m : Option (List α)} {E : α → SP} (hm : S.mg "enumerate" = none) (h : JN S a Γ m fun xs => sh (lstS E xs)) (hg : GlS S "enumerate" := by rfl) (hs : ∀ env, starEach [a] env = [(false, eval a env)] := by intro _; rfl) :
    JI S (.Tuple elts kk tpos) (.Call (.Name "enumerate" p) [a] [] pos) Γ (m.bind fun xs => some (enumL 0 xs)) (prS intS E) := fun σ W F st xs hx R k => by
  obtain ⟨ys, h1, h2⟩ := run1 hx
  cases h2
  refine ⟨iEnum S.K (tCons (tOf S a) tNil), fun X hX => hX.K ▸ pi_enum (hg.gl hX) (mgS hm hX) (pa_cons (peO hX) pa_nil (hs _)) (hs _), h σ W F st ys h1 _ fun v W' Fv ext _ _ r => ?_⟩
  obtain ⟨_, a, vs, rfl, h2, h3⟩ := r
  exact ⟨a, vs, rfl, .inl (.inl (ext.ok a _ h2)), k _ W' ext (ok_enumL fun W1 c => ⟨c.1, vs, c.1 a _ (c.2 a _ h2), h3.mono c.2⟩)⟩
end
end CC
set_option maxHeartbeats 4000000
/-! Bits, truth, slices, insert, order of tuples. -/
namespace CC
open PySem PySem.Spec L2
open PyProof.Rows hiding St
variable {α β γ δ τ υ ω ρ ε : Type}
/-! ### bits -/
def bAnd (x y : Int) : Int := Builtin.bitAnd x y
def bOr (x y : Int) : Int := Builtin.bitOr x y
def bXor (x y : Int) : Int := Builtin.bitXor x y
def bNot (x : Int) : Int := Builtin.bitNot x
def shlO (x j : Int) : Option Int := if 0 ≤ j ∧ j ≤ 1000000 ∧ x.natAbs < 2 ^ 64 then some (x * 2 ^ j.toNat) else none
def shrO (x j : Int) : Option Int := if 0 ≤ j then some (x / 2 ^ j.toNat) else none
def powO (x j : Int) : Option Int := if 0 ≤ j ∧ j ≤ 1000000 ∧ x.natAbs < 2 ^ 64 then some (x ^ j.toNat) else none
theorem ov_bAnd : OpV (rI0 fun i j => .int (Builtin.bitAnd i j)) intS intS (fun x y => some (bAnd x y)) fun z => sh (intS z) := ov_I0 fun _ _ _ => rfl
theorem ov_bOr : OpV (rI0 fun i j => .int (Builtin.bitOr i j)) intS intS (fun x y => some (bOr x y)) fun z => sh (intS z) := ov_I0 fun _ _ _ => rfl
theorem ov_bXor : OpV (rI0 fun i j => .int (Builtin.bitXor i j)) intS intS (fun x y => some (bXor x y)) fun z => sh (intS z) := ov_I0 fun _ _ _ => rfl
theorem ov_shl : OpV (rI CPow fun i j => .int (i * 2 ^ j.toNat)) intS intS shlO fun z => sh (intS z) := ov_I fun i j z h => by
  unfold shlO at h
  split at h
  · cases h
    rename_i c
    exact ⟨c, fun _ => rfl⟩
  · cases h
theorem ov_pow : OpV (rI CPow fun i j => .int (i ^ j.toNat)) intS intS powO fun z => sh (intS z) := ov_I fun i j z h => by
  unfold powO at h
  split at h
  · cases h
    rename_i c
    exact ⟨c, fun _ => rfl⟩
  · cases h
theorem ov_shr : OpV (rI (fun _ j => 0 ≤ j) fun i j => .int (i / 2 ^ j.toNat)) intS intS shrO fun z => sh (intS z) := ov_I fun i j z h => by
  unfold shrO at h
  split at h
  · cases h
    rename_i c
    exact ⟨c, fun _ => rfl⟩
  · cases h
section
variable {S : Stc}
theorem oBAnd : ∀ X, S.In X → OpR X (binaryOp .BitAnd) (rI0 fun i j => .int (Builtin.bitAnd i j)) := fun _ _ => op_and
theorem oBOr : ∀ X, S.In X → OpR X (binaryOp .BitOr) (rI0 fun i j => .int (Builtin.bitOr i j)) := fun _ _ => op_or
theorem oBXor : ∀ X, S.In X → OpR X (binaryOp .BitXor) (rI0 fun i j => .int (Builtin.bitXor i j)) := fun _ _ => op_xor
theorem oShl : ∀ X, S.In X → OpR X (binaryOp .LShift) (rI CPow fun i j => .int (i * 2 ^ j.toNat)) := fun _ _ => op_shl
theorem oPow : ∀ X, S.In X → OpR X (binaryOp .Pow) (rI CPow fun i j => .int (i ^ j.toNat)) := fun _ _ => op_pow
theorem oShr : ∀ X, S.In X → OpR X (binaryOp .RShift) (rI (fun _ j => 0 ≤ j) fun i j => .int (i / 2 ^ j.toNat)) := fun _ _ => op_shr
theorem oLtT : ∀ X, S.In X → OpR X (compareOp .Lt) (rLtT S.K) := fun X h => h.K ▸ op_ltT (by have := h.un; omega)
theorem oLeT : ∀ X, S.In X → OpR X (compareOp .LtE) (rLeT S.K) := fun X h => h.K ▸ op_leT (by have := h.un; omega)
end
section
variable {S : Stc} {Γ Δ : Ctx} {a b c e tg iter elt : Expr} {es ifs : List Expr} {pos : Pos} {st : Stmt} {rest A B : List Stmt}
theorem jn_inv {ma : Option Int} (ha : JN S a Γ ma fun x => sh (intS x)) : JN S (.UnaryOp .Invert a pos) Γ (ma.bind fun x => some (bNot x)) fun z => sh (intS z) :=
  jn_un (f := fun x : Int => some (bNot x)) (fun _ _ => un_inv) (fun W x v z ok h e Q k => by cases e; cases h; exact ⟨x, rfl, k.val ok rfl⟩) ha
/-- x.bit_length() -/
def bitLen (x : Int) : Int := (Builtin.Int.intBits x : Nat)
theorem jn_bits {apos : Pos} {ma : Option Int} (ha : JN S a Γ ma fun x => sh (intS x)) (hbase : ∀ env, attributeBase a "bit_length" env (eval a env) = eval a env := by intro _; rfl) (hline : (apos.endLine == pos.line) = true := by rfl) : JN S (.Call (.Attribute a "bit_length" apos) [] [] pos) Γ (ma.bind fun x => some (bitLen x)) fun z => sh (intS z) := fun σ W F sta z hz Q k => by
  obtain ⟨x, h1, h2⟩ := run1 hz
  cases h2
  exact ⟨tBits (tOf S a), fun X hX => pe_bits (peO hX) (hbase _) hline, ha σ W F sta x h1 _ fun v W' Fv e _ _ r => ⟨x, r.2, (k.ext e).val e.ok rfl⟩⟩
/-! ### truth of a value -/
def tTru (K : PySem.W.Frag) (t : TE) : TT := fun σ H Q => t σ H fun x H' => ∃ k, TruV K x H' k ∧ Q k H'
theorem jt_truI {m : Option Int} (h : JN S e Γ m fun z => sh (intS z)) (he : ∀ env whole, isTrue e env whole = (do let v ← whole; standAt e.pos; holding [v] (truthy v)) := by intro _ _; rfl) : JT S e Γ (m.bind fun x => some (x != 0)) := fun σ W F st z hz Q k => by
  obtain ⟨x, h1, h2⟩ := run1 hz
  cases h2
  exact ⟨tTru S.K (tOf S e), fun X hX => hX.K ▸ pt_truth (peO hX) (he _), h σ W F st x h1 _ fun v W' Fv e _ _ r => ⟨x != 0, by rw [r.2]; rfl, k W' e⟩⟩
theorem jt_truT {m : Option (List α)} {E : α → SP} (h : JN S e Γ m fun z => sh (tupS E z)) (he : ∀ env whole, isTrue e env whole = (do let v ← whole; standAt e.pos; holding [v] (truthy v)) := by intro _ _; rfl) : JT S e Γ (m.bind fun x => some (!x.isEmpty)) := fun σ W F st z hz Q k => by
  obtain ⟨x, h1, h2⟩ := run1 hz
  cases h2
  refine ⟨tTru S.K (tOf S e), fun X hX => hX.K ▸ pt_truth (peO hX) (he _), h σ W F st x h1 _ fun v W' Fv e _ _ r => ?_⟩
  obtain ⟨_, p, vs, rfl, q2, q3⟩ := r
  refine ⟨!x.isEmpty, .inr (.inl ⟨vs, .inl (.inl (e.ok p _ q2)), ?_⟩), k W' e⟩
  have := q3.len
  cases vs <;> cases x <;> simp at this ⊢
theorem jt_truL {m : Option (List α)} {E : α → SP} (h : JN S e Γ m fun z => sh (lstS E z)) (he : ∀ env whole, isTrue e env whole = (do let v ← whole; standAt e.pos; holding [v] (truthy v)) := by intro _ _; rfl) : JT S e Γ (m.bind fun x => some (!x.isEmpty)) := fun σ W F st z hz Q k => by
  obtain ⟨x, h1, h2⟩ := run1 hz
  cases h2
  refine ⟨tTru S.K (tOf S e), fun X hX => hX.K ▸ pt_truth (peO hX) (he _), h σ W F st x h1 _ fun v W' Fv e _ _ r => ?_⟩
  obtain ⟨_, p, vs, rfl, q2, q3⟩ := r
  refine ⟨!x.isEmpty, .inl ⟨vs, .inl (.inl (e.ok p _ q2)), ?_⟩, k W' e⟩
  have := q3.len
  cases vs <;> cases x <;> simp at this ⊢
theorem jt_truO {m : Option (List α)} {E : α → OP} (h : JR S e Γ m (lstO E)) (he : ∀ env whole, isTrue e env whole = (do let v ← whole; standAt e.pos; holding [v] (truthy v)) := by intro _ _; rfl) : JT S e Γ (m.bind fun x => some (!x.isEmpty)) := fun σ W F st z hz Q k => by
  obtain ⟨x, h1, h2⟩ := run1 hz
  cases h2
  refine ⟨tTru S.K (tOf S e), fun X hX => hX.K ▸ pt_truth (peO hX) (he _), h σ W F st x h1 _ fun v W' e ⟨F1, r, _⟩ => ?_⟩
  obtain ⟨p, vs, F2, rfl, q2, _, q3⟩ := r
  refine ⟨!x.isEmpty, .inl ⟨vs, .inl (.inl q2), ?_⟩, k W' e⟩
  have := q3.len
  cases vs <;> cases x <;> simp at this ⊢
/-! ### order of pairs of ints -/
def ltPI (x y : Int × Int) : Bool := if x.1 = y.1 then decide (x.2 < y.2) else decide (x.1 < y.1)
theorem prI_sq {K : PySem.W.Frag} {W : Wd} {x : Int × Int} {v : V} (ok : Ex W.B W.H) (h : (prS intS intS x).P W.B v) : ∃ a, v = .ref a ∧ SqT K W.H a ([x.1, x.2].map V.int) := by
  obtain ⟨a, vs, rfl, h2, h3⟩ := h
  obtain ⟨u, w, rfl, a1, a2⟩ := hts2 h3
  cases a1
  cases a2
  exact ⟨a, rfl, .inl (.inl (ok a _ h2))⟩
theorem ov_ltPI {K : PySem.W.Frag} : OpV (rLtT K) (prS intS intS) (prS intS intS) (fun x y => some (ltPI x y)) fun z => sh (boolS z) := fun W x y v u z ok hx hy e Q k => by
  cases e
  obtain ⟨a, rfl, ha⟩ := prI_sq (K := K) ok hx
  obtain ⟨b, rfl, hb⟩ := prI_sq (K := K) ok hy
  refine ⟨a, b, _, _, rfl, rfl, ha, hb, k.val ok ?_⟩
  show V.bl (HT.lexLt [x.1, x.2] [y.1, y.2]) = V.bl (ltPI x y)
  congr 1
  unfold ltPI
  simp only [HT.lexLt_cons, HT.lexLt_nil_nil]
  split
  · by_cases h : x.2 = y.2
    · rw [if_pos h]; simp [h]
    · rw [if_neg h]
  · rfl
/-! ### slices -/
def cutL (xs : List α) (lo hi : Option Int) : List α := (xs.drop (HT.sIx xs.length 0 lo)).take (HT.sIx xs.length xs.length hi - HT.sIx xs.length 0 lo)
theorem each_cut {E : α → SP} {B : Hp} {vs : List V} {xs : List α} (h : Each E B vs xs) (lo hi : Option Int) : Each E B (cutV vs lo hi) (cutL xs lo hi) := by
  unfold cutV cutL
  rw [h.len]
  exact (h.drop _).take _
def toOf (S : Stc) (o : Option Expr) : TO := fun σ H Q => ∃ t : TO, (∀ X, S.In X → PO X o t) ∧ t σ H Q
theorem poO {X : Cx} {o : Option Expr} (h : S.In X) : PO X o (toOf S o) := ⟨fun pins s σ H Q I ⟨_, p, q⟩ => (p X h).run pins s σ H Q I q⟩
def JO (S : Stc) (o : Option Expr) (Γ : Ctx) (m : Option (Option Int)) : Prop :=
  ∀ σ W F, Sta Γ σ W F → ∀ x, m = some x → ∀ Q : Option Int → Hp → Prop, (∀ W', Ext W W' → Q x W'.H) → toOf S o σ W.H Q
theorem jo_none : JO S none Γ (some none) := fun σ W F st x hx Q k => by
  cases hx
  exact ⟨tNoPart, fun _ _ => po_none, k W (Ext.refl st.ok)⟩
theorem jo_some {m : Option Int} (h : JN S e Γ m fun z => sh (intS z)) : JO S (some e) Γ (m.bind fun x => some (some x)) := fun σ W F st x hx Q k => by
  obtain ⟨y, h1, h2⟩ := run1 hx
  cases h2
  exact ⟨tPart (tOf S e), fun X hX => po_some (peO hX), h σ W F st y h1 _ fun v W' Fv e _ _ r => ⟨y, r.2, k W' e⟩⟩
theorem jn_slO {E : α → SP} {lo hi : Option Expr} {p2 : Pos} {m : Option (List α)} {ml mh : Option (Option Int)} (h : JR S a Γ m (lstO fun x => sh (E x))) (hl : JO S lo Γ ml) (hh : JO S hi Γ mh) : JN S (.Subscript a (.Slice lo hi none p2) pos) Γ (m.bind fun xs => ml.bind fun l => mh.bind fun u => some (cutL xs l u)) (lstO fun x => sh (E x)) := fun σ W F sta z hz Q kq => by
  obtain ⟨x, h1, h2⟩ := run1 hz
  obtain ⟨l, u, h3, h4, h5⟩ := run2 (f := fun l u => some (cutL x l u)) h2
  cases h5
  refine ⟨tSl (rSlL S.K) (tOf S a) (toOf S lo) (toOf S hi), fun X hX => hX.K ▸ pe_slice sl_list (peO hX) (poO hX) (poO hX), h σ W F sta x h1 _ fun v W1 e1 ⟨F1, r, al⟩ => ?_⟩
  obtain ⟨p, vs, F2, rfl, q2, rfl, q3⟩ := r
  obtain ⟨_, q4⟩ := q3.each
  refine hl σ W1 F (sta.ext e1) l h3 _ fun W2 e2 => ?_
  refine hh σ W2 F (sta.ext (e1.trans e2)) u h4 _ fun W3 e3 => ?_
  have e := (e1.trans e2).trans e3
  exact ⟨p, vs, rfl, .inl (.inl (e3.h p _ (e2.h p _ q2))), (kq.ext e).newL e.ok (each_cut (q4.mono (e2.b.trans e3.b)) l u)⟩
theorem jn_slL {E : α → SP} {lo hi : Option Expr} {p2 : Pos} {m : Option (List α)} {ml mh : Option (Option Int)} (h : JN S a Γ m fun x => sh (lstS E x)) (hl : JO S lo Γ ml) (hh : JO S hi Γ mh) : JN S (.Subscript a (.Slice lo hi none p2) pos) Γ (m.bind fun xs => ml.bind fun l => mh.bind fun u => some (cutL xs l u)) (lstO fun x => sh (E x)) := fun σ W F sta z hz Q kq => by
  obtain ⟨x, h1, h2⟩ := run1 hz
  obtain ⟨l, u, h3, h4, h5⟩ := run2 (f := fun l u => some (cutL x l u)) h2
  cases h5
  refine ⟨tSl (rSlL S.K) (tOf S a) (toOf S lo) (toOf S hi), fun X hX => hX.K ▸ pe_slice sl_list (peO hX) (poO hX) (poO hX), h σ W F sta x h1 _ fun v W1 Fv e1 _ _ r => ?_⟩
  obtain ⟨_, p, vs, rfl, q2, q4⟩ := r
  refine hl σ W1 F (sta.ext e1) l h3 _ fun W2 e2 => ?_
  refine hh σ W2 F (sta.ext (e1.trans e2)) u h4 _ fun W3 e3 => ?_
  have e := (e1.trans e2).trans e3
  exact ⟨p, vs, rfl, .inl (.inl (e.ok p _ (e3.b p _ (e2.b p _ q2)))), (kq.ext e).newL e.ok (each_cut (q4.mono (e2.b.trans e3.b)) l u)⟩
theorem cutL_all {xs : List α} {l u : Option Int} (h : HT.sIx xs.length 0 l = 0 ∧ HT.sIx xs.length xs.length u = xs.length) : cutL xs l u = xs := by
  unfold cutL
  rw [h.1, h.2]
  simp
theorem jn_slT {E : α → SP} {lo hi : Option Expr} {p2 : Pos} {m : Option (List α)} {ml mh : Option (Option Int)} (h : JN S a Γ m fun x => sh (tupS E x)) (hl : JO S lo Γ ml) (hh : JO S hi Γ mh) : JN S (.Subscript a (.Slice lo hi none p2) pos) Γ (m.bind fun xs => ml.bind fun l => mh.bind fun u => some (cutL xs l u)) (fun x => sh (tupS E x)) := fun σ W F sta z hz Q kq => by
  obtain ⟨x, h1, h2⟩ := run1 hz
  obtain ⟨l, u, h3, h4, h5⟩ := run2 (f := fun l u => some (cutL x l u)) h2
  cases h5
  refine ⟨tSl (rSlA S.K) (tOf S a) (toOf S lo) (toOf S hi), fun X hX => hX.K ▸ pe_slice sl_tupA (peO hX) (poO hX) (poO hX), h σ W F sta x h1 _ fun v W1 Fv e1 _ _ r => ?_⟩
  obtain ⟨_, p, vs, rfl, q2, q4⟩ := r
  refine hl σ W1 F (sta.ext e1) l h3 _ fun W2 e2 => ?_
  refine hh σ W2 F (sta.ext (e1.trans e2)) u h4 _ fun W3 e3 => ?_
  have e := (e1.trans e2).trans e3
  have q2' := e3.b p _ (e2.b p _ q2)
  have q4' := q4.mono (e2.b.trans e3.b)
  refine ⟨p, vs, rfl, .inl (.inl (e.ok p _ q2')), fun hw => ?_, fun _ => (kq.ext e).newT e.ok (each_cut q4' l u)⟩
  rw [q4.len] at hw
  refine (kq.ext e).val e.ok ?_
  rw [cutL_all hw]
  exact ⟨p, vs, rfl, q2', q4'⟩
/-! ### max, min of two ints -/
theorem jn_max2 {p : Pos} {m : Option α} {G : α → List SP} (g1 g2 : α → Int) (hm : S.mg "max" = none) (h : JA S (e :: es) Γ m G) (hG : ∀ x, G x = [intS (g1 x), intS (g2 x)] := by intro _; rfl) (hg : GlS S "max" := by rfl) (he : ∀ env, starEach (e :: es) env = (false, eval e env) :: starEach es env := by intro _; rfl) (hpl : ∀ env, (backTo pos (starEach es env)).any (·.1) = false := by intro _; rfl) (hcm : S.calm = true := by rfl) : JN S (.Call (.Name "max" p) (e :: es) [] pos) Γ (m.bind fun x => some (if g2 x > g1 x then g2 x else g1 x)) fun z => sh (intS z) := fun σ W F sta z hz Q kq => by
  obtain ⟨x, h1, h2⟩ := run1 hz
  cases h2
  refine ⟨tCB (fun xs H Q => ∃ i j, xs = [.int i, .int j] ∧ Q (.int (if j > i then j else i)) H) (taOf S (e :: es)), fun X hX => pe_callB (call_max2 (hX.calm.trans hcm)) (hg.gl hX) (mgS hm hX) (by decide +kernel) (paO hX) (by decide) (by decide) (he _) (hpl _), h σ W F sta x h1 _ fun vs W' ext hh => ?_⟩
  rw [hG] at hh
  obtain ⟨u, v, rfl, a1, a2⟩ := hets2 hh
  cases a1
  cases a2
  exact ⟨_, _, rfl, (kq.ext ext).val ext.ok rfl⟩
theorem jn_min2 {p : Pos} {m : Option α} {G : α → List SP} (g1 g2 : α → Int) (hm : S.mg "min" = none) (h : JA S (e :: es) Γ m G) (hG : ∀ x, G x = [intS (g1 x), intS (g2 x)] := by intro _; rfl) (hg : GlS S "min" := by rfl) (he : ∀ env, starEach (e :: es) env = (false, eval e env) :: starEach es env := by intro _; rfl) (hpl : ∀ env, (backTo pos (starEach es env)).any (·.1) = false := by intro _; rfl) (hcm : S.calm = true := by rfl) : JN S (.Call (.Name "min" p) (e :: es) [] pos) Γ (m.bind fun x => some (if g2 x < g1 x then g2 x else g1 x)) fun z => sh (intS z) := fun σ W F sta z hz Q kq => by
  obtain ⟨x, h1, h2⟩ := run1 hz
  cases h2
  refine ⟨tCB (fun xs H Q => ∃ i j, xs = [.int i, .int j] ∧ Q (.int (if j < i then j else i)) H) (taOf S (e :: es)), fun X hX => pe_callB (call_min2 (hX.calm.trans hcm)) (hg.gl hX) (mgS hm hX) (by decide +kernel) (paO hX) (by decide) (by decide) (he _) (hpl _), h σ W F sta x h1 _ fun vs W' ext hh => ?_⟩
  rw [hG] at hh
  obtain ⟨u, v, rfl, a1, a2⟩ := hets2 hh
  cases a1
  cases a2
  exact ⟨_, _, rfl, (kq.ext ext).val ext.ok rfl⟩
/-! ### x, y = [a, b] -/
theorem jg_pairL {E : α → SP} {G : β → SP} {x y : Str} {pos p1 p2 : Pos} {k : Nat} (i j : Nat) (nd : S.N.Nodup) (hN : S.N[i]? = some x := by rfl) (hM : S.N[j]? = some y := by rfl) (hx : Loc S.sc x := by first | exact Or.inl rfl | exact Or.inr rfl) (hy : Loc S.sc y := by first | exact Or.inl rfl | exact Or.inr rfl)
    (hp : (S.prot.contains i) = false := by rfl) (hq : (S.prot.contains j) = false := by rfl) (hf : S.fn x = true ∨ S.sc.names.lookup x = some .local := by first | exact .inl rfl | exact .inr rfl) (hf2 : S.fn y = true ∨ S.sc.names.lookup y = some .local := by first | exact .inl rfl | exact .inr rfl)
    (hs : ∀ env, (assignEach [Expr.Name x p1, .Name y p2] env).map (·.2) = assign (.Name x p1) env :: (assignEach [Expr.Name y p2] env).map (·.2) := by intro _; rfl) (hs2 : ∀ env, (assignEach [Expr.Name y p2] env).map (·.2) = assign (.Name y p2) env :: (assignEach [] env).map (·.2) := by intro _; rfl)
    (hn : ∀ env, (assignEach [Expr.Name x p1, .Name y p2] env).length = 2 := by intro _; rfl) (hst : ∀ env, (assignEach [Expr.Name x p1, .Name y p2] env).findIdx? (·.1) = none := by intro _; rfl) (hcm : S.calm = true := by rfl) :
    JG S (.Tuple [.Name x p1, .Name y p2] k pos) (l2S E G) (fun a Γ => (Γ.set i (some (sh (E a.1)))).set j (some (sh (G a.2)))) [i, j] := fun Γ σ W F q v st hl h Q kk => by
  refine ⟨gLst S.K 2 (gCons (gName i) (gCons (gName j) gNil)), fun X hX => hX.K ▸ pg_lst (hX.calm.trans hcm) (pgs_cons (pg_name (by rw [hX.N]; exact nd) (by rw [hX.N]; exact hN) (locS hx hX) (by rw [hX.fn, hX.sc]; exact hf)) (pgs_cons (pg_name (by rw [hX.N]; exact nd) (by rw [hX.N]; exact hM) (locS hy hX) (by rw [hX.fn, hX.sc]; exact hf2)) pgs_nil (hs2 _)) (hs _)) (hn _) (hst _), ?_⟩
  obtain ⟨a, vs, rfl, h2, h3⟩ := h
  match vs, h3 with
  | [u, w], ⟨p1, p2, _⟩ =>
    refine ⟨a, [u, w], rfl, .inl (.inl (st.ok a _ h2)), rfl, u, [w], rfl, w, [], rfl, rfl, ?_⟩
    obtain ⟨F1, s1, sub1⟩ := set_keeps st (hl i (by simp)) p1
    obtain ⟨F2, s2, sub2⟩ := set_keeps s1 (by rw [List.length_set]; exact hl j (by simp)) p2
    refine kk _ F2 (fun vs hv => ?_) ((Keep.set (ncon hp)).trans (Keep.set (ncon hq))) s2 fun b hb => sub1 b (sub2 b hb)
    rw [wipe_set (hv j (by simp)), wipe_set (hv i (by simp))]
end
/-! ### line.insert(i, y) -/
def insM (xs : List α) (i : Int) (x : α) : Option (List α) := if xs.length < LIM ∧ 0 ≤ i ∧ i < 1000000000 then some (xs.take i.toNat ++ [x] ++ xs.drop i.toNat) else none
section
variable {S : Stc} {Γ : τ → Ctx} {s : τ} {a b c e : Expr} {pos : Pos}
theorem js_insE {x : Str} {p0 apos cpos spos : Pos} {E : α → SP} {m : Option ((Int × α × Unit) × τ)} (i : Nat) (get : τ → List α) (h : JEA S [a, b] Γ s m fun z => [intS z.1, E z.2.1]) (hi : ∀ s, (Γ s)[i]? = some (some (lstO (fun x => sh (E x)) (get s))) := by intro _; rfl) (hN : S.N[i]? = some x := by rfl) (hv : Vis S.sc x := by first | exact Or.inl rfl | exact Or.inr (Or.inl rfl) | exact Or.inr (Or.inr rfl))
    (hd : (x == ("__debug__" : Str)) = false := by decide) (hcd : (x == ("__classdict__" : Str)) = false := by decide)
    (hbase : ∀ env, attributeBase (.Name x p0) "insert" env (eval (.Name x p0) env) = eval (.Name x p0) env := by intro _; rfl)
    (hfew : ∀ env, ((backTo cpos (starEach [a, b] env)).all (fun x => !x.1) && (backToKw cpos (keywordEach [] env)).all (fun x => x.1.isSome) && decide ([a, b].length + ([] : List Keyword).length + (if ([] : List Keyword).isEmpty then 0 else 1) < 30)) = true := by intro _; rfl)
    (hline : (apos.endLine == cpos.line) = true := by rfl) (hs : ∀ env, starEach [a, b] env = (false, eval a env) :: starEach [b] env := by intro _; rfl) (hpl : ∀ env, (backTo cpos (starEach [b] env)).any (·.1) = false := by intro _; rfl) (hsw : ∀ env, swapsWith (.Call (.Attribute (.Name x p0) "insert" apos) [a, b] [] cpos) none spos.line env = pure false := by intro _; rfl) :
    JS S (.Expr (.Call (.Attribute (.Name x p0) "insert" apos) [a, b] [] cpos) spos) (Γ s) (m.bind fun q => (insM (get q.2) q.1.1 q.1.2.1).bind fun ys => some (ys, q.2)) fun q => .nx ((Γ q.2).set i (some (lstO (fun x => sh (E x)) q.1))) := fun σ W F sta z hz Ed k => by
  obtain ⟨q, h1, h2⟩ := run1 hz
  obtain ⟨ys, h3, h4⟩ := run1 (f := fun ys : List α => some (ys, q.2)) h2
  cases h4
  unfold insM at h3
  split at h3
  · rename_i hc
    cases h3
    refine ⟨tDrop (tBM S.K "list" (fun x vs H Q => ∃ (l : Addr) (xs : List V) (i : Int) (y : V), x = .ref l ∧ vs = [.int i, y] ∧ H l = some (.lst xs) ∧ xs.length < sizeLine ∧ 0 ≤ i ∧ i < 2 ^ 63 ∧ Q .non (upd H l (.lst (xs.take i.toNat ++ [y] ++ xs.drop i.toNat)))) (tVar i) (taOf S [a, b])), fun X hX => ps_expr (hX.K ▸ pe_bm PySem.F.plainAttrs_list PySem.F.slot_list_insert PySem.F.type_list_insert mt_insert (pe_var (by rw [hX.N]; exact hN) (visS hv hX) hd hcd) (paO hX) (hbase _) (hfew _) hline (hs _) (hpl _)) (hsw _), ?_⟩
    obtain ⟨v, F1, F2, a1, a2, a3, a4⟩ := sta.hold.at (hi s)
    obtain ⟨p, vs, G2, rfl, b2, rfl, b4⟩ := id a2
    refine ⟨.ref p, a1, .inl ⟨rfl, vs, .inl (.inl b2)⟩, h σ W F sta q h1 _ fun us W1 Fa stp1 sa1 hh => ?_⟩
    obtain ⟨u1, u2, rfl, r1, r2⟩ := hets2 hh
    cases r1
    obtain ⟨v', F1', F2', c1, c2, c3, c4⟩ := sa1.hold.at (hi q.2)
    have ev : v' = .ref p := by rw [a1] at c1; exact (Option.some.inj (Option.some.inj c1)).symm
    subst ev
    obtain ⟨p', vs', G2', e1, d2, rfl, d4⟩ := c2
    cases e1
    have hB : W1.B p = none := (sa1.fp.perm c3).fr p (by simp)
    obtain ⟨rfl, d5⟩ := d4.each
    refine ⟨p, vs', q.1.1, u2, rfl, rfl, d2, lim_lt (by rw [d4.len]; exact hc.1), hc.2.1, by have := hc.2.2; omega, ?_⟩
    have fpA : FpOk W1 [p] := (sa1.fp.perm c3).left
    have A4 : Owns (fun x => sh (E x)) ⟨upd W1.H p (.lst (vs'.take q.1.1.toNat ++ [u2] ++ vs'.drop q.1.1.toNat)), W1.B⟩ (vs'.take q.1.1.toNat ++ [u2] ++ vs'.drop q.1.1.toNat) ((get q.2).take q.1.1.toNat ++ [q.1.2.1] ++ (get q.2).drop q.1.1.toNat) [] :=
      Owns.of_each (W := ⟨upd W1.H p (.lst (vs'.take q.1.1.toNat ++ [u2] ++ vs'.drop q.1.1.toNat)), W1.B⟩) (((d5.take _).app (show Each (fun x => E x) W1.B [u2] [q.1.2.1] from ⟨r2, trivial⟩)).app (d5.drop _))
    obtain ⟨F', s', stp⟩ := sta_own (W' := ⟨upd W1.H p (.lst (vs'.take q.1.1.toNat ++ [u2] ++ vs'.drop q.1.1.toNat)), W1.B⟩) (F1' := [p]) (o' := lstO (fun x => sh (E x)) ((get q.2).take q.1.1.toNat ++ [q.1.2.1] ++ (get q.2).drop q.1.1.toNat)) [] sa1 (by rw [List.append_nil]; exact sa1.fp) c1 c3 c4 (wr_ok sa1.ok hB) rfl (fun a ha _ => upd_ne fun z => ha (z ▸ List.mem_cons_self)) wr_al
      ⟨fpA.nd, fun a ha => wr_al a (fpA.al a ha), fpA.fr⟩ (fun a ha => .inl ha) ⟨p, _, [], rfl, upd_same, rfl, A4⟩
    rw [List.append_nil] at stp
    exact k σ _ F' Keep.refl (stp1.trans stp) s'
  · cases h3
end
end CC
set_option maxHeartbeats 4000000
/-! while without leaving; walks over what a state def hands back; short lists as values. -/
namespace CC
open PySem PySem.Spec L2
open PyProof.Rows hiding St
variable {α β γ δ τ υ ω ρ ε : Type}
def whileF (c : τ → Option Bool) (f : τ → Option τ) : Nat → τ → Option τ
  | 0, _ => none
  | n + 1, s => (c s).bind fun b => bif b then (f s).bind fun s' => whileF c f n s' else some s
theorem whileGo_F {c : τ → Option Bool} {f : τ → Option τ} : ∀ (n : Nat) (s : τ), whileGo (ρ := Empty) c (fun s => (f s).bind fun s' => some (.nx s')) n s = (whileF c f n s).bind fun s' => some (.nx s')
  | 0, s => rfl
  | n + 1, s => by
    show (c s).bind (fun b => bif b then ((f s).bind fun s' => some (Out.nx s')).bind (fun o : Out τ Empty => o.step fun s' => whileGo c (fun s => (f s).bind fun s' => some (.nx s')) n s') else some (.nx s)) = ((c s).bind fun b => bif b then (f s).bind fun s' => whileF c f n s' else some s).bind _
    cases c s with
    | none => rfl
    | some b =>
      cases b with
      | false => rfl
      | true =>
        show ((f s).bind fun s' => some (Out.nx s')).bind _ = ((f s).bind fun s' => whileF c f n s').bind _
        cases f s with
        | none => rfl
        | some s' => exact whileGo_F n s'
section
variable {S : Stc} {Γ Δ : Ctx} {a b c e tg iter elt : Expr} {es ifs : List Expr} {pos : Pos} {st : Stmt} {rest A B : List Stmt}
theorem js_whileS {Γl : τ → Ctx} {mc : τ → Option Bool} {f : τ → Option τ} (n : Nat) (s0 : τ) (w : Weak Γ (Γl s0)) (hc : ∀ s, JT S c (Γl s) (mc s)) (hb : ∀ s, JB S A (Γl s) (f s) fun s' => .nx (Γl s')) :
    JS S (.While c A [] pos) Γ (whileF mc f n s0) fun s => .nx (Γl s) := fun σ W F sta z hz Ed k => by
  have h := js_while (ρ := Empty) (T := fun r => nomatch r) (f := fun s => (f s).bind fun s' => some (.nx s')) (pos := pos) (Γ := Γ) (Γl := Γl) n s0 w (fun r => nomatch r) hc fun s => JB.map (hb s) fun s' => rfl
  refine h σ W F sta (.nx z) ?_ Ed k
  rw [whileGo_F, hz]
  rfl
theorem ao_l2 {E : α → SP} {G : β → SP} {f : α → PV} {g : β → PV} (h : AnyOf E f) (k : AnyOf G g) : AnyOf (l2S E G) (fun p => PV.lst [f p.1, g p.2]) := ⟨fun B x v hx => by
  show anyP B (.lst _) v
  unfold anyP
  obtain ⟨a, vs, h1, h2, h3⟩ := hx
  obtain ⟨u, w, rfl, a1, a2⟩ := hts2 h3
  exact ⟨a, _, h1, h2, each_anys ⟨h.go B _ _ a1, k.go B _ _ a2, trivial⟩⟩⟩
theorem ao_l3 {E : α → SP} {G : β → SP} {I : γ → SP} {f : α → PV} {g : β → PV} {i : γ → PV} (h : AnyOf E f) (k : AnyOf G g) (l : AnyOf I i) : AnyOf (l3S E G I) (fun p => PV.lst [f p.1, g p.2.1, i p.2.2]) := ⟨fun B x v hx => by
  show anyP B (.lst _) v
  unfold anyP
  obtain ⟨a, vs, h1, h2, h3⟩ := hx
  obtain ⟨u, w, y, rfl, a1, a2, a3⟩ := hts3 h3
  exact ⟨a, _, h1, h2, each_anys ⟨h.go B _ _ a1, k.go B _ _ a2, l.go B _ _ a3, trivial⟩⟩⟩
end
section
variable {S : Stc} {Γ : τ → Ctx} {s : τ} {a b c e tg iter : Expr} {es ifs : List Expr} {pos : Pos}
theorem je_intB {m : Option (Bool × τ)} {p : Pos} (hm : S.mg "int" = none) (h : JE S a Γ s m fun x => sh (boolS x)) (hg : GlS S "int" := by rfl) (hs : ∀ env, starEach [a] env = [(false, eval a env)] := by intro _; rfl) : JE S (.Call (.Name "int" p) [a] [] pos) Γ s (m.bind fun q => some (b2i q.1, q.2)) fun z => sh (intS z) :=
  je_t1 (f := fun x : Bool => some (b2i x)) (fun X hX => call_int1) (fun W x v z ok hh e Q k => by
    cases e
    cases hh
    exact .inr ⟨_, rfl, k.val ok rfl⟩) hm h hg (by decide +kernel) (by decide) (by decide) hs
theorem jie_lst {m : Option (List α × τ)} {E : α → SP} (h : JE S iter Γ s m fun xs => sh (lstS E xs)) : JIE S tg iter Γ s m E := fun σ W F sta z hz R k => by
  refine ⟨iList S.K (tOf S iter), fun X hX => hX.K ▸ pi_list (peO hX), h.sh sta hz fun v W' F' stp sa r => ?_⟩
  obtain ⟨a, vs, rfl, h2, h3⟩ := r
  exact ⟨a, rfl, ⟨vs, .inl (.inl (sa.ok a _ h2))⟩, k _ W' F' stp sa (ok_list fun W1 c => ⟨c.1, vs, c.1 a _ (c.2 a _ h2), h3.mono c.2⟩)⟩
theorem jie_tup {m : Option (List α × τ)} {E : α → SP} (h : JE S iter Γ s m fun xs => sh (tupS E xs)) : JIE S tg iter Γ s m E := fun σ W F sta z hz R k => by
  refine ⟨iTup S.K (tOf S iter), fun X hX => hX.K ▸ pi_tup (peO hX), h.sh sta hz fun v W' F' stp sa r => ?_⟩
  obtain ⟨a, vs, rfl, h2, h3⟩ := r
  exact ⟨a, rfl, ⟨vs, .inl (.inl (sa.ok a _ h2))⟩, k _ W' F' stp sa (ok_tup fun W1 c => ⟨c.1, vs, c.1 a _ (c.2 a _ h2), h3.mono c.2⟩)⟩
/-- xs[b] = e with state -/
theorem js_setIE {x : Str} {p0 tpos : Pos} {E : α → SP} {mv : Option (α × τ)} {mi : τ → Option (Int × τ)} (i : Nat) (get : τ → List α) (h : JE S e Γ s mv fun x => CC.sh (E x)) (hb : ∀ s1, JE S b Γ s1 (mi s1) fun z => CC.sh (intS z)) (hi : ∀ s, (Γ s)[i]? = some (some (lstO (fun x => CC.sh (E x)) (get s))) := by intro _; rfl) (hN : S.N[i]? = some x := by rfl) (hv : Vis S.sc x := by first | exact Or.inl rfl | exact Or.inr (Or.inl rfl) | exact Or.inr (Or.inr rfl))
    (hd : (x == ("__debug__" : Str)) = false := by decide) (hcd : (x == ("__classdict__" : Str)) = false := by decide)
    (ha : ∀ env v, assign (.Subscript (.Name x p0) b tpos) env v = (do
      let ov ← holding [v] (eval (.Name x p0) env)
      let iv ← holding [v, ov] (eval b env)
      standAt tpos
      holding [v, ov, iv] (setItem ov iv v)
      release [v, ov, iv] []) := by intro _ _; rfl) (hs : ∀ env, swapsWithSole [.Subscript (.Name x p0) b tpos] e pos.line env = pure false := by intro _; rfl) (hw : ∀ env, swappedStores [.Subscript (.Name x p0) b tpos] e env = pure none := by intro _; rfl)
    (h1 : ∀ env, (assignEach [.Subscript (.Name x p0) b tpos] env).map (·.2) = [assign (.Subscript (.Name x p0) b tpos) env] := by intro _; rfl) :
    JS S (.Assign [.Subscript (.Name x p0) b tpos] e pos) (Γ s) (mv.bind fun q => (mi q.2).bind fun r => (setAt (get r.2) r.1 q.1).bind fun ys => some (ys, r.2)) fun q => .nx ((Γ q.2).set i (some (lstO (fun x => CC.sh (E x)) q.1))) := fun σ W F sta z hz Ed kk => by
  obtain ⟨q, m1, m2⟩ := run1 hz
  obtain ⟨r, m3, m4⟩ := run1 (f := fun r : Int × τ => (setAt (get r.2) r.1 q.1).bind fun ys => some (ys, r.2)) m2
  obtain ⟨ys, m5, m6⟩ := run1 (f := fun ys : List α => some (ys, r.2)) m4
  cases m6
  obtain ⟨j, j1, j2⟩ := run1 (f := fun j => some ((get r.2).set j q.1)) m5
  cases j2
  refine ⟨tAsg (tOf S e) (gSub (tVar i) (tOf S b) rSetL), fun X hX => ps_asg (peO hX) (pg_sub (pe_var (by rw [hX.N]; exact hN) (visS hv hX) hd hcd) (peO hX) set_list (ha _)) (hs _) (hw _) (h1 _), ?_⟩
  refine h.sh sta m1 fun u W1 Fa stp1 sa1 ru => ?_
  obtain ⟨v, F1, F2, a1, a2, a3, a4⟩ := sa1.hold.at (hi q.2)
  obtain ⟨p, vs, G2, rfl, b2, rfl, b4⟩ := a2
  refine ⟨.ref p, a1, ?_⟩
  refine (hb q.2).sh sa1 m3 fun t W2 Fb stp2 sa2 r2 => ?_
  cases r2
  obtain ⟨v', F1', F2', c1, c2, c3, c4⟩ := sa2.hold.at (hi r.2)
  have ev : v' = .ref p := by rw [a1] at c1; exact (Option.some.inj (Option.some.inj c1)).symm
  subst ev
  obtain ⟨p', vs', G2', e1, d2, rfl, d4⟩ := c2
  cases e1
  have hB : W2.B p = none := (sa2.fp.perm c3).fr p (by simp)
  obtain ⟨rfl, d5⟩ := d4.each
  refine ⟨p, vs', r.1, j, rfl, rfl, d2, by rw [d4.len]; exact j1, ?_⟩
  have fpA : FpOk W2 [p] := (sa2.fp.perm c3).left
  have A4 : Owns (fun x => CC.sh (E x)) ⟨upd W2.H p (.lst (vs'.set j u)), W2.B⟩ (vs'.set j u) ((get r.2).set j q.1) [] :=
    Owns.of_each (W := ⟨upd W2.H p (.lst (vs'.set j u)), W2.B⟩) (d5.set (SP.mono _ ru stp2.b) j)
  obtain ⟨F', s', stp⟩ := sta_own (W' := ⟨upd W2.H p (.lst (vs'.set j u)), W2.B⟩) (F1' := [p]) (o' := lstO (fun x => CC.sh (E x)) ((get r.2).set j q.1)) [] sa2 (by rw [List.append_nil]; exact sa2.fp) c1 c3 c4 (wr_ok sa2.ok hB) rfl (fun a ha _ => upd_ne fun z => ha (z ▸ List.mem_cons_self)) wr_al
    ⟨fpA.nd, fun a ha => wr_al a (fpA.al a ha), fpA.fr⟩ (fun a ha => .inl ha) ⟨p, _, [], rfl, upd_same, rfl, A4⟩
  rw [List.append_nil] at stp
  exact kk σ _ F' Keep.refl ((stp1.trans stp2).trans stp) s'
theorem je_notV {m : Option (Bool × τ)} (h : JE S e Γ s m fun z => sh (boolS z)) : JE S (.UnaryOp .Not e pos) Γ s (m.bind fun x => some (!x.1, x.2)) fun z => sh (boolS z) := JE.of_sh fun σ W F sta z hz Q k => by
  obtain ⟨x, h1, h2⟩ := run1 hz
  cases h2
  exact ⟨tNotV (tOf S e), fun X hX => pe_not (peO hX), h.sh sta h1 fun v W' F' stp sa r => ⟨x.1, r, k _ W' F' stp sa rfl⟩⟩
end
end CC
set_option maxHeartbeats 4000000
/-! list.remove of ints. -/
namespace CC
open PySem PySem.Spec L2
open PyProof.Rows hiding St
variable {α β γ δ τ υ ω ρ ε : Type}
def remM (xs : List Int) (k : Int) : Option (List Int) := (xs.findIdx? (fun z => z == k)).bind fun j => some (xs.eraseIdx j)
theorem each_intsV {B : Hp} : ∀ {vs : List V} {xs : List Int}, Each intS B vs xs → vs = xs.map V.int
  | [], [], _ => rfl
  | v :: vs, x :: xs, h => by
    have h1 : v = .int x := h.1
    rw [h1, List.map_cons, ← each_intsV h.2]
  | [], _ :: _, h => h.elim
  | _ :: _, [], h => h.elim
section
variable {S : Stc} {Γ Δ : Ctx} {a b c e tg iter elt : Expr} {es ifs : List Expr} {pos : Pos} {st : Stmt} {rest A B : List Stmt}
theorem js_remI {x : Str} {p0 apos cpos spos : Pos} {xs : List Int} {m : Option Int} (i : Nat) (h : JN S e Γ m fun z => sh (intS z)) (hi : Γ[i]? = some (some (lstO (fun x => sh (intS x)) xs)) := by rfl) (hN : S.N[i]? = some x := by rfl) (hv : Vis S.sc x := by first | exact Or.inl rfl | exact Or.inr (Or.inl rfl) | exact Or.inr (Or.inr rfl))
    (hd : (x == ("__debug__" : Str)) = false := by decide) (hcd : (x == ("__classdict__" : Str)) = false := by decide)
    (hbase : ∀ env, attributeBase (.Name x p0) "remove" env (eval (.Name x p0) env) = eval (.Name x p0) env := by intro _; rfl)
    (hfew : ∀ env, ((backTo cpos (starEach [e] env)).all (fun x => !x.1) && (backToKw cpos (keywordEach [] env)).all (fun x => x.1.isSome) && decide ([e].length + ([] : List Keyword).length + (if ([] : List Keyword).isEmpty then 0 else 1) < 30)) = true := by intro _; rfl)
    (hline : (apos.endLine == cpos.line) = true := by rfl) (hs : ∀ env, starEach [e] env = (false, eval e env) :: starEach [] env := by intro _; rfl) (hsw : ∀ env, swapsWith (.Call (.Attribute (.Name x p0) "remove" apos) [e] [] cpos) none spos.line env = pure false := by intro _; rfl) :
    JS S (.Expr (.Call (.Attribute (.Name x p0) "remove" apos) [e] [] cpos) spos) Γ (m.bind fun y => remM xs y) fun ys => .nx (Γ.set i (some (lstO (fun x => sh (intS x)) ys))) := fun σ W F sta z hz Ed k => by
  obtain ⟨y, h1, h2⟩ := run1 hz
  unfold remM at h2
  obtain ⟨j, j1, j2⟩ := run1 (f := fun j => some (xs.eraseIdx j)) h2
  cases j2
  obtain ⟨jl, j3, j4⟩ := List.findIdx?_eq_some_iff_getElem.mp j1
  refine ⟨tDrop (tBM S.K "list" rRemI (tVar i) (tCons (tOf S e) tNil)), fun X hX => ps_expr (hX.K ▸ pe_bm PySem.F.plainAttrs_list PySem.F.slot_list_remove PySem.F.type_list_remove mt_remove (pe_var (by rw [hX.N]; exact hN) (visS hv hX) hd hcd) (pa_cons (peO hX) pa_nil (hs _)) (hbase _) (hfew _) hline (hs _) rfl) (hsw _), ?_⟩
  obtain ⟨v, F1, F2, a1, a2, a3, a4⟩ := sta.hold.at hi
  obtain ⟨p, vs, G2, rfl, b2, rfl, b4⟩ := id a2
  refine ⟨.ref p, a1, .inl ⟨rfl, vs, .inl (.inl b2)⟩, h σ W F sta y h1 _ fun u W1 Fv ext fr fp r => ?_⟩
  obtain ⟨rfl, ru⟩ := r
  cases ru
  have sta1 := sta.ext ext
  obtain ⟨v', F1', F2', c1, c2, c3, c4⟩ := sta1.hold.at hi
  have ev : v' = .ref p := by rw [a1] at c1; exact (Option.some.inj (Option.some.inj c1)).symm
  subst ev
  obtain ⟨p', vs', G2', e1, d2, rfl, d4⟩ := c2
  cases e1
  have hB : W1.B p = none := (sta1.fp.perm c3).fr p (by simp)
  obtain ⟨rfl, d5⟩ := d4.each
  have ev := each_intsV d5
  subst ev
  refine ⟨p, xs, y, j, rfl, rfl, d2, ?_, fun m hm => ?_, ?_⟩
  · rw [List.getElem?_eq_getElem jl]
    have : (xs[j] == y) = true := j3
    rw [beq_iff_eq] at this
    rw [this]
  · have := j4 m hm
    rw [List.getElem?_eq_getElem (by omega)]
    intro z
    have := Option.some.inj z
    simp_all
  · have fpA : FpOk W1 [p] := (sta1.fp.perm c3).left
    have A4 : Owns (fun x => sh (intS x)) ⟨upd W1.H p (.lst ((xs.eraseIdx j).map V.int)), W1.B⟩ ((xs.eraseIdx j).map V.int) (xs.eraseIdx j) [] := by
      refine Owns.of_each (W := ⟨upd W1.H p (.lst ((xs.eraseIdx j).map V.int)), W1.B⟩) ?_
      have := d5.eraseIdx j
      rwa [L2.erase_mapI] at this
    obtain ⟨F', s', stp⟩ := sta_own (W' := ⟨upd W1.H p (.lst ((xs.eraseIdx j).map V.int)), W1.B⟩) (F1' := [p]) (o' := lstO (fun x => sh (intS x)) (xs.eraseIdx j)) [] sta1 (by rw [List.append_nil]; exact sta1.fp) c1 c3 c4 (wr_ok ext.ok hB) rfl (fun a ha _ => upd_ne fun z => ha (z ▸ List.mem_cons_self)) wr_al
      ⟨fpA.nd, fun a ha => wr_al a (fpA.al a ha), fpA.fr⟩ (fun a ha => .inl ha) ⟨p, _, [], rfl, upd_same, rfl, A4⟩
    rw [List.append_nil] at stp
    exact k σ _ F' Keep.refl (ext.stp0.trans stp) s'
end
end CC
set_option maxHeartbeats 4000000
/-! A walk over what a call that may raise returns. -/
namespace CC
open PySem PySem.Spec L2
open PyProof.Rows hiding St
variable {α β γ δ τ υ ω ρ ε : Type}
def JIX (S : Stc) (tg iter : Expr) (Γ : Ctx) (m : Option (Res ε (List α))) (E : α → SP) (Xp : ε → XP) : Prop :=
  ∀ σ W F, Sta Γ σ W F → ∀ r, m = some r → ∀ R : It → Hp → Prop, (match r with | .ok xs => ∀ J W', Ext W W' → ItOk J (fun W1 => Ex W1.B W1.H ∧ Ex W'.B W1.B) xs E → R J W'.H | .er e => ∀ c d W', Ext W W' → (Xp e).P W'.B c d → S.W c d σ W'.H) → tiOf S tg iter σ W.H R
section
variable {S : Stc} {Γ Δ : Ctx} {a b c e tg iter : Expr} {es : List Expr} {pos : Pos} {A : List Stmt}
theorem jix_tup {m : Option (Res ε (List α))} {E : α → SP} {Xp : ε → XP} (h : JNX S iter Γ m (fun xs => sh (tupS E xs)) Xp) : JIX S tg iter Γ m E Xp := fun σ W F st r hr R k => by
  refine ⟨iTup S.K (tOf S iter), fun X hX => hX.K ▸ pi_tup (peO hX), h σ W F st r hr _ ?_⟩
  cases r with
  | ok xs =>
    exact fun v W' Fv ext _ _ q => by
      obtain ⟨_, a, vs, rfl, h2, h3⟩ := q
      exact ⟨a, rfl, ⟨vs, .inl (.inl (ext.ok a _ h2))⟩, k _ W' ext (ok_tup fun W1 c => ⟨c.1, vs, c.1 a _ (c.2 a _ h2), h3.mono c.2⟩)⟩
  | er u => exact k
/-- only where it does not raise -/
theorem jn_part {m : Option (Res ε α)} {R : α → OP} {Xp : ε → XP} (h : JNX S e Γ m R Xp) : JN S e Γ (m.bind fun r => r.k (fun x => some x) fun _ => none) R := fun σ W F st x hx Q k => by
  obtain ⟨r, h1, h2⟩ := run1 hx
  cases r with
  | ok y =>
    cases h2
    exact h σ W F st (.ok x) h1 Q k
  | er u => cases h2
theorem js_forSX {mi : Option (Res ε (List α))} {E : α → SP} {up : α → Ctx → Ctx} {ws : List Nat} {Γl : τ → Ctx} {f : α → τ → Option τ} {Xp : ε → XP} (s0 : τ) (hi : JIX S tg iter Γ mi E Xp) (hg : JG S tg E up ws) (w : Weak Γ (Γl s0)) (hl : ∀ s, ∀ i ∈ ws, i < (Γl s).length)
    (hb : ∀ x s, JB S A (up x (Γl s)) (f x s) fun s' => .nx (Γl s')) (hs : ∀ env x, foldedSetIterable iter env x = pure x := by intro _ _; rfl) (hcm : S.calm = true := by rfl) : JS S (.For tg iter A [] pos) Γ (mi.bind fun r => r.k (fun xs => (foldGo f xs s0).bind fun s => some (Res.ok s)) fun e => some (Res.er e)) (XD Γl Γ Xp) := fun σ W F sta z hz Ed k => by
  obtain ⟨r, h1, h2⟩ := run1 hz
  cases r with
  | ok xs =>
    obtain ⟨s', h3, h4⟩ := run1 (f := fun s : τ => some (Res.ok (ε := ε) s)) h2
    cases h4
    have hi' : JI S tg iter Γ (mi.bind fun r => r.k (fun ys => some ys) fun _ => none) E := fun σ W F st ys hy R k => by
      rw [h1] at hy
      cases hy
      exact hi σ W F st (.ok xs) h1 R k
    exact js_forS (pos := pos) s0 hi' hg w hl hb hs hcm σ W F sta s' (by rw [h1]; exact h3) Ed k
  | er u =>
    cases h2
    exact ⟨tFor (tiOf S tg iter) (tgOf S tg) (tbOf S A), fun X hX => ps_for hX.pass (hX.calm.trans hcm) (piO hX) (pgO hX) (pbO hX) (hs _), hi σ W F sta (.er u) h1 _ fun c d W' ext hp => k c d σ W' F Keep.refl ext.stp0 (sta.ext ext) hp⟩
end
end CC
set_option maxHeartbeats 4000000
/-! list.extend with a tuple; slices with state. -/
namespace CC
open PySem PySem.Spec L2
open PyProof.Rows hiding St
variable {α β γ δ τ υ ω ρ ε : Type}
section
open PySem.AutoSeq1
theorem ext_tup (l : Addr) (items : Array Value) (n : Nat) (b : Addr) (items2 : Array Value) (n2 : Nat) (dc : Option Addr) (sl : Array (Option Value)) (hs0 : ¬(!items.isEmpty && Builtin.List.listTooLong (items.size + items2.size)) = true) (hs1 : items.size ≤ sizeLine) (hs2 : items.size + items2.size ≤ sizeLine + 1) :
    Meets (Builtin.«list.extend» ⟨[.ref l, .ref b], []⟩) (fun _ R s => s.heap.get? l = some { cls := .type "list", dict := none, data := .seq items n, slots := #[] } ∧ s.heap.get? b = some { cls := .type "tuple", dict := dc, data := .seq items2 n2, slots := sl } ∧ R (.ok (.ret Value.none)) { s with heap := s.heap.update l (Obj.mapSeq fun x => x ++ items2), toks := s.toks }) :=
  .of_wp fun prog w A R s h => by
    obtain ⟨hp, g, d, tk, os⟩ := s; obtain ⟨hl, hb, h⟩ := h; have f2 := AutoSeq1.sub_tuple_tuple; have f3 := AutoSeq1.sub_list_list; have f4 := AutoSeq1.sub_tuple_list; have f5 := AutoSeq1.sub_list_tuple
    have hz' : (items ++ items2).size ≤ sizeLine + 1 := by rw [Array.size_append]; exact hs2
    wp_walk using (wpAny_updateSeq hl rfl (hz := hs1) (_hz' := hz')), wpAny_loadPart' hl, wpAny_loadPart' hb; exact ⟨_, rfl, h⟩
end
def rExtT (K : PySem.W.Frag) : V → List V → Hp → VK → Prop := fun x vs H Q => ∃ l b xs zs, x = .ref l ∧ vs = [.ref b] ∧ H l = some (.lst xs) ∧ SqT K H b zs ∧ xs.length + zs.length ≤ sizeLine ∧ Q .non (upd H l (.lst (xs ++ zs)))
theorem mt_extT {X : Cx} : MtM X "list.extend" (rExtT X.K) := by
  intro pins s σ H x vs v us Q I rx rv h
  obtain ⟨l, b, xs, zs, rfl, rfl, hH, hB, hz, q⟩ := h
  cases rx
  obtain ⟨u, rfl, ru⟩ := rv.one
  cases ru
  obtain ⟨z, its, n, r, hl, e⟩ := I.lstM hH
  obtain ⟨its2, r2, ⟨o2, e2, hc2, n2, hd2⟩, _⟩ := I.tuple hB
  have hl2 := r2.length
  have hsz : its.toArray.size + its2.toArray.size ≤ sizeLine := by rw [List.size_toArray, List.size_toArray]; omega
  have hlong : ¬ (!its.toArray.isEmpty && Builtin.List.listTooLong (its.toArray.size + its2.toArray.size)) = true := by
    rw [notLongL hsz, Bool.and_false]
    exact Bool.false_ne_true
  obtain ⟨c2, dc, d2, sl⟩ := o2
  simp only at hc2 hd2
  subst hc2 hd2
  refine call_meets PySem.F.slot_list_extend ⟨_, e, rfl⟩ PySem.F.entry_list_extend (PySem.F.args_list_extend_2 _ _)
    (ext_tup l its.toArray n b its2.toArray n2 dc sl hlong (by rw [List.size_toArray]; omega) (by omega)) ⟨e, e2, ?_⟩
  refine ⟨.non, _, I.lset (its' := its ++ its2) hH e (by simp) (r.append r2) ?_, rfl, q⟩
  rw [List.length_append]
  omega
section
variable {S : Stc} {Γ : Ctx} {a b c e : Expr} {pos : Pos}
theorem js_extT {x : Str} {p0 apos cpos spos : Pos} {E : α → SP} {xs : List α} {m : Option (List α)} (i : Nat) (h : JN S e Γ m fun ys => sh (tupS E ys)) (hi : Γ[i]? = some (some (lstO (fun x => sh (E x)) xs)) := by rfl) (hN : S.N[i]? = some x := by rfl) (hv : Vis S.sc x := by first | exact Or.inl rfl | exact Or.inr (Or.inl rfl) | exact Or.inr (Or.inr rfl))
    (hd : (x == ("__debug__" : Str)) = false := by decide) (hcd : (x == ("__classdict__" : Str)) = false := by decide)
    (hbase : ∀ env, attributeBase (.Name x p0) "extend" env (eval (.Name x p0) env) = eval (.Name x p0) env := by intro _; rfl)
    (hfew : ∀ env, ((backTo cpos (starEach [e] env)).all (fun x => !x.1) && (backToKw cpos (keywordEach [] env)).all (fun x => x.1.isSome) && decide ([e].length + ([] : List Keyword).length + (if ([] : List Keyword).isEmpty then 0 else 1) < 30)) = true := by intro _; rfl)
    (hline : (apos.endLine == cpos.line) = true := by rfl) (hs : ∀ env, starEach [e] env = (false, eval e env) :: starEach [] env := by intro _; rfl) (hsw : ∀ env, swapsWith (.Call (.Attribute (.Name x p0) "extend" apos) [e] [] cpos) none spos.line env = pure false := by intro _; rfl) :
    JS S (.Expr (.Call (.Attribute (.Name x p0) "extend" apos) [e] [] cpos) spos) Γ (m.bind fun ys => catM xs ys) fun ys => .nx (Γ.set i (some (lstO (fun x => sh (E x)) ys))) := fun σ W F sta z hz Ed k => by
  obtain ⟨ys, h1, h2⟩ := run1 hz
  unfold catM at h2
  split at h2
  · rename_i hlen
    cases h2
    refine ⟨tDrop (tBM S.K "list" (rExtT S.K) (tVar i) (tCons (tOf S e) tNil)), fun X hX => ps_expr (hX.K ▸ pe_bm PySem.F.plainAttrs_list PySem.F.slot_list_extend PySem.F.type_list_extend mt_extT (pe_var (by rw [hX.N]; exact hN) (visS hv hX) hd hcd) (pa_cons (peO hX) pa_nil (hs _)) (hbase _) (hfew _) hline (hs _) rfl) (hsw _), ?_⟩
    obtain ⟨v, F1, F2, a1, a2, a3, a4⟩ := sta.hold.at hi
    obtain ⟨p, vs, G2, rfl, b2, rfl, b4⟩ := id a2
    refine ⟨.ref p, a1, .inl ⟨rfl, vs, .inl (.inl b2)⟩, h σ W F sta ys h1 _ fun u W1 Fv ext fr fp r => ?_⟩
    obtain ⟨rfl, q, us, rfl, r2, r3⟩ := r
    have sta1 := sta.ext ext
    obtain ⟨v', F1', F2', c1, c2, c3, c4⟩ := sta1.hold.at hi
    have ev : v' = .ref p := by rw [a1] at c1; exact (Option.some.inj (Option.some.inj c1)).symm
    subst ev
    obtain ⟨p', vs', G2', e1, d2, rfl, d4⟩ := c2
    cases e1
    have hB : W1.B p = none := (sta1.fp.perm c3).fr p (by simp)
    obtain ⟨rfl, d5⟩ := d4.each
    refine ⟨p, q, vs', us, rfl, rfl, d2, .inl (.inl (ext.ok q _ r2)), lim_le (by rw [d5.len, r3.len]; exact hlen), ?_⟩
    have fpA : FpOk W1 [p] := (sta1.fp.perm c3).left
    have A4 : Owns (fun x => sh (E x)) ⟨upd W1.H p (.lst (vs' ++ us)), W1.B⟩ (vs' ++ us) (xs ++ ys) [] :=
      Owns.of_each (W := ⟨upd W1.H p (.lst (vs' ++ us)), W1.B⟩) (d5.app r3)
    obtain ⟨F', s', stp⟩ := sta_own (W' := ⟨upd W1.H p (.lst (vs' ++ us)), W1.B⟩) (F1' := [p]) (o' := lstO (fun x => sh (E x)) (xs ++ ys)) [] sta1 (by rw [List.append_nil]; exact sta1.fp) c1 c3 c4 (wr_ok ext.ok hB) rfl (fun a ha _ => upd_ne fun z => ha (z ▸ List.mem_cons_self)) wr_al
      ⟨fpA.nd, fun a ha => wr_al a (fpA.al a ha), fpA.fr⟩ (fun a ha => .inl ha) ⟨p, _, [], rfl, upd_same, rfl, A4⟩
    rw [List.append_nil] at stp
    exact k σ _ F' Keep.refl (ext.stp0.trans stp) s'
  · cases h2
end
/-! ### a tuple turned round -/
section
variable {prog : Program} {w : World} {A : Around} {E : Value → Shared → Prop} {s : Shared}
theorem adjust_rev (n : Nat) : Builtin.Slice.sliceAdjust none none (-1) (n : Int) = ((n : Int) - 1, -1) := rfl
theorem places_rev (n : Nat) : Builtin.Slice.slicePlaces ((n : Int) - 1) (-1) (-1) = n := by
  unfold Builtin.Slice.slicePlaces
  rw [if_neg (by decide)]
  split
  · rw [show (-(-1 : Int)) = 1 by decide, Int.ediv_one]
    omega
  · omega
theorem sliceApplied_rev {sl : Addr} {vs : Value} {n : Nat} {Q : Int × Int × Nat → Shared → Prop} (hs : s.heap.IsSliceOf sl .none .none vs) (ps : IsPart vs (some (-1)))
    (h : Q ((n : Int) - 1, -1, n) s) : wpAny (model prog w) A (Builtin.Slice.sliceApplied (.ref sl) (pure (n : Int))) Q E s := by
  obtain ⟨os, hos, hcs, hds⟩ := id hs
  unfold Builtin.Slice.sliceApplied Builtin.Slice.sliceFields
  refine wpAny_bind (wpAny_bind (wpAny_field hos hds (x := .none) rfl (wpAny_bind (wpAny_field hos hds (x := .none) rfl (wpAny_bind (wpAny_field hos hds (x := vs) rfl (wpAny_pure ?_)))))))
  refine wpAny_bind (HT.slicePart_ ps ?_)
  show wpAny _ _ (if ((-1 : Int) == 0) = true then _ else _) _ _ s
  rw [if_neg (by decide)]
  refine wpAny_bind (slicePart_none (wpAny_bind (slicePart_none (wpAny_bind (wpAny_pure ?_)))))
  show wpAny _ _ (match Builtin.Slice.sliceAdjust none none (-1) (n : Int) with | (lo, hi) => pure (lo, (-1 : Int), Builtin.Slice.slicePlaces lo hi (-1))) _ _ s
  rw [adjust_rev n]
  show wpAny _ _ (pure ((n : Int) - 1, (-1 : Int), Builtin.Slice.slicePlaces ((n : Int) - 1) (-1) (-1))) _ _ s
  rw [places_rev]
  exact wpAny_pure h
theorem fm_congr {α β : Type} {f g : α → Option β} : ∀ {l : List α}, (∀ x ∈ l, f x = g x) → l.filterMap f = l.filterMap g
  | [], _ => rfl
  | x :: l, h => by
    rw [List.filterMap_cons, List.filterMap_cons, h x List.mem_cons_self, fm_congr fun y hy => h y (List.mem_cons_of_mem _ hy)]
theorem pick_rev (xs : Array Value) : ((List.range xs.size).filterMap fun (m : Nat) => xs[((xs.size : Int) - 1 + (m : Int) * (-1)).toNat]?).toArray = xs.toList.reverse.toArray := by
  congr 1
  have e := PySem.W.krv_all xs
  have e2 : xs.toList.reverse = ((List.range xs.size).reverse).filterMap (xs[·]?) := by rw [List.filterMap_reverse, e]
  rw [e2, ← PySem.W.krv_range, List.filterMap_map]
  refine fm_congr fun m hm => ?_
  have := List.mem_range.mp hm
  show _ = xs[xs.size - 1 - m]?
  congr 1
  omega
theorem getItem_tuple_rev {t sl : Addr} {items : Array Value} {vs : Value} {Q : Value → Shared → Prop} (ht : IsTup s.heap t items) (hs : s.heap.IsSliceOf sl .none .none vs) (ps : IsPart vs (some (-1)))
    (h : Q (.ref s.heap.objs.size) { s with heap := s.heap.push { cls := .type "tuple", data := .seq items.toList.reverse.toArray } })
    (hsz : items.size ≤ sizeLine) : wpAny (model prog w) A (getItem (.ref t) (.ref sl)) Q E s := by
  have htake : sizeOk (.seq items.toList.reverse.toArray) := by
    show items.toList.reverse.toArray.size ≤ sizeLine
    rw [List.size_toArray, List.length_reverse, Array.length_toList]
    exact hsz
  obtain ⟨os, hos, hcs, hds⟩ := id hs
  have hTs : s.TypeIs (.ref sl) "slice" := ⟨os, hos, hcs⟩
  unfold getItem
  try with_reducible refine wpAny_holding ?_
  first | refine wpAny_bind (wpAny_pure ?_) | skip
  refine wpAny_bind (wpAny_sequenceKey ht.typeIs (by decide) ?_)
  refine wpAny_bind (wpAny_callSpecial?_slot (name := Str.ofString "__getitem__") ht.typeIs PyProof.Rows.slot_tuple_getitem
    (wpAny_call_entry PyProof.Rows.slot_tuple_getitem ht.typeIs entry_tuple_getitem ?_ (args_tuple_getitem _ _)))
  show wpAny _ _ (Builtin.Tuple.tupleItemsOf (.ref t) >>= _) _ _ s
  refine wpAny_bind (tupleItemsOf_ ht ?_)
  refine wpAny_bind (wpAny_typeOf hTs ?_)
  rw [if_pos (by decide)]
  refine wpAny_bind (sliceApplied_rev hs ps ?_)
  have hno : ¬ ((((items.size : Int) - 1) == 0 && (-1 : Int) == 1 && items.size == items.size) = true) := by
    rw [show ((-1 : Int) == 1) = false from rfl, Bool.and_false, Bool.false_and]
    exact Bool.false_ne_true
  show wpAny _ _ (if (((items.size : Int) - 1) == 0 && (-1 : Int) == 1 && items.size == items.size) = true then _ else _) _ _ s
  rw [if_neg hno, pick_rev]
  first
    | exact wpAny_bind (m := Builtin.Tuple.tupleExact _) (wpAny_newObj_type (wpAny_pure ⟨_, rfl, wpAny_pure h⟩) htake)
    | exact wpAny_bind (m := Builtin.Tuple.tupleExact _) (wpAny_newObj_type (wpAny_bind (wpAny_pure (wpAny_pure ⟨_, rfl, wpAny_pure h⟩))) htake)
    | exact wpAny_bind (wpAny_bind (m := Builtin.Tuple.tupleExact _) (wpAny_newObj_type (wpAny_pure (wpAny_pure ⟨_, rfl, wpAny_pure h⟩)) htake))
    | exact wpAny_bind (wpAny_bind (m := Builtin.Tuple.tupleExact _) (wpAny_newObj_type (wpAny_pure ⟨_, rfl, wpAny_pure h⟩) htake))
end
def tRevT (K : PySem.W.Frag) (te : TE) : TE := fun σ H Q => te σ H fun x H1 => ∃ a xs, x = .ref a ∧ SqT K H1 a xs ∧ ∀ p, H1 p = none → Q (.ref p) (upd H1 p (.tup xs.reverse))
theorem pe_revT {X : Cx} {e : Expr} {te : TE} {k : Nat} {p1 p2 p3 pos : Pos} (he : PE X e te) : PE X (.Subscript e (.Slice none none (some (.UnaryOp .USub (.Constant (.int 1) k p1) p2)) p3) pos) (tRevT X.K te) := by
  refine ⟨fun pins s σ H Q I h => ?_⟩
  refine Subscript_ (thn (he.run pins s σ H _ I h) fun v s1 ⟨x, H1, I1, r1, q1⟩ => ?_)
  obtain ⟨a, xs, ex, hx, q⟩ := q1
  subst ex
  cases r1
  have hst : PO X (some (.UnaryOp .USub (.Constant (.int 1) k p1) p2)) (tPart (tUn (rU fun i => .int (-i)) (tC (.int 1)))) := po_some (pe_un un_neg pe_int)
  refine wpAny_Slice (thn (po_none.run pins s1 σ H1 (fun o H2 => o = none ∧ H2 = H1) I1 ⟨rfl, rfl⟩) fun vl s2 ⟨l, H2, I2, pl, el, e2⟩ => ?_)
  subst el e2
  refine thn (po_none.run pins s2 σ H2 (fun o H3 => o = none ∧ H3 = H2) I2 ⟨rfl, rfl⟩) fun vu s3 ⟨u, H3, I3, pu, eu, e3⟩ => ?_
  subst eu e3
  refine thn (hst.run pins s3 σ H3 (fun o H4 => o = some (-1) ∧ H4 = H3) I3 ⟨1, rfl, -1, rfl, rfl, rfl⟩) fun vs s4 ⟨o, H4, I4, ps, eo, e4⟩ => ?_
  subst eo e4
  have I5 : Inv X pins σ H4 { s4 with heap := s4.heap.push { cls := .type "slice", data := .fields #[vl, vu, vs] } } := I4.kept (t' := s4.toks) fun b ob q => Heap.get?_push_of_some _ q
  obtain ⟨its, r, ht, hz⟩ := I5.tuple hx
  have hlen := r.length
  cases pl
  cases pu
  show wpAny (model X.prog X.w) X.A (subscriptTail e (.Slice none none (some (.UnaryOp .USub (.Constant (.int 1) k p1) p2)) p3) (.ref a) (.ref s4.heap.objs.size)) (EP X pins σ Q) X.xe { s4 with heap := s4.heap.push { cls := .type "slice", data := .fields #[.none, .none, vs] } }
  refine tail_any (ops := [.ref a, .ref s4.heap.objs.size]) ht.typeIs (PyProof.Rows.slot_tuple_getitem.lookup) ?_ (by with_unfolding_all rfl)
  refine getItem_tuple_rev ht (Heap.IsSliceOf.new _ .none .none vs) ps ?_ (by rw [List.size_toArray]; omega)
  refine ⟨.ref _, _, I5.laid (t' := s4.toks) (o := .tup xs.reverse) (fun b ob q => Heap.get?_push_of_some _ q) (Nat.le_refl _) ?_, rfl, q _ (I5.hok.fresh (Nat.le_refl _))⟩
  exact ⟨by rw [List.length_reverse]; exact hz, _, r.reverse, IsTup.new _ _⟩
theorem jn_revT {S : Stc} {Γ : Ctx} {a : Expr} {pos : Pos} {E : α → SP} {m : Option (List α)} {k : Nat} {p1 p2 p3 : Pos} (h : JN S a Γ m fun x => sh (tupS E x)) : JN S (.Subscript a (.Slice none none (some (.UnaryOp .USub (.Constant (.int 1) k p1) p2)) p3) pos) Γ (m.bind fun xs => some xs.reverse) (fun x => sh (tupS E x)) := fun σ W F sta z hz Q kq => by
  obtain ⟨x, h1, h2⟩ := run1 hz
  cases h2
  refine ⟨tRevT S.K (tOf S a), fun X hX => hX.K ▸ pe_revT (peO hX), h σ W F sta x h1 _ fun v W' Fv ext _ _ r => ?_⟩
  obtain ⟨_, p, vs, rfl, q2, q3⟩ := r
  exact ⟨p, vs, rfl, .inl (.inl (ext.ok p _ q2)), (kq.ext ext).newT ext.ok q3.rev⟩
/-! ### slices -/
section
variable {S : Stc} {Γ : τ → Ctx} {s : τ} {a b c e : Expr} {pos : Pos}
def JOE (S : Stc) (o : Option Expr) (Γ : τ → Ctx) (s : τ) (m : Option (Option Int × τ)) : Prop :=
  ∀ σ W F, Sta (Γ s) σ W F → ∀ x, m = some x → ∀ Q : Option Int → Hp → Prop, (∀ W' F', Stp W F W' F' → Sta (Γ x.2) σ W' F' → Q x.1 W'.H) → toOf S o σ W.H Q
theorem joe_none : JOE S none Γ s (some (none, s)) := fun σ W F st x hx Q k => by
  cases hx
  exact ⟨tNoPart, fun _ _ => po_none, k W F (Stp.refl st.ok) st⟩
theorem joe_some {m : Option (Int × τ)} (h : JE S e Γ s m fun z => sh (intS z)) : JOE S (some e) Γ s (m.bind fun x => some (some x.1, x.2)) := fun σ W F st x hx Q k => by
  obtain ⟨y, h1, h2⟩ := run1 hx
  cases h2
  exact ⟨tPart (tOf S e), fun X hX => po_some (peO hX), h.sh st h1 fun v W' F' stp sa r => ⟨y.1, r, k W' F' stp sa⟩⟩
theorem je_slL {E : α → SP} {lo hi : Option Expr} {p2 : Pos} {ma : Option (List α × τ)} {ml mh : τ → Option (Option Int × τ)} (h : JE S a Γ s ma fun x => sh (lstS E x)) (hl : ∀ s1, JOE S lo Γ s1 (ml s1)) (hh : ∀ s1, JOE S hi Γ s1 (mh s1)) : JE S (.Subscript a (.Slice lo hi none p2) pos) Γ s (ma.bind fun p => (ml p.2).bind fun l => (mh l.2).bind fun u => some (cutL p.1 l.1 u.1, u.2)) (lstO fun x => sh (E x)) := fun σ W F sta z hz Q k => by
  obtain ⟨p, h1, h2⟩ := run1 hz
  obtain ⟨l, h3, h4⟩ := run1 (f := fun l : Option Int × τ => (mh l.2).bind fun u => some (cutL p.1 l.1 u.1, u.2)) h2
  obtain ⟨u, h5, h6⟩ := run1 (f := fun u : Option Int × τ => some (cutL p.1 l.1 u.1, u.2)) h4
  cases h6
  refine ⟨tSl (rSlL S.K) (tOf S a) (toOf S lo) (toOf S hi), fun X hX => hX.K ▸ pe_slice sl_list (peO hX) (poO hX) (poO hX), h.sh sta h1 fun v W1 F1 stp1 sa1 r => ?_⟩
  obtain ⟨q, vs, rfl, q2, q4⟩ := r
  refine hl p.2 σ W1 F1 sa1 l h3 _ fun W2 F2 stp2 sa2 => ?_
  refine hh l.2 σ W2 F2 sa2 u h5 _ fun W3 F3 stp3 sa3 => ?_
  have eb := stp2.b.trans stp3.b
  have kq : Got (lstO (fun x => sh (E x)) (cutL p.1 l.1 u.1)) W3 Q := fun t W4 Fv ext fr fp rr => k t W4 F3 Fv (((stp1.trans stp2).trans stp3).trans (ext.stp fr)) (sa3.ext ext) (sa3.fp.fresh ext fp fr) rr
  exact ⟨q, vs, rfl, .inl (.inl (sa3.ok q _ (eb q _ q2))), kq.newL sa3.ok (each_cut (q4.mono eb) l.1 u.1)⟩
theorem je_slT {E : α → SP} {lo hi : Option Expr} {p2 : Pos} {ma : Option (List α × τ)} {ml mh : τ → Option (Option Int × τ)} (h : JE S a Γ s ma fun x => sh (tupS E x)) (hl : ∀ s1, JOE S lo Γ s1 (ml s1)) (hh : ∀ s1, JOE S hi Γ s1 (mh s1)) : JE S (.Subscript a (.Slice lo hi none p2) pos) Γ s (ma.bind fun p => (ml p.2).bind fun l => (mh l.2).bind fun u => some (cutL p.1 l.1 u.1, u.2)) (fun x => sh (tupS E x)) := fun σ W F sta z hz Q k => by
  obtain ⟨p, h1, h2⟩ := run1 hz
  obtain ⟨l, h3, h4⟩ := run1 (f := fun l : Option Int × τ => (mh l.2).bind fun u => some (cutL p.1 l.1 u.1, u.2)) h2
  obtain ⟨u, h5, h6⟩ := run1 (f := fun u : Option Int × τ => some (cutL p.1 l.1 u.1, u.2)) h4
  cases h6
  refine ⟨tSl (rSlA S.K) (tOf S a) (toOf S lo) (toOf S hi), fun X hX => hX.K ▸ pe_slice sl_tupA (peO hX) (poO hX) (poO hX), h.sh sta h1 fun v W1 F1 stp1 sa1 r => ?_⟩
  obtain ⟨q, vs, rfl, q2, q4⟩ := r
  refine hl p.2 σ W1 F1 sa1 l h3 _ fun W2 F2 stp2 sa2 => ?_
  refine hh l.2 σ W2 F2 sa2 u h5 _ fun W3 F3 stp3 sa3 => ?_
  have eb := stp2.b.trans stp3.b
  have kq : Got (sh (tupS E (cutL p.1 l.1 u.1))) W3 Q := fun t W4 Fv ext fr fp rr => k t W4 F3 Fv (((stp1.trans stp2).trans stp3).trans (ext.stp fr)) (sa3.ext ext) (sa3.fp.fresh ext fp fr) rr
  have q2' := eb q _ q2
  have q4' := q4.mono eb
  refine ⟨q, vs, rfl, .inl (.inl (sa3.ok q _ q2')), fun hw => ?_, fun _ => kq.newT sa3.ok (each_cut q4' l.1 u.1)⟩
  rw [q4.len] at hw
  refine kq.val sa3.ok ?_
  rw [cutL_all hw]
  exact ⟨q, vs, rfl, q2', q4'⟩
end
end CC
set_option maxHeartbeats 4000000
/-! Targets of any number. -/
namespace CC
open PySem PySem.Spec L2
open PyProof.Rows hiding St
variable {α β γ δ τ υ ω ρ ε : Type}
section
variable {S : Stc} {e : Expr} {es : List Expr} {pos : Pos}
def tgsOf (S : Stc) (es : List Expr) (vs : List V) (σ : L2.St) (H : Hp) (Q : L2.St → Hp → Prop) : Prop := ∃ t : TGs, (∀ X, S.In X → PGs X es t) ∧ t vs σ H Q
def JGs (S : Stc) (es : List Expr) (G : α → List SP) (up : α → Ctx → Ctx) (ws : List Nat) : Prop :=
  ∀ Γ σ W F x vs, Sta Γ σ W F → (∀ i ∈ ws, i < Γ.length) → Hets W.B vs (G x) → ∀ Q : L2.St → Hp → Prop, (∀ σ' F', (∀ vs : List Nat, (∀ i ∈ ws, i ∈ vs) → wipe σ' vs = wipe σ vs) → Keep S.prot σ σ' → Sta (up x Γ) σ' W F' → (∀ a ∈ F', a ∈ F) → Q σ' W.H) → tgsOf S es vs σ W.H Q
theorem jgs_nil : JGs S [] (fun _ : Unit => []) (fun _ Γ => Γ) [] := fun Γ σ W F x vs st _ h Q k => by
  cases vs with
  | nil => exact ⟨gNil, fun _ _ => pgs_nil, rfl, k σ F (fun _ _ => rfl) Keep.refl st fun _ h => h⟩
  | cons _ _ => exact h.elim
theorem pgsO {X : Cx} (h : S.In X) : PGs X es (tgsOf S es) := ⟨fun pins s σ H vs us Q I r ⟨_, p, q⟩ => (p X h).run pins s σ H vs us Q I r q⟩
theorem jgs_cons {E : α → SP} {G : β → List SP} {up : α → Ctx → Ctx} {up2 : β → Ctx → Ctx} {ws ws2 : List Nat} (h : JG S e E up ws) (k : JGs S es G up2 ws2) (hlen : ∀ a Γ, (up a Γ).length = Γ.length := by intro _ _; simp)
    (hs : ∀ env, (assignEach (e :: es) env).map (·.2) = assign e env :: (assignEach es env).map (·.2) := by intro _; rfl) : JGs S (e :: es) (fun p : α × β => E p.1 :: G p.2) (fun p Γ => up2 p.2 (up p.1 Γ)) (ws ++ ws2) := fun Γ σ W F x vs st hl hh Q kk => by
  cases vs with
  | nil => exact hh.elim
  | cons v vs =>
    refine ⟨gCons (tgOf S e) (tgsOf S es), fun X hX => pgs_cons (pgO hX) (pgsO hX) (hs _), v, vs, rfl, ?_⟩
    refine h Γ σ W F x.1 v st (fun i hi => hl i (List.mem_append_left _ hi)) hh.1 _ fun σ1 F1 w1 k1 s1 sub1 => ?_
    refine k (up x.1 Γ) σ1 W F1 x.2 vs s1 (fun i hi => by rw [hlen]; exact hl i (List.mem_append_right _ hi)) hh.2 Q fun σ2 F2 w2 k2 s2 sub2 => ?_
    exact kk σ2 F2 (fun us hu => (w2 us fun i hi => hu i (List.mem_append_right _ hi)).trans (w1 us fun i hi => hu i (List.mem_append_left _ hi))) (k1.trans k2) s2 fun b hb => sub1 b (sub2 b hb)
theorem jg_tupN {P : γ → SP} {G : α → List SP} {up : α → Ctx → Ctx} {ws : List Nat} {n k : Nat} (g : γ → α) (h : JGs S es G up ws) (hP : ∀ y, P y = htupS (G (g y)) := by intro _; rfl) (hn : ∀ y, (G (g y)).length = n := by intro _; rfl)
    (hl : ∀ env, (assignEach es env).length = n := by intro _; rfl) (hst : ∀ env, (assignEach es env).findIdx? (·.1) = none := by intro _; rfl) (hcm : S.calm = true := by rfl) : JG S (.Tuple es k pos) P (fun y Γ => up (g y) Γ) ws := fun Γ σ W F q v st hi hh Q kk => by
  rw [hP] at hh
  obtain ⟨a, vs, rfl, h2, h3⟩ := hh
  have hlen : vs.length = n := by rw [← hn q]; exact h3.len
  refine ⟨gTup S.K n (tgsOf S es), fun X hX => hX.K ▸ pg_tup (hX.calm.trans hcm) (pgsO hX) (hl _) (hst _), a, vs, rfl, .inl (.inl (st.ok a _ h2)), hlen, ?_⟩
  exact h Γ σ W F (g q) vs st hi h3 Q kk
end
end CC
set_option maxHeartbeats 4000000
/-! An own exception whose __init__ says super().__init__(text), then stores attributes. -/
namespace CC
open PySem PySem.Spec L2
open PyProof.Rows hiding St
open PySem.W (kxs_mw)
/-- what is told of such a class -/
structure SupK (P : Program) (K : PySem.W.Frag) (C cc cda : Addr) : Prop where
  cd : ∃ cd, PySem.W.clsIn K C = some cd ∧ PySem.W.alongIn K "__init__" ((cd.mro.dropWhile (· != .ref C)).drop 1) = some (some (.builtin "ValueError.__init__"))
  sub : PySem.W.mroIn K C (.ref C) = some true
  ve : PySem.W.subIn K (.ref C) (.type "ValueError") = some true
  cell : ∃ cl cld csl, K.lookup cc = some ⟨cl, cld, .cell (some (.ref C)), csl⟩
  code : ∃ ccl cdd vs ccs file tf, K.lookup cda = some ⟨ccl, cdd, .fields vs, ccs⟩ ∧ vs[2]? = some (.str file tf) ∧ ((P.main.file : Str) == file) = true
  any : PySem.W.nsIn K cStatics "thirdparty.any" = some none
  top : (P.main.scope.names.lookup ("super" : Str)).isSome = false
section
variable {X : Cx} {pins : List (Addr × Obj)} {σ : L2.St} {H : Hp} {s : Shared} {a C cc cda fI u : Addr} {E : Value → Shared → Prop} {A : Around}
/-- ValueError.__init__ bound to an exception, called -/
theorem call_mw {us : List Value} {Q : Value → Shared → Prop} (T : OexC X.K C) (I : Inv X pins σ H s) (e : H a = some (exo a C none)) (hu : s.heap.get? u = some (kxs_mw "ValueError.__init__" a)) (hl : us.length ≤ sizeLine) (h : ∀ s', Inv X pins σ H s' → Q .none s') :
    wpAny (model X.prog X.w) A (call (.ref u) us) Q E s := by
  obtain ⟨nm, q, N, bs, bm, sn, sub, ab, col, dd, k0, k1, k2, k3, k5, hC, hbm⟩ := T.cls
  obtain ⟨t1, ho⟩ := exo_at I.hok e
  obtain ⟨hp, g, d, t, os⟩ := s
  have FB := F.excBase_ValueError
  refine wpAny_call (codeAny_of_tree ?_)
  show wpAny _ A.in1 (callAny (.ref u) ⟨us, []⟩) _ _ _
  simp only [callAny]
  refine wpAny_bind (wpAny_load hu ?_)
  simp only [kxs_mw, show (Value.type "method-wrapper" == Value.type "method" || Value.type "method-wrapper" == Value.type "builtin_function_or_method" || Value.type "method-wrapper" == Value.type "method-wrapper") = true by decide, if_true]
  refine PySem.W.KFB.if_so (by decide) ?_
  refine wpAny_bind (PySem.W.check_bound_init FB.toExcCallFacts (I.kIn _ _ hC) ho rfl ?_)
  refine wpAny_bind (wpAny_pure (wpAny_pure ?_))
  refine ⟨plainId_quiet FB.init.plain _, codeAny_builtin FB.initEntry ?_⟩
  refine PySem.W.exc_init_tree (cls := .ref C) (t0 := t1) (dv := none) (c2 := .none) (c3 := .none) (b4 := .bool false) ho hl fun h' k hx _ => ?_
  have J := I.write (t' := t) (x := a) (e := a) (o := exo a C none) (by rw [e]; exact True.intro) (.inl rfl) k ⟨_, hx⟩ (exo_ok hx)
  have eu : upd H a (exo a C none) = H := by
    funext b
    by_cases hb : b = a
    · rw [hb, upd_same, e]
    · rw [upd_ne hb]
  rw [eu] at J
  exact h _ J
theorem exo_inst {t1 : Addr} {h : Heap} (ho : h.get? a = some ({ cls := .ref C, dict := none, data := .fields #[.ref t1, .none, .none, .none, .bool false, .none] } : Obj)) : PySem.W.InstAt h a ({ cls := .ref C, dict := none, data := .fields #[.ref t1, .none, .none, .none, .bool false, .none] } : Obj) C none := ⟨ho, rfl, rfl, trivial⟩
/-- super() in its __init__ -/
theorem sup_node {qual attr : Str} {scope : Scope} {L : Addr} {whole : Sem Value} {body : List Stmt} {p0 p1 : Pos} {oc : Value} {od : Option Addr} {osl : Array (Option Value)} {fd : FuncData} {ar : Arg} {Q : Value → Shared → Prop} (I : Inv X pins σ H s) (T : OexC X.K C) (SK : SupK X.prog X.K C cc cda) (henv : X.env = PySem.W.envX qual scope L fI (.ref cda) [("__class__", cc)])
    (lkf : X.K.lookup fI = some ⟨oc, od, .func fd, osl⟩) (hp : (fd.params.posonlyargs ++ fd.params.args).head? = some ar) (hN : X.N[0]? = some ar.arg) (hs0 : σ[0]? = some (some (.ref a))) (ea : H a = some (exo a C none)) (hms : X.mg "super" = none)
    (hat : (attr == ("__class__" : Str)) = false) (hks : scope.names.lookup ("super" : Str) = some .globalImplicit) (hkc : scope.names.lookup ("__class__" : Str) = some .free) (hka : scope.names.lookup ar.arg = some .local)
    (h : ∀ so s', Inv X pins σ H s' → s'.heap.get? so = some (PySem.W.ks_superObj C a C) → (∀ b o, s.heap.get? b = some o → s'.heap.get? b = some o) → Q (.ref so) s') :
    _root_.PySem.wpAt (model X.prog X.w) X.A (.func body X.env) (attributeBase (.Call (.Name "super" p0) [] [] p1) attr X.env whole) Q E s := by
  have KX := I.kIn
  obtain ⟨mb, b1, b2⟩ := I.mod.blt
  have hk : scope.kind = .function := by
    have := I.ok.kind
    rw [henv] at this
    exact this
  obtain ⟨cd, hcd, hal⟩ := SK.cd
  obtain ⟨cl, cld, csl, hcell⟩ := SK.cell
  obtain ⟨ccl, cdd, vs, ccs, file, tf, hcode, hvs, hfile⟩ := SK.code
  obtain ⟨t1, ho⟩ := exo_at I.hok ea
  obtain ⟨oD, hD1, hD2⟩ : ∃ oD, s.heap.get? C = some oD ∧ oD.data = .cls cd := by
    unfold PySem.W.clsIn at hcd
    split at hcd
    · rename_i c d cd' sl ho'
      cases hcd
      exact ⟨_, KX _ _ ho', rfl⟩
    · cases hcd
  obtain ⟨m, hn, hl⟩ := I.loc
  have hvis : Vis X.env.scope ar.arg := by rw [henv]; exact .inl hka
  obtain ⟨u0, r0, l0⟩ := hl 0 ar.arg (.ref a) hN hs0 hvis
  have r0 : u0 = .ref a := r0
  subst r0
  have hm : m ar.arg = some (.ref a) := by
    rcases l0 with ⟨_, hm⟩ | ⟨hk', _⟩
    · exact hm
    · rw [henv] at hk'
      have hk' : scope.names.lookup ar.arg = some .cell ∨ scope.names.lookup ar.arg = some .free := hk'
      rw [hka] at hk'
      rcases hk' with z | z <;> cases z
  have G := I.mod.glob.keeps I.bk
  have B := b1.keeps I.bk
  have hgl := I.ok.glob
  have hbl := I.ok.blt
  rw [henv] at hn ⊢
  have hI := I
  obtain ⟨hh, g, d, t, os⟩ := s
  refine PySem.ks_wpAt_super_base (env := PySem.W.envX qual scope L fI (.ref cda) [("__class__", cc)]) hks hkc hat rfl (KX _ _ lkf) rfl hp rfl (KX _ _ hcode) rfl hvs hfile SK.top ?_
  refine PySem.W.ks_loadName_global hk hks (Calls.loadGlobal_builtin (env := PySem.W.envX qual scope L fI (.ref cda) [("__class__", cc)]) G hms B ((b2 _ (by decide +kernel)).trans (by decide +kernel)) ⟨rfl, ?_⟩)
  refine wpAny_loadName_free hk hkc rfl ⟨_, KX _ _ hcell, rfl⟩ ?_
  refine wpAny_loadName_local hk hka hn hm ?_
  refine PySem.ks_wpAny_isType_cls hD1 hD2 ⟨rfl, ?_⟩
  refine PySem.ks_wpAny_call_super hD1 hD2 ho rfl (fun c e => nomatch e) (PySem.W.looks_mroIn KX SK.sub) (fun h' e k => ?_)
  exact h _ _ (hI.kept k) e k
theorem Inv.pinned {q : Addr} {o : Obj} (I : Inv X pins σ H s) (hq : s.heap.get? q = some o) (hn : H q = none) (hl : q ≠ X.env.locals) (hf : q ∉ X.fs) (hc : ∀ v, o.data ≠ .cell v) : Inv X ((q, o) :: pins) σ H s :=
  have key : ∀ p ∈ X.pn ++ (q, o) :: pins, s.heap.get? p.1 = some p.2 ∧ H p.1 = none ∧ p.1 ≠ X.env.locals ∧ p.1 ∉ X.fs ∧ ∀ v, p.2.data ≠ .cell v := fun p hp => by
    rcases List.mem_append.mp hp with hp | hp
    · exact I.pin p (List.mem_append_left _ hp)
    · rcases List.mem_cons.mp hp with rfl | hp
      · exact ⟨hq, hn, hl, hf, hc⟩
      · exact I.pin p (List.mem_append_right _ hp)
  ⟨I.ok, I.os, I.bare, I.base, I.loc, I.cell, I.free, I.freeC, key, I.hok, I.len⟩
theorem Inv.unpin {p0 : Addr × Obj} (I : Inv X (p0 :: pins) σ H s) : Inv X pins σ H s :=
  have key : ∀ p ∈ X.pn ++ pins, s.heap.get? p.1 = some p.2 ∧ H p.1 = none ∧ p.1 ≠ X.env.locals ∧ p.1 ∉ X.fs ∧ ∀ v, p.2.data ≠ .cell v := fun p hp => I.pin p (by
    rcases List.mem_append.mp hp with hp | hp
    · exact List.mem_append_left _ hp
    · exact List.mem_append_right _ (List.mem_cons_of_mem _ hp))
  ⟨I.ok, I.os, I.bare, I.base, I.loc, I.cell, I.free, I.freeC, key, I.hok, I.len⟩
/-- super().__init__(text) -/
theorem sup_stmt {qual z : Str} {scope : Scope} {L : Addr} {body : List Stmt} {p0 p1 apos cp cpos spos : Pos} {ck : Nat} {oc : Value} {od : Option Addr} {osl : Array (Option Value)} {fd : FuncData} {ar : Arg} (I : Inv X pins σ H s) (T : OexC X.K C) (SK : SupK X.prog X.K C cc cda) (henv : X.env = PySem.W.envX qual scope L fI (.ref cda) [("__class__", cc)])
    (lkf : X.K.lookup fI = some ⟨oc, od, .func fd, osl⟩) (hp : (fd.params.posonlyargs ++ fd.params.args).head? = some ar) (hN : X.N[0]? = some ar.arg) (hs0 : σ[0]? = some (some (.ref a))) (ea : H a = some (exo a C none)) (hms : X.mg "super" = none)
    (hks : scope.names.lookup ("super" : Str) = some .globalImplicit) (hkc : scope.names.lookup ("__class__" : Str) = some .free) (hka : scope.names.lookup ar.arg = some .local)
    (hsw : swapsWith (.Call (.Attribute (.Call (.Name "super" p0) [] [] p1) "__init__" apos) [.Constant (.str z) ck cp] [] cpos) none spos.line X.env = pure false)
    (he : ∃ pl, eval (.Call (.Attribute (.Call (.Name "super" p0) [] [] p1) "__init__" apos) [.Constant (.str z) ck cp] [] cpos) X.env = (do
      let ov ← attributeBase (.Call (.Name "super" p0) [] [] p1) "__init__" X.env (eval (.Call (.Name "super" p0) [] [] p1) X.env)
      standAt apos.atName
      let (f, first) ← holding [ov] (getMethod ov "__init__" pl)
      callWith cpos f first (backTo cpos (starEach [.Constant (.str z) ck cp] X.env)) []))
    (hst : starEach [.Constant (.str z) ck cp] X.env = (false, eval (.Constant (.str z) ck cp) X.env) :: starEach [] X.env) :
    _root_.PySem.wpAt (model X.prog X.w) X.A (.func body X.env) (exec (.Expr (.Call (.Attribute (.Call (.Name "super" p0) [] [] p1) "__init__" apos) [.Constant (.str z) ck cp] [] cpos) spos) X.env) (fun fl s' => fl = .next ∧ Inv X pins σ H s') X.xe s := by
  obtain ⟨pl, he⟩ := he
  obtain ⟨cd, hcd, hal⟩ := SK.cd
  refine PySem.ks_wpAt_Expr_any (Q := fun fl s' => fl = .next ∧ Inv X pins σ H s') ?_ I.quiet hsw
  refine PySem.ks_wpAt_MethodCall (pl := pl) ?_ he
  refine sup_node I T SK henv lkf hp hN hs0 ea hms rfl hks hkc hka fun so s' I1 hso k1 => ?_
  have KX := I1.kIn
  obtain ⟨t1, ho⟩ := exo_at I1.hok ea
  have IA := exo_inst ho
  have hll := I1.lt
  have hfr := I1.hok.fresh (Nat.le_refl _)
  have hnf := I1.nofs (Nat.le_refl _)
  have I2 := I1
  obtain ⟨hh, g, d, t, os⟩ := s'
  refine PySem.W.kxs_getMethod PySem.W.kxs_ValueError hso (PySem.W.looks_opaque KX SK.any) (l₀ := cd.mro) ?_ rfl KX hal (IA.type.andThen (PySem.W.looks_subIn KX SK.ve)) (PySem.W.ks_ne KX IA hcd) rfl ?_
  · exact fun A Q E s k q => wpAny_bind ((PySem.W.looks_clsIn KX hcd) A _ E s k (wpAny_pure q))
  · have gq : (hh.push (kxs_mw "ValueError.__init__" a)).get? hh.objs.size = some (kxs_mw "ValueError.__init__" a) := Heap.get?_push_at rfl rfl
    have I3 : Inv X pins σ H ⟨hh.push (kxs_mw "ValueError.__init__" a), g, d, t + 1, os⟩ := I2.kept (t' := t + 1) fun b o q => Heap.get?_push_of_some _ q
    have I4 := Inv.pinned I3 (q := hh.objs.size) (o := kxs_mw "ValueError.__init__" a) gq hfr (fun z => by rw [← z] at hll; exact Nat.lt_irrefl _ hll) hnf (fun v z => nomatch z)
    have ha : PA X [.Constant (.str z) ck cp] (tCons (tC (.str z)) tNil) := pa_cons pe_str pa_nil hst
    rw [hst]
    refine PySem.W.kxs_callWith (i := "ValueError.__init__") (x := a) rfl (PySem.Calls.evalArgs_plain ?_)
    have hr := ha.run cpos _ _ σ H (fun vs H1 => vs = [.str z] ∧ H1 = H) I4 ⟨rfl, rfl⟩
    rw [hst] at hr
    refine thn hr fun us s2 ⟨vs, H1, I5, r1, hv, hH⟩ => ?_
    subst hH
    have hq5 := (I5.pin (hh.objs.size, kxs_mw "ValueError.__init__" a) (List.mem_append_right _ List.mem_cons_self)).1
    refine ⟨hq5, ?_⟩
    refine call_mw T I5 ea hq5 (by show us.length ≤ sizeLine; rw [← Paired.length r1, hv, sizeLine_eq]; show 1 ≤ _; omega) fun s3 J => ⟨rfl, Inv.unpin J⟩
end
open NdefX (NScope CellsAt NF envF startF ncx inv_startN) in
/-- such an __init__ as a def -/
theorem fnok_sup {CX : CXT} {P : Program} {w : World} {K : PySem.W.Frag} {mg : Str → Option Value} {base : Heap} {k : Nat} {C cc cda fI : Addr} {name qual z : Str} {params : Arguments} {rest : List Stmt} {scope : Scope} {dV kV doc pm ct oc : Value} {an od : Option Addr} {osl : Array (Option Value)} {N ps : List Str} {sp : Sp} {p0 p1 apos cp cpos spos : Pos} {ck : Nat} {ar : Arg}
    (lk : K.lookup fI = some ⟨oc, od, .func (PySem.W.fnX name qual params (.Expr (.Call (.Attribute (.Call (.Name "super" p0) [] [] p1) "__init__" apos) [.Constant (.str z) ck cp] [] cpos) spos :: rest) scope [("__class__", cc)] dV kV doc pm an (.ref cda) ct), osl⟩)
    (hcd : PySem.W.codeIn K (.ref cda) qual = true) (S : NScope N ps ["__class__"] scope) (T : OexC K C) (SK : SupK P K C cc cda) (hms : mg "super" = none) (hp : (params.posonlyargs ++ params.args).head? = some ar) (hN : N[0]? = some ar.arg) (hps : ps[0]? = some ar.arg)
    (hks : scope.names.lookup ("super" : Str) = some .globalImplicit)
    (len : ∀ vs H Q E, sp vs H Q E → vs.length = ps.length) (self : ∀ vs H Q E, sp vs H Q E → ∃ a, vs[0]? = some (.ref a) ∧ H a = some (exo a C none))
    (hsw : ∀ env, swapsWith (.Call (.Attribute (.Call (.Name "super" p0) [] [] p1) "__init__" apos) [.Constant (.str z) ck cp] [] cpos) none spos.line env = pure false)
    (he : ∀ env, ∃ pl, eval (.Call (.Attribute (.Call (.Name "super" p0) [] [] p1) "__init__" apos) [.Constant (.str z) ck cp] [] cpos) env = (do
      let ov ← attributeBase (.Call (.Name "super" p0) [] [] p1) "__init__" env (eval (.Call (.Name "super" p0) [] [] p1) env)
      standAt apos.atName
      let (f, first) ← holding [ov] (getMethod ov "__init__" pl)
      callWith cpos f first (backTo cpos (starEach [.Constant (.str z) ck cp] env)) []))
    (hst : ∀ env, starEach [.Constant (.str z) ck cp] env = (false, eval (.Constant (.str z) ck cp) env) :: starEach [] env)
    (hbody : ∀ (X : Cx), X.prog = P → X.K = K → X.N = N → X.env.scope = scope → ∀ (vs : List V) (H : Hp) (Q : VK) (E : XK), sp vs H Q E → ∃ t, PSs X rest t ∧ t { nx := fun _ H' => Q .non H', rt := Q } (startF N vs [none]) H) :
    FnOk P w K mg base CX (k + 1) fI (PySem.W.fnX name qual params (.Expr (.Call (.Attribute (.Call (.Name "super" p0) [] [] p1) "__init__" apos) [.Constant (.str z) ck cp] [] cpos) spos :: rest) scope [("__class__", cc)] dV kV doc pm an (.ref cda) ct) ps sp := by
  refine ⟨len, fun A outer s H args us vs Q E hr e0 hb r hsp => ?_⟩
  have hl := len _ _ _ _ hsp
  have KB := e0.mod.kin
  have KX : K.In s.heap := KB.keeps fun b o e => (e0.bs b o e).1
  have lim : s.heap.NoLimit := e0.mod.nolimit.keeps fun b o e => (e0.bs b o e).1
  obtain ⟨cl, cld, csl, hcell⟩ := SK.cell
  obtain ⟨hc1, hc2⟩ := e0.bs _ _ (KB _ _ hcell)
  have CA : CellsAt [(("__class__" : Str), cc)] ["__class__"] [none] s.heap H := by
    refine ⟨rfl, fun y c e => ?_, fun x y c h1 h2 => ?_, fun i y hy => ?_⟩
    · simp only [List.lookup] at e
      split at e
      · cases e
        exact ⟨hc2, _, _, hc1, rfl⟩
      · cases e
    · have e1 : x = ("__class__" : Str) := by
        simp only [List.lookup] at h1
        split at h1
        · rename_i q
          exact beq_iff_eq.mp q
        · cases h1
      have e2 : y = ("__class__" : Str) := by
        simp only [List.lookup] at h2
        split at h2
        · rename_i q
          exact beq_iff_eq.mp q
        · cases h2
      rw [e1, e2]
    · cases i with
      | zero =>
        have e : ("__class__" : Str) = y := Option.some.inj hy
        subst e
        exact ⟨cc, by simp [List.lookup], fun v hv => by cases hv⟩
      | succ i => cases hy
  let F : NF := ⟨name, qual, params, .Expr (.Call (.Attribute (.Call (.Name "super" p0) [] [] p1) "__init__" apos) [.Constant (.str z) ck cp] [] cpos) spos :: rest, scope, [("__class__", cc)], cda⟩
  refine codeAny_call_function hr.depth (KX _ _ lk) rfl S.co S.gen rfl (PySem.W.codeRec_of KX hcd) (hb _ _ _ _ ?_)
  refine wpAny_newFunctionEnv S.nocell (fun ⟨n, _⟩ hy => S.par n (List.of_mem_zip hy).1) (fun h₁ hns hsb => ⟨lim.fresh _ hsb, ?_⟩) S.kind
  show codeAny _ _ (.func F.body (envF F fI s.heap.objs.size)) _ _
  refine PySem.ks_codeAny_funcAt ?_
  have kp : ∀ b o, s.heap.get? b = some o → h₁.get? b = some o := fun b o e => hsb.extBut b o (Nat.ne_of_lt (Heap.lt_size e)) (Heap.get?_push_of_some _ e)
  have I : Inv (ncx CX P w K mg base N F fI A outer s H E) [] (startF N vs [none]) H { s with heap := h₁, toks := s.toks + (ps.zip us).length } := inv_startN (F := F) S hr.hd e0 hl r CA hns kp
  obtain ⟨a, ha1, ha2⟩ := self _ _ _ _ hsp
  have h0 : (startF N vs [none])[0]? = some (some (.ref a)) := by
    unfold startF
    cases vs with
    | nil => cases ha1
    | cons v vs =>
      have : v = .ref a := Option.some.inj ha1
      rw [this]
      rfl
  have hka : scope.names.lookup ar.arg = some .local := S.par _ (List.mem_of_getElem? hps)
  have hkc : scope.names.lookup ("__class__" : Str) = some .free := S.frk _ List.mem_cons_self
  obtain ⟨t, ht, hq⟩ := hbody (ncx CX P w K mg base N F fI A outer s H E) rfl rfl rfl rfl vs H Q E hsp
  refine PySem.ks_wpAt_execs_cons (PySem.ks_wpAt_mono (sup_stmt (X := ncx CX P w K mg base N F fI A outer s H E) I T SK rfl lk hp hN h0 ha2 hms hks hkc hka (hsw _) (he _) (hst _)) (fun fl s' hf => ?_) fun _ _ y => y)
  obtain ⟨rfl, J⟩ := hf
  refine wpAt_of_wpAny (wpAny_mono (ht.run [] _ (startF N vs [none]) H _ J hq) (fun fl s2 hs => ?_) fun e s' hs => hs)
  have fin : ∀ {σ' : L2.St} {H' : Hp} {v : V} {u : Value}, Inv (ncx CX P w K mg base N F fI A outer s H E) [] σ' H' s2 → L2.RelV v u → Q v H' → CE outer P w H s Q u s2 :=
    fun {σ' H' v u} J rv q => ⟨v, H', J.os, J.bare, J.base, J.hok, rv, q⟩
  cases fl with
  | ret u =>
    obtain ⟨v, σ', H', J, rv, q⟩ := hs
    exact fin J rv q
  | next =>
    obtain ⟨σ', H', J, q⟩ := hs
    exact fin (v := V.non) (u := Value.none) J rfl q
  | brk =>
    obtain ⟨_, _, _, q⟩ := hs
    exact False.elim q
  | cont =>
    obtain ⟨_, _, _, q⟩ := hs
    exact False.elim q
end CC
set_option maxHeartbeats 4000000
/-! Exceptions with an attribute: what the top tells, raising, reading. -/
namespace CC
open PySem PySem.Spec L2
open PyProof.Rows hiding St
variable {α β γ δ τ υ ω ρ ε : Type}
structure SupD where
  x : Str
  qual : Str
  params : Arguments
  body : List Stmt
  scope : Scope
abbrev SupW : Type := Option (Str × Str × Arguments × FuncBody × Scope × Addr × List Str × Addr)
abbrev iAd (K : PySem.W.Frag) (x : Str) : Addr := He.ma K (He.ga K x) "__init__"
def supW (K : PySem.W.Frag) (x : Str) : SupW := match K.lookup (iAd K x) with
  | some ⟨_, _, .func fd, _⟩ => some (fd.name, fd.qualname, fd.params, fd.body, fd.scope, fd.globals, fd.closure.map (·.1), fd.builtins)
  | _ => none
def SupD.val (d : SupD) : SupW := some ("__init__", d.qual, d.params, .stmts d.body, d.scope, mainGlobals, ["__class__"], builtinsNs)
def oexB (K : PySem.W.Frag) (C : Addr) : Bool := match K.lookup C with
  | some ⟨.type t, _, .cls cd, sl⟩ => decide (t = "type") && (match cd.mro, sl.toList with
    | .ref C' :: bm, [_, _, _, _, some (.builtin n), _] => decide (C' = C) && (decide (n = "ValueError.__new__") && (!cd.hasDel && (cd.hasDict && PySem.HandSPX.refsVE bm)))
    | _, _ => false)
  | _ => false
theorem oexB_ok {K : PySem.W.Frag} {C : Addr} (h : oexB K C = true) : ∃ nm q N bs bm sn sub ab col dd k0 k1 k2 k3 k5, K.lookup C = some (excClassObj nm q C N bs bm true sn sub ab col dd k0 k1 k2 k3 k5 "ValueError.__new__") ∧ PySem.HandSPX.refsVE bm = true := by
  unfold oexB at h
  split at h
  · rename_i t dd cd sl ho
    obtain ⟨h1, h2⟩ := Bool.and_eq_true_iff.mp h
    have h1 := of_decide_eq_true h1
    subst h1
    obtain ⟨nm, bs, mro, ns, qn, hd, sn, sb, ab, col, del⟩ := cd
    split at h2
    · rename_i C' bm k0 k1 k2 k3 n k5 e1 e2
      dsimp only at e1
      subst e1
      obtain ⟨a1, h3⟩ := Bool.and_eq_true_iff.mp h2
      obtain ⟨a2, h4⟩ := Bool.and_eq_true_iff.mp h3
      obtain ⟨a3, h5⟩ := Bool.and_eq_true_iff.mp h4
      obtain ⟨a4, a5⟩ := Bool.and_eq_true_iff.mp h5
      have a1 := of_decide_eq_true a1
      have a2 := of_decide_eq_true a2
      dsimp only at a3 a4
      rw [Bool.not_eq_true'] at a3
      subst a1 a2 a3 a4
      have e3 : sl = #[k0, k1, k2, k3, some (.builtin "ValueError.__new__"), k5] := by
        apply Array.toList_inj.mp
        rw [e2]
      subst e3
      exact ⟨nm, qn, ns, bs, bm, sn, sb, ab, col, dd, k0, k1, k2, k3, k5, ho, a5⟩
    · cases h2
  · cases h
/-- SupK without the program -/
structure SupC (K : PySem.W.Frag) (fl : Str) (C cc cda : Addr) : Prop where
  cd : ∃ cd, PySem.W.clsIn K C = some cd ∧ PySem.W.alongIn K "__init__" ((cd.mro.dropWhile (· != .ref C)).drop 1) = some (some (.builtin "ValueError.__init__"))
  sub : PySem.W.mroIn K C (.ref C) = some true
  ve : PySem.W.subIn K (.ref C) (.type "ValueError") = some true
  cell : ∃ cl cld csl, K.lookup cc = some ⟨cl, cld, .cell (some (.ref C)), csl⟩
  code : ∃ ccl cdd vs ccs tf, K.lookup cda = some ⟨ccl, cdd, .fields vs, ccs⟩ ∧ vs[2]? = some (.str fl tf)
  any : PySem.W.nsIn K cStatics "thirdparty.any" = some none
/-- what is asked of the program -/
structure PF (P : Program) (fl : Str) : Prop where
  file : ((P.main.file : Str) == fl) = true
  top : (P.main.scope.names.lookup ("super" : Str)).isSome = false
theorem SupC.k {P : Program} {K : PySem.W.Frag} {fl : Str} {C cc cda : Addr} (h : SupC K fl C cc cda) (p : PF P fl) : SupK P K C cc cda := by
  obtain ⟨a, b, c, d, e, hc, hv⟩ := h.code
  exact ⟨h.cd, h.sub, h.ve, h.cell, ⟨a, b, c, d, fl, e, hc, hv, p.file⟩, h.any, p.top⟩
def tSup (fl : Str) (d : SupD) (K : PySem.W.Frag) : Bool :=
  oexB K (He.ga K d.x) && (decide (PySem.W.findIn K (.ref (He.ga K d.x)) "__setattr__" = some (some (.builtin "object.__setattr__"))) && (decide (PySem.W.subIn K (.ref (He.ga K d.x)) (.type "BaseException") = some true) && (decide (PySem.W.typeIn K (.ref (He.ga K d.x)) = some (.type "type")) && (PySem.W.keepIn K (.ref (He.ga K d.x)) &&
  (decide (PySem.W.findIn K (.ref (He.ga K d.x)) "__init__" = some (some (.ref (iAd K d.x)))) && (decide (PySem.W.typeIn K (.ref (iAd K d.x)) = some (.type "function")) &&
  (decide (PySem.W.mroIn K (He.ga K d.x) (.ref (He.ga K d.x)) = some true) && (decide (PySem.W.subIn K (.ref (He.ga K d.x)) (.type "ValueError") = some true) && (decide (PySem.W.nsIn K cStatics "thirdparty.any" = some none) &&
  ((match PySem.W.clsIn K (He.ga K d.x) with
    | some cd => decide (PySem.W.alongIn K "__init__" ((cd.mro.dropWhile (· != .ref (He.ga K d.x))).drop 1) = some (some (.builtin "ValueError.__init__")))
    | none => false) &&
  (match K.lookup (iAd K d.x) with
    | some ⟨_, _, .func fd, _⟩ => (match fd.code, fd.closure with
      | .ref cda, [(_, cc)] => (decide (fd.defaults = .none) && decide (fd.kwdefaults = .none)) && (PySem.W.codeIn K (.ref cda) d.qual && ((match K.lookup cc with
        | some ⟨_, _, .cell (some (.ref D)), _⟩ => decide (D = He.ga K d.x)
        | _ => false) && (match K.lookup cda with
        | some ⟨_, _, .fields vs, _⟩ => (match (show Option Value from vs[2]?) with
          | some (Value.str z _) => decide (z = fl)
          | _ => false)
        | _ => false)))
      | _, _ => false)
    | _ => false)))))))))))
structure SupF (K : PySem.W.Frag) (fl : Str) (C fI : Addr) (d : SupD) : Prop where
  ex : ∃ oc od doc pm an cda ct osl cc, K.lookup fI = some ⟨oc, od, .func (PySem.W.fnX "__init__" d.qual d.params d.body d.scope [("__class__", cc)] .none .none doc pm an (.ref cda) ct), osl⟩ ∧ PySem.W.codeIn K (.ref cda) d.qual = true ∧ SupC K fl C cc cda
  oex : OexC K C
  iC : PySem.W.findIn K (.ref C) "__init__" = some (some (.ref fI))
  tI : PySem.W.typeIn K (.ref fI) = some (.type "function")
theorem supF_ok {K : PySem.W.Frag} {fl : Str} {d : SupD} (e : supW K d.x = d.val) (h : tSup fl d K = true) : SupF K fl (He.ga K d.x) (iAd K d.x) d := by
  unfold tSup at h
  simp only [Bool.and_eq_true, decide_eq_true_eq] at h
  obtain ⟨h1, h2, h3, h4, h5, h6, h7, h8, h9, h10, h11, h12⟩ := h
  refine ⟨?_, ⟨oexB_ok h1, h2, h3, h4, h5⟩, h6, h7⟩
  unfold supW at e
  split at h12
  · rename_i oc od fd osl ho
    rw [ho] at e
    obtain ⟨n1, n2, n3, n4, n5, n6, n7, n8, n9, n10, n11, n12, n13, n14, n15⟩ := fd
    have e2 : (some (n1, n2, n3, n4, n5, n6, n7.map (·.1), n15) : SupW) = d.val := e
    unfold SupD.val at e2
    simp only [Option.some.injEq, Prod.mk.injEq] at e2
    obtain ⟨q1, q2, q3, q4, q5, q6, q7, q8⟩ := e2
    subst q1 q2 q3 q4 q5 q6 q8
    split at h12
    · rename_i cda x cc y1 y2
      dsimp only at y1 y2
      subst y1 y2
      simp only [List.map_cons, List.map_nil, List.cons.injEq, and_true] at q7
      subst q7
      simp only [Bool.and_eq_true, decide_eq_true_eq] at h12
      obtain ⟨⟨z4, z5⟩, z1, z2, z3⟩ := h12
      subst z4 z5
      refine ⟨oc, od, n10, n11, n12, cda, n14, osl, cc, ho, z1, ?_, h8, h9, ?_, ?_, h10⟩
      · split at h11
        · rename_i cd hcd
          exact ⟨cd, hcd, of_decide_eq_true h11⟩
        · cases h11
      · split at z2
        · rename_i a b D c hc
          have := of_decide_eq_true z2
          rw [this] at hc
          exact ⟨a, b, c, hc⟩
        · cases z2
      · split at z3
        · rename_i a b vs c hc
          split at z3
          · rename_i z tf hv
            have := of_decide_eq_true z3
            rw [this] at hv
            exact ⟨a, b, vs, c, tf, hc, hv⟩
          · cases z3
        · cases z3
    · cases h12
  · cases h12
end CC
set_option maxHeartbeats 4000000
/-! Exceptions with an attribute: the hook, raising, reading. -/
namespace CC
open PySem PySem.Spec L2
open PyProof.Rows hiding St
variable {α β γ δ τ υ ω ρ ε : Type}
/-! ### the hook -/
def asY (g : Addr → Option Obj) (n : Nat) : List Addr := cStatics :: He.asD g n
abbrev AlY : Type := (Bool × He.AlD) × List SupW
def obsY (mo : List Tst) (fa : List He.Fa) (fn : List He.DefD) (sp : List SupD) (K : PySem.W.Frag) : AlY := (obsX mo fa fn K, sp.map fun d => supW K d.x)
def valY (fn : List He.DefD) (sp : List SupD) : AlY := ((true, He.valD fn), sp.map SupD.val)
def SaysY (mo : List Tst) (fa : List He.Fa) (fn : List He.DefD) (sp : List SupD) (K : PySem.W.Frag) : Prop := obsY mo fa fn sp K = valY fn sp
def obsYG (n : Nat) (mo : List Tst) (fa : List He.Fa) (fn : List He.DefD) (sp : List SupD) (g : Addr → Option Obj) : AlY := obsY mo fa fn sp (He.frG g (asY g n))
def hookY (n : Nat) (mo : List Tst) (fa : List He.Fa) (fn : List He.DefD) (sp : List SupD) : PySem.W.Hook where
  α := AlY
  obs := fun s => obsYG n mo fa fn sp s.heap.get?
  val := fun _ => valY fn sp
  says := fun _ h => ∃ K : PySem.W.Frag, K.In h ∧ SaysY mo fa fn sp K
  of := fun _ _ e => ⟨_, He.frG_in, e⟩
  keeps := fun _ _ _ ⟨K, hK, c⟩ k => ⟨K, PySem.W.Frag.In.keeps hK k, c⟩
theorem obsYG_eq {n : Nat} {mo : List Tst} {fa : List He.Fa} {fn : List He.DefD} {sp : List SupD} {g : Addr → Option Obj} {s : Shared} (h : ∀ a, g a = s.heap.get? a) : obsYG n mo fa fn sp g = (hookY n mo fa fn sp).obs s := by
  have e : g = s.heap.get? := funext h
  rw [e] <;> rfl
theorem SaysY.x {mo : List Tst} {fa : List He.Fa} {fn : List He.DefD} {sp : List SupD} {K : PySem.W.Frag} (c : SaysY mo fa fn sp K) : SaysX mo fa fn K := congrArg (fun z : AlY => z.1) c
theorem SaysY.s {mo : List Tst} {fa : List He.Fa} {fn : List He.DefD} {sp : List SupD} {K : PySem.W.Frag} (c : SaysY mo fa fn sp K) (i : Nat) {d : SupD} (h : sp[i]? = some d := by rfl) : supW K d.x = d.val := by
  have e : sp.map (fun d => supW K d.x) = sp.map SupD.val := congrArg (fun z : AlY => z.2) c
  have e2 : (sp.map fun d => supW K d.x)[i]? = (sp.map SupD.val)[i]? := by rw [e]
  rw [List.getElem?_map, List.getElem?_map, h] at e2
  exact Option.some.inj e2
/-- the j-th statement of a class -/
def clsM (st : Stmt) (j : Nat) : Stmt := match st with
  | .ClassDef _ _ _ body .. => body.getD j (.Pass ⟨0, 0, 0, 0⟩)
  | _ => .Pass ⟨0, 0, 0, 0⟩
/-! ### an __init__ that stores one thing -/
def spI (C : Addr) (f : Str) : Sp := fun vs H Q _ => ∃ a v, vs = [.ref a, v] ∧ H a = some (exo a C none) ∧ ∀ dx, H dx = none → dx ≠ a → Q .non (upd (upd H dx (exd dx [(f, v)])) a (exo a C (some dx)))
structure ShI (d : SupD) (f y : Str) : Prop where
  ex : ∃ (p0 p1 apos cp cpos spos q0 q1 q2 q3 : Pos) (ck : Nat) (z : Str) (ar : Arg), d.body = [.Expr (.Call (.Attribute (.Call (.Name "super" p0) [] [] p1) "__init__" apos) [.Constant (.str z) ck cp] [] cpos) spos, .Assign [.Attribute (.Name "self" q0) f q1] (.Name y q2) q3] ∧
    (d.params.posonlyargs ++ d.params.args).head? = some ar ∧ ar.arg = ("self" : Str) ∧
    (∀ env, swapsWith (.Call (.Attribute (.Call (.Name "super" p0) [] [] p1) "__init__" apos) [.Constant (.str z) ck cp] [] cpos) none spos.line env = pure false) ∧
    (∀ env, ∃ pl, eval (.Call (.Attribute (.Call (.Name "super" p0) [] [] p1) "__init__" apos) [.Constant (.str z) ck cp] [] cpos) env = (do
      let ov ← attributeBase (.Call (.Name "super" p0) [] [] p1) "__init__" env (eval (.Call (.Name "super" p0) [] [] p1) env)
      standAt apos.atName
      let (f, first) ← holding [ov] (getMethod ov "__init__" pl)
      callWith cpos f first (backTo cpos (starEach [.Constant (.str z) ck cp] env)) [])) ∧
    (∀ env, starEach [.Constant (.str z) ck cp] env = (false, eval (.Constant (.str z) ck cp) env) :: starEach [] env) ∧
    ∀ env, swapsWith (.Name y q2) (some (.Attribute (.Name "self" q0) f q1)) q3.line env = pure false
  sc : NdefX.NScope ["self", y, "__class__"] ["self", y] ["__class__"] d.scope
  ks : d.scope.names.lookup ("super" : Str) = some .globalImplicit
  yd : (y == ("__debug__" : Str)) = false ∧ (y == ("__classdict__" : Str)) = false
  bind : ∀ doc pm an cdv ct cc (us : List Value), us.length = 2 → bindArgs (PySem.W.fnX "__init__" d.qual d.params d.body d.scope [("__class__", cc)] .none .none doc pm an cdv ct) ⟨us, []⟩ = pure ([("self" : Str), y].zip us)
theorem sup1_fn {P : Program} {w : World} {K : PySem.W.Frag} {mg : Str → Option Value} {base : Heap} {fl f y : Str} {C fI : Addr} {d : SupD} (F : SupF K fl C fI d) (hp : PF P fl) (hms : mg "super" = none) (hno : PySem.W.findIn K (.ref C) f = some none) (Sh : ShI d f y) :
    ∃ fd, FnOk P w K mg base CX0 1 fI fd ["self", y] (spI C f) ∧ Binds K fd ["self", y] [] := by
  obtain ⟨oc, od, doc, pm, an, cda, ct, osl, cc, lk, hcd, SC⟩ := F.ex
  obtain ⟨p0, p1, apos, cp, cpos, spos, q0, q1, q2, q3, ck, z, ar, hb, har, har2, hsw, he, hst, hsw2⟩ := Sh.ex
  refine ⟨_, ?_, Binds.all fun us hl => Sh.bind doc pm an (.ref cda) ct cc us hl⟩
  have S := Sh.sc
  have hks := Sh.ks
  have hyd := Sh.yd
  obtain ⟨x, qual, params, body, scope⟩ := d
  dsimp only at hb lk hcd har S hks ⊢
  subst hb
  refine fnok_sup (k := 0) (z := z) lk hcd S F.oex (SC.k hp) hms har (by rw [har2]; rfl) (by rw [har2]; rfl) hks (fun vs H Q E h => ?_) (fun vs H Q E h => ?_) hsw he hst fun X hP hK hN hsc vs H Q E h => ?_
  · obtain ⟨a, v, rfl, _⟩ := h
    rfl
  · obtain ⟨a, v, rfl, h2, _⟩ := h
    exact ⟨a, rfl, h2⟩
  · obtain ⟨a, v, rfl, h2, h3⟩ := h
    have v1 : Vis X.env.scope "self" := by rw [hsc]; exact .inl (S.par _ (by simp))
    have v2 : Vis X.env.scope y := by rw [hsc]; exact .inl (S.par _ (by simp))
    refine ⟨tSeq (tOst X.K f (tVar 0) (tVar 1)) tNext, pss_cons (ps_ost (pe_var (by rw [hN]; rfl) v1) (pe_var (by rw [hN]; rfl) v2 hyd.1 hyd.2) (hsw2 _)) pss_nil, ?_⟩
    exact ⟨v, rfl, .ref a, rfl, a, C, rfl, by rw [hK]; exact F.oex, by rw [hK]; exact hno, .inl ⟨h2, h3⟩⟩
/-! ### raising it -/
section
variable {S : Stc} {Γ Δ : Ctx} {e : Expr} {pos : Pos}
theorem jm_sup {x fl f y : Str} {p : Pos} {C fI : Addr} {d : SupD} {m : Option α} {E : α → SP} {u : α → ε} {Xp : ε → XP} (F : SupF S.K fl C fI d) (hP : PF S.P fl) (hms : S.mg "super" = none) (hno : PySem.W.findIn S.K (.ref C) f = some none) (Sh : ShI d f y) (hm : S.mg x = some (.ref C)) (ha : JN S e Γ m fun z => sh (E z)) (hX : ∀ z, Xp (u z) = excX C (some (f, E z)) := by intro _; rfl)
    (hk : 2 ≤ S.k := by exact Nat.le_of_ble_eq_true rfl) (hg : GlS S x := by rfl) (hdb : (x == ("__debug__" : Str)) = false := by decide) (he : ∀ env, starEach [e] env = (false, eval e env) :: starEach [] env := by intro _; rfl) (hcm : S.calm = true := by rfl) : JM S (.Call (.Name x p) [e] [] pos) Γ (m.bind fun z => some (u z)) Xp := fun σ W F' sta w hw Q k => by
  obtain ⟨z, h1, h2⟩ := run1 hw
  cases h2
  refine ⟨tMkO C (spI C f) [] (tCons (tOf S e) tNil), fun X hX' => ?_, ?_⟩
  · obtain ⟨fd, Fn, Bd⟩ := sup1_fn (P := S.P) (w := S.w) (mg := S.mg) (base := S.base) F hP hms hno Sh
    rw [← hX'.K] at F
    refine pmk_oex (ds := []) (dvs := []) (k := 1) F.oex F.iC F.tI (CX := CX0) ?_ ((hX'.room hcm).mono hk) (by rw [hX'.K]; exact Bd) .nil passE0 (hg.gl hX') (mgS hm hX') (pa_cons (peO hX') pa_nil (he _)) hdb (he _) rfl
    rw [hX'.prog, hX'.w, hX'.K, hX'.mg, hX'.base]
    exact Fn
  · refine ha σ W F' sta z h1 _ fun v W1 Fv ext fr fp r => ?_
    obtain ⟨_, hv⟩ := r
    refine ⟨by simp, fun a hna => ?_⟩
    refine ⟨a, v, rfl, upd_same, fun dx hdx hne => ⟨rfl, dx, [(f, v)], upd_same, ?_, ?_, ?_⟩⟩
    · rw [upd_ne hne, upd_same]
    · rwa [upd_ne hne] at hdx
    · have hd1 : W1.H dx = none := by rwa [upd_ne hne] at hdx
      have e2 := Ext.newB ext.ok (o := .xd [(f, v)]) hd1
      have eH : upd (del (upd (upd (upd W1.H a (exo a C none)) dx (exd dx [(f, v)])) a (exo a C (some dx))) a) dx (.xd [(f, v)]) = (⟨upd W1.H dx (.xd [(f, v)]), upd W1.B dx (.xd [(f, v)])⟩ : Wd).H := by
        funext b
        by_cases hb : b = dx
        · rw [hb, upd_same]
          exact upd_same.symm
        · rw [upd_ne hb]
          show _ = upd W1.H dx _ b
          rw [upd_ne hb]
          by_cases hb2 : b = a
          · rw [hb2, del_same, hna]
          · rw [del_ne hb2, upd_ne hb2, upd_ne hb, upd_ne hb2]
      rw [eH]
      refine k (.ref C) (some dx) ⟨upd W1.H dx (.xd [(f, v)]), upd W1.B dx (.xd [(f, v)])⟩ (ext.trans e2) ?_
      rw [hX]
      exact ⟨rfl, dx, v, rfl, upd_same, SP.mono _ hv e2.b⟩
/-- e.f in its suite -/
theorem jn_xat {n f : Str} {p0 : Pos} {a C : Addr} {d : Option Addr} {x : α} {E : α → SP} (i : Nat) (hex : S.ex = some (a, C, d)) (hE : ExcC S.K C) (hno : PySem.W.findIn S.K (.ref C) f = some none) (hi : Γ[i]? = some (some (sh (excS a d (some (f, E x))))) := by rfl) (hN : S.N[i]? = some n := by rfl) (hv : Vis S.sc n := by first | exact Or.inl rfl | exact Or.inr (Or.inl rfl) | exact Or.inr (Or.inr rfl))
    (hd : (n == ("__debug__" : Str)) = false := by decide) (hcd : (n == ("__classdict__" : Str)) = false := by decide) (hb : ∀ env, attributeBase (.Name n p0) f env (eval (.Name n p0) env) = eval (.Name n p0) env := by intro _; rfl) : JN S (.Attribute (.Name n p0) f pos) Γ (some x) fun z => sh (E z) := fun σ W F sta z hz Q kq => by
  cases hz
  obtain ⟨v, h1, h2⟩ := sta.get hi
  obtain ⟨rfl, dd, w, rfl, h4, h5⟩ := h2
  refine ⟨tXf a (.ref C) (some dd) C f (tVar i), fun X hX => ?_, ?_⟩
  · obtain ⟨X', oe, pn, rfl, hz, hf⟩ := hX.ex a C (some dd) hex
    have eK : (X'.suite a ((a, oe) :: pn)).K = S.K := hX.K
    have eK' : X'.K = S.K := eK
    exact pe_xf (X := X') ⟨by rw [eK']; exact hE.hg, by rw [eK']; exact hE.hk, by rw [eK']; exact hE.hs, by rw [eK']; exact hE.hd⟩ (by rw [eK']; exact hno) hz hf (pe_var (by rw [hX.N]; exact hN) (visS hv hX) hd hcd) (hb _)
  · exact ⟨.ref a, h1, rfl, rfl, dd, [(f, w)], w, rfl, sta.ok _ _ h4, by simp [List.lookup], kq.val sta.ok h5⟩
end
end CC
set_option maxHeartbeats 4000000
/-! a < b < c as a test. -/
namespace CC
open PySem PySem.Spec L2
open PyProof.Rows hiding St
variable {α β γ δ τ υ ω ρ ε : Type}
section
variable {S : Stc} {Γ : Ctx} {a b c e : Expr} {pos : Pos}
theorem jt_chain {op op' : CmpOp} {r r' : R2} {E : α → SP} {G : β → SP} {I : γ → SP} {f : α → β → Option Bool} {g : β → γ → Option Bool} {ma : Option α} {mb : Option β} {mc : Option γ} (ho : ∀ X, S.In X → OpR X (compareOp op) r) (hr : OpV r E G f fun z => sh (boolS z)) (ho' : ∀ X, S.In X → OpR X (compareOp op') r') (hr' : OpV r' G I g fun z => sh (boolS z))
    (ha : JN S a Γ ma fun x => sh (E x)) (hb : JN S b Γ mb fun x => sh (G x)) (hc : JN S c Γ mc fun x => sh (I x)) (hm : lastMarks [op, op'] [b, c] = false := by with_unfolding_all rfl) :
    JT S (.Compare a [op, op'] [b, c] pos) Γ (ma.bind fun x => mb.bind fun y => (f x y).bind fun t => bif t then mc.bind fun z => g y z else some false) := fun σ W F st z hz Q kq => by
  obtain ⟨x, y, h1, h2, h3⟩ := run2 hz
  obtain ⟨t, h4, h5⟩ := run1 h3
  refine ⟨tTest (tChain r r' (tOf S a) (tOf S b) (tOf S c)), fun X hX => pt_chain (ho X hX) (ho' X hX) (peO hX) (peO hX) (peO hX) hm, ?_⟩
  have k : Got (sh (boolS z)) W fun v H => ∃ b, v = V.bl b ∧ Q b H := fun v W' Fv ext _ _ r => ⟨z, r.2, kq W' ext⟩
  show tChain r r' (tOf S a) (tOf S b) (tOf S c) σ W.H fun v H => ∃ b, v = V.bl b ∧ Q b H
  refine ha σ W F st x h1 _ fun v W1 F1 e1 _ _ r1 => hb σ W1 F (st.ext e1) y h2 _ fun u W2 F2 e2 _ _ r2 => ?_
  refine hr W2 x y v u t e2.ok (SP.mono _ r1.2 e2.b) r2.2 h4 _ fun w W3 F3 e3 _ _ r3 => ?_
  have e13 := (e1.trans e2).trans e3
  refine ⟨t, r3.2, ?_⟩
  cases t with
  | false =>
    cases h5
    rw [if_neg (fun z => nomatch z)]
    exact (k.ext e13).val e3.ok rfl
  | true =>
    rw [if_pos rfl]
    obtain ⟨q, h6, h7⟩ := run1 (f := fun z => g y z) h5
    refine hc σ W3 F (st.ext e13) q h6 _ fun w' W4 F4 e4 _ _ r4 => ?_
    exact hr' W4 y q u w' z e4.ok (SP.mono _ (SP.mono _ r2.2 e3.b) e4.b) r4.2 h7 _ (k.ext (e13.trans e4))
end
end CC
set_option maxHeartbeats 4000000
/-! every second element of a tuple: t[::2], t[1::2]. -/
namespace CC
open PySem PySem.Spec L2
open PyProof.Rows hiding St
variable {α β γ δ τ υ ω ρ ε : Type}
def evL : List α → List α
  | [] => []
  | [x] => [x]
  | x :: _ :: xs => x :: evL xs
theorem evL_range : ∀ {l : List α}, (List.range ((l.length + 1) / 2)).filterMap (fun m => l[2 * m]?) = evL l
  | [] => by simp [evL]
  | [x] => by
    rw [show ([x].length + 1) / 2 = 1 by simp, show List.range 1 = [0] from rfl]
    rfl
  | x :: y :: l => by
    rw [show ((x :: y :: l).length + 1) / 2 = (l.length + 1) / 2 + 1 by simp only [List.length_cons]; omega, List.range_succ_eq_map, List.filterMap_cons, List.filterMap_map]
    show x :: _ = x :: evL l
    rw [← evL_range (l := l)]
    congr 1
theorem Each.ev {E : α → SP} {B : Hp} : ∀ {vs : List V} {xs : List α}, Each E B vs xs → Each E B (evL vs) (evL xs)
  | [], [], _ => trivial
  | [_], [_], h => h
  | _ :: _ :: vs, _ :: _ :: xs, h => ⟨h.1, Each.ev h.2.2⟩
theorem evL_map {f : α → β} : ∀ {l : List α}, evL (l.map f) = (evL l).map f
  | [] => rfl
  | [_] => rfl
  | x :: _ :: l => by
    show f x :: evL (l.map f) = f x :: (evL l).map f
    rw [evL_map]
theorem evL_len : ∀ {l : List α}, (evL l).length ≤ l.length
  | [] => Nat.le_refl _
  | [_] => Nat.le_refl _
  | x :: y :: l => by
    have := evL_len (l := l)
    show (evL l).length + 1 ≤ l.length + 1 + 1
    omega
section
variable {prog : Program} {w : World} {A : Around} {E : Value → Shared → Prop} {s : Shared}
theorem places_ev {n lo : Nat} (h : lo ≤ n) : Builtin.Slice.slicePlaces (lo : Int) (n : Int) 2 = (n - lo + 1) / 2 := by
  unfold Builtin.Slice.slicePlaces
  rw [if_pos (by decide)]
  split <;> omega
theorem pick_ev (xs : Array Value) {lo : Nat} (h : lo ≤ xs.size) : ((List.range ((xs.size - lo + 1) / 2)).filterMap fun (m : Nat) => xs[((lo : Int) + (m : Int) * 2).toNat]?).toArray = (evL (xs.toList.drop lo)).toArray := by
  congr 1
  rw [← evL_range, List.length_drop, Array.length_toList]
  refine fm_congr fun m _ => ?_
  rw [List.getElem?_drop, Array.getElem?_toList]
  congr 1
  omega
theorem sliceApplied_ev {sl : Addr} {vl vs : Value} {n lo : Nat} {o : Option Int} {Q : Int × Int × Nat → Shared → Prop} (hs : s.heap.IsSliceOf sl vl .none vs) (pl : IsPart vl o) (ps : IsPart vs (some 2)) (hlo : lo ≤ n) (ha : Builtin.Slice.sliceAdjust o none 2 (n : Int) = ((lo : Int), (n : Int)))
    (h : Q ((lo : Int), 2, (n - lo + 1) / 2) s) : wpAny (model prog w) A (Builtin.Slice.sliceApplied (.ref sl) (pure (n : Int))) Q E s := by
  obtain ⟨os, hos, hcs, hds⟩ := id hs
  unfold Builtin.Slice.sliceApplied Builtin.Slice.sliceFields
  refine wpAny_bind (wpAny_bind (wpAny_field hos hds (x := vl) rfl (wpAny_bind (wpAny_field hos hds (x := .none) rfl (wpAny_bind (wpAny_field hos hds (x := vs) rfl (wpAny_pure ?_)))))))
  refine wpAny_bind (HT.slicePart_ ps ?_)
  show wpAny _ _ (if ((2 : Int) == 0) = true then _ else _) _ _ s
  rw [if_neg (by decide)]
  refine wpAny_bind (HT.slicePart_ pl (wpAny_bind (slicePart_none (wpAny_bind (wpAny_pure ?_)))))
  show wpAny _ _ (match Builtin.Slice.sliceAdjust o none 2 (n : Int) with | (lo, hi) => pure (lo, (2 : Int), Builtin.Slice.slicePlaces lo hi 2)) _ _ s
  rw [ha]
  show wpAny _ _ (pure ((lo : Int), (2 : Int), Builtin.Slice.slicePlaces (lo : Int) (n : Int) 2)) _ _ s
  rw [places_ev hlo]
  exact wpAny_pure h
theorem getItem_tuple_ev {t sl : Addr} {items : Array Value} {vl vs : Value} {lo : Nat} {o : Option Int} {Q : Value → Shared → Prop} (ht : IsTup s.heap t items) (hs : s.heap.IsSliceOf sl vl .none vs) (pl : IsPart vl o) (ps : IsPart vs (some 2)) (hlo : lo ≤ items.size) (ha : Builtin.Slice.sliceAdjust o none 2 (items.size : Int) = ((lo : Int), (items.size : Int)))
    (h : Q (.ref s.heap.objs.size) { s with heap := s.heap.push { cls := .type "tuple", data := .seq (evL (items.toList.drop lo)).toArray } })
    (hsz : items.size ≤ sizeLine) : wpAny (model prog w) A (getItem (.ref t) (.ref sl)) Q E s := by
  have htake : sizeOk (.seq (evL (items.toList.drop lo)).toArray) := by
    show (evL (items.toList.drop lo)).toArray.size ≤ sizeLine
    rw [List.size_toArray]
    refine Nat.le_trans evL_len ?_
    rw [List.length_drop, Array.length_toList]
    omega
  obtain ⟨os, hos, hcs, hds⟩ := id hs
  have hTs : s.TypeIs (.ref sl) "slice" := ⟨os, hos, hcs⟩
  unfold getItem
  try with_reducible refine wpAny_holding ?_
  first | refine wpAny_bind (wpAny_pure ?_) | skip
  refine wpAny_bind (wpAny_sequenceKey ht.typeIs (by decide) ?_)
  refine wpAny_bind (wpAny_callSpecial?_slot (name := Str.ofString "__getitem__") ht.typeIs PyProof.Rows.slot_tuple_getitem
    (wpAny_call_entry PyProof.Rows.slot_tuple_getitem ht.typeIs entry_tuple_getitem ?_ (args_tuple_getitem _ _)))
  show wpAny _ _ (Builtin.Tuple.tupleItemsOf (.ref t) >>= _) _ _ s
  refine wpAny_bind (tupleItemsOf_ ht ?_)
  refine wpAny_bind (wpAny_typeOf hTs ?_)
  rw [if_pos (by decide)]
  refine wpAny_bind (sliceApplied_ev hs pl ps hlo ha ?_)
  have hno : ¬ (((lo : Int) == 0 && (2 : Int) == 1 && (items.size - lo + 1) / 2 == items.size) = true) := by
    rw [show ((2 : Int) == 1) = false from rfl, Bool.and_false, Bool.false_and]
    exact Bool.false_ne_true
  show wpAny _ _ (if ((lo : Int) == 0 && (2 : Int) == 1 && (items.size - lo + 1) / 2 == items.size) = true then _ else _) _ _ s
  rw [if_neg hno, pick_ev items hlo]
  first
    | exact wpAny_bind (m := Builtin.Tuple.tupleExact _) (wpAny_newObj_type (wpAny_pure ⟨_, rfl, wpAny_pure h⟩) htake)
    | exact wpAny_bind (m := Builtin.Tuple.tupleExact _) (wpAny_newObj_type (wpAny_bind (wpAny_pure (wpAny_pure ⟨_, rfl, wpAny_pure h⟩))) htake)
    | exact wpAny_bind (wpAny_bind (m := Builtin.Tuple.tupleExact _) (wpAny_newObj_type (wpAny_pure (wpAny_pure ⟨_, rfl, wpAny_pure h⟩)) htake))
    | exact wpAny_bind (wpAny_bind (m := Builtin.Tuple.tupleExact _) (wpAny_newObj_type (wpAny_pure ⟨_, rfl, wpAny_pure h⟩) htake))
end
theorem vals_ev : ∀ {xs : List V} {us : List Value}, Vals xs us → Vals (evL xs) (evL us)
  | _, _, .nil => .nil
  | _, _, .cons r .nil => .cons r .nil
  | _, _, .cons r (.cons _ t) => .cons r (vals_ev t)
def tEvT (K : PySem.W.Frag) (k : Nat) (te : TE) : TE := fun σ H Q => te σ H fun x H1 => ∃ a xs, x = .ref a ∧ SqT K H1 a xs ∧ ∀ p, H1 p = none → Q (.ref p) (upd H1 p (.tup (evL (xs.drop k))))
theorem pe_evT {X : Cx} {e : Expr} {te : TE} {lw : Option Expr} {tl : TO} {o : Option Int} {kk k : Nat} {p1 p3 pos : Pos} (he : PE X e te) (hl : PO X lw tl) (ho : ∀ σ H (Q : Option Int → Hp → Prop), Q o H → tl σ H Q) (ha : ∀ n : Nat, Builtin.Slice.sliceAdjust o none 2 (n : Int) = (((min kk n : Nat) : Int), (n : Int))) : PE X (.Subscript e (.Slice lw none (some (.Constant (.int 2) k p1)) p3) pos) (tEvT X.K kk te) := by
  refine ⟨fun pins s σ H Q I h => ?_⟩
  refine Subscript_ (thn (he.run pins s σ H _ I h) fun v s1 ⟨x, H1, I1, r1, q1⟩ => ?_)
  obtain ⟨a, xs, ex, hx, q⟩ := q1
  subst ex
  cases r1
  have hst : PO X (some (.Constant (.int 2) k p1)) (tPart (tC (.int 2))) := po_some pe_int
  refine wpAny_Slice (thn (hl.run pins s1 σ H1 (fun o' H2 => o' = o ∧ H2 = H1) I1 (ho _ _ _ ⟨rfl, rfl⟩)) fun vl s2 ⟨l, H2, I2, pl, el, e2⟩ => ?_)
  subst el e2
  refine thn (po_none.run pins s2 σ H2 (fun o H3 => o = none ∧ H3 = H2) I2 ⟨rfl, rfl⟩) fun vu s3 ⟨u, H3, I3, pu, eu, e3⟩ => ?_
  subst eu e3
  refine thn (hst.run pins s3 σ H3 (fun o H4 => o = some 2 ∧ H4 = H3) I3 ⟨2, rfl, rfl, rfl⟩) fun vs s4 ⟨o, H4, I4, ps, eo, e4⟩ => ?_
  subst eo e4
  have I5 : Inv X pins σ H4 { s4 with heap := s4.heap.push { cls := .type "slice", data := .fields #[vl, vu, vs] } } := I4.kept (t' := s4.toks) fun b ob q => Heap.get?_push_of_some _ q
  obtain ⟨its, r, ht, hz⟩ := I5.tuple hx
  have hlen := r.length
  cases pu
  show wpAny (model X.prog X.w) X.A (subscriptTail e (.Slice lw none (some (.Constant (.int 2) k p1)) p3) (.ref a) (.ref s4.heap.objs.size)) (EP X pins σ Q) X.xe { s4 with heap := s4.heap.push { cls := .type "slice", data := .fields #[vl, .none, vs] } }
  refine tail_any (ops := [.ref a, .ref s4.heap.objs.size]) ht.typeIs (PyProof.Rows.slot_tuple_getitem.lookup) ?_ (by with_unfolding_all rfl)
  refine getItem_tuple_ev (lo := min kk its.toArray.size) ht (Heap.IsSliceOf.new _ vl .none vs) pl ps (Nat.min_le_right _ _) (ha _) ?_ (by rw [List.size_toArray]; omega)
  refine ⟨.ref _, _, I5.laid (t' := s4.toks) (o := .tup (evL (xs.drop kk))) (fun b ob q => Heap.get?_push_of_some _ q) (Nat.le_refl _) ?_, rfl, q _ (I5.hok.fresh (Nat.le_refl _))⟩
  rw [show (its.toArray.toList.drop (min kk its.toArray.size)) = its.drop kk by
    rw [List.size_toArray]
    show its.drop _ = _
    by_cases h : kk ≤ its.length
    · rw [Nat.min_eq_left h]
    · rw [List.drop_eq_nil_of_le (by omega), List.drop_eq_nil_of_le (by omega)]]
  have hl1 := evL_len (l := xs.drop kk)
  rw [List.length_drop] at hl1
  exact ⟨by omega, _, vals_ev (r.drop kk), IsTup.new _ _⟩
theorem adj0 (n : Nat) : Builtin.Slice.sliceAdjust none none 2 (n : Int) = (((min 0 n : Nat) : Int), (n : Int)) := by
  rw [Nat.zero_min]
  rfl
theorem adj1 (n : Nat) : Builtin.Slice.sliceAdjust (some 1) none 2 (n : Int) = (((min 1 n : Nat) : Int), (n : Int)) := by
  show (min (1 : Int) (n : Int), (n : Int)) = _
  rw [show min (1 : Int) (n : Int) = ((min 1 n : Nat) : Int) by omega]
section
variable {S : Stc} {Γ : Ctx} {a : Expr} {pos : Pos} {E : α → SP} {m : Option (List α)} {k k' : Nat} {p1 p2 p3 : Pos}
theorem jn_ev0 (h : JN S a Γ m fun x => sh (tupS E x)) : JN S (.Subscript a (.Slice none none (some (.Constant (.int 2) k p1)) p3) pos) Γ (m.bind fun xs => some (evL xs)) (fun x => sh (tupS E x)) := fun σ W F sta z hz Q kq => by
  obtain ⟨x, h1, h2⟩ := run1 hz
  cases h2
  refine ⟨tEvT S.K 0 (tOf S a), fun X hX => hX.K ▸ pe_evT (peO hX) po_none (fun _ _ _ q => q) adj0, h σ W F sta x h1 _ fun v W' Fv ext _ _ r => ?_⟩
  obtain ⟨_, p, vs, rfl, q2, q3⟩ := r
  exact ⟨p, vs, rfl, .inl (.inl (ext.ok p _ q2)), (kq.ext ext).newT ext.ok q3.ev⟩
theorem jn_ev1 (h : JN S a Γ m fun x => sh (tupS E x)) : JN S (.Subscript a (.Slice (some (.Constant (.int 1) k' p2)) none (some (.Constant (.int 2) k p1)) p3) pos) Γ (m.bind fun xs => some (evL (xs.drop 1))) (fun x => sh (tupS E x)) := fun σ W F sta z hz Q kq => by
  obtain ⟨x, h1, h2⟩ := run1 hz
  cases h2
  refine ⟨tEvT S.K 1 (tOf S a), fun X hX => hX.K ▸ pe_evT (peO hX) (po_some pe_int) (fun _ _ _ q => ⟨1, rfl, q⟩) adj1, h σ W F sta x h1 _ fun v W' Fv ext _ _ r => ?_⟩
  obtain ⟨_, p, vs, rfl, q2, q3⟩ := r
  exact ⟨p, vs, rfl, .inl (.inl (ext.ok p _ q2)), (kq.ext ext).newT ext.ok (q3.drop 1).ev⟩
end
end CC
set_option maxHeartbeats 4000000
/-! sum of a tuple. -/
namespace CC
open PySem PySem.Spec L2
open PyProof.Rows hiding St
variable {α β γ δ τ υ ω ρ ε : Type}
section
variable {prog : Program} {w : World} {A : Around} {E : Value → Shared → Prop} {s : Shared} {l : Addr} {its : List Value} {ns : List Int} {Q : Value → Shared → Prop}
theorem sum_rawT (hh : A.handled = none) (hl : s.heap.IsTuple l its.toArray) (hi : IntsAre its ns)
    (h : ∀ h' tk t', (∀ b o, s.heap.get? b = some o → h'.get? b = some o) → Q (.int ns.sum t') { s with heap := h', toks := tk }) : wpAny (model prog w) A (call (.builtin "sum") [.ref l]) Q E s := by
  obtain ⟨xs, e⟩ := hi.allInts.items
  have hn : numsOf (intItems xs).toList = ns := by rw [← e]; exact hi.numsOf
  rw [nums_intItems] at hn
  rw [e] at hl
  refine PySem.W.ktm_sumG hh hl fun h' tk t' hk => ?_
  have := h h' tk t' hk
  rw [preSum_eq, List.take_of_length_le (by simp), hn]; exact this
end
def rSumT (K : PySem.W.Frag) : List V → Hp → VK → Prop := fun vs H Q => ∃ (a : Addr) (ns : List Int), vs = [V.ref a] ∧ SqT K H a (ns.map V.int) ∧ Q (.int ns.sum) H
theorem cr_sumT {X : Cx} (hc : X.calm = true) : CallR X (.builtin "sum") (rSumT X.K) := by
  intro pins s σ H vs us Q I r h
  obtain ⟨a, ns, rfl, hs, q⟩ := h
  obtain ⟨its, rv, hl, _⟩ := I.tuple hs
  rw [Vals.ref1 r]
  exact sum_rawT (I.ok.hd hc) hl rv.ints fun h' tk t' hk => ⟨.int _, H, I.kept hk, ⟨_, rfl⟩, q⟩
section
variable {S : Stc} {Γ : Ctx} {a : Expr} {pos : Pos}
theorem sum_tup {m : Option (List Int)} {p : Pos} (hm : S.mg "sum" = none) (h : JN S a Γ m fun x => sh (tupS intS x)) (hg : GlS S "sum" := by rfl) (hs : ∀ env, starEach [a] env = [(false, eval a env)] := by intro _; rfl) (hcm : S.calm = true := by rfl) : JN S (.Call (.Name "sum" p) [a] [] pos) Γ (m.bind fun x => some x.sum) fun z => sh (intS z) :=
  jn_b1 (f := fun x : List Int => some x.sum) (fun X hX => hX.K ▸ cr_sumT (hX.calm.trans hcm)) (fun W x v z ok hh e Q k => by
    cases e
    obtain ⟨a, vs, rfl, h2, h3⟩ := hh
    have e1 := each_flat fl_int h3
    subst e1
    exact ⟨a, x, rfl, .inl (.inl (ok a _ h2)), k.val ok rfl⟩) hm h hg (by decide +kernel) (by decide) (by decide) hs
end
end CC
set_option maxHeartbeats 4000000
/-! a dict of one pair; d.get(k, x). -/
namespace CC
open PySem PySem.Spec L2
open PyProof.Rows hiding St
variable {α β γ δ τ υ ω ρ ε κ : Type} [DecidableEq κ]
section
variable {S : Stc} {Γ : Ctx} {a b c e : Expr} {pos : Pos}
theorem jn_d1 {kE : κ → SP} {kk : κ → Key} {E : α → SP} {ma : Option κ} {mv : Option α} (K : KeyE kE kk) (ha : JN S a Γ ma fun k => sh (kE k)) (he : JN S e Γ mv fun x => sh (E x)) : JN S (.Dict [some a] [e] pos) Γ (ma.bind fun k => mv.bind fun x => some [(k, x)]) (dkO kk E) := fun σ W F sta z hz Q kq => by
  obtain ⟨k, x, m1, m2, m3⟩ := run2 hz
  cases m3
  refine ⟨tDisp [(tOf S a, tOf S e)], fun X hX => pe_disp (pps_cons (peO hX) (peO hX) pps_nil) rfl rfl (fun z => nomatch z) (Nat.le_of_ble_eq_true rfl), fun p hp => ?_⟩
  have e1 : Ext W ⟨upd W.H p (.dK []), W.B⟩ := Ext.new sta.ok hp
  show tOf S a σ (upd W.H p (.dK [])) _
  refine ha σ ⟨upd W.H p (.dK []), W.B⟩ F (sta.ext e1) k m1 _ fun u W1 F1 e2 _ _ r1 => he σ W1 F (sta.ext (e1.trans e2)) x m2 _ fun v W2 F2 e3 _ _ r2 => ?_
  have e23 : Ext ⟨upd W.H p (.dK []), W.B⟩ W2 := e2.trans e3
  have hp2 : W2.H p = some (.dK []) := e23.h p _ upd_same
  have ek := K.eq r1.2
  subst ek
  refine ⟨hp2, [(kk k, v)], rfl, Nat.le_of_ble_eq_true rfl, ?_⟩
  show Q (.ref p) (upd W2.H p (.dK [(kk k, v)]))
  have hB : W2.B p = none := e23.fr p (by show upd W.H p (.dK []) p ≠ none; rw [upd_same]; exact fun z => nomatch z) (sta.ok.back hp)
  have e3 : Ext W ⟨upd W2.H p (.dK [(kk k, v)]), W2.B⟩ := by
    refine ⟨wr_ok e3.ok hB, fun a o h => ?_, (e1.trans e23).b, fun a h3 h4 => ?_⟩
    · have na : a ≠ p := fun z => by rw [z, hp] at h; cases h
      show upd W2.H p _ a = _
      rw [upd_ne na]
      exact (e1.trans e23).h a o h
    · exact (e1.trans e23).fr a h3 h4
  have fp3 : FpOk ⟨upd W2.H p (.dK [(kk k, v)]), W2.B⟩ [p] := by
    refine ⟨List.nodup_cons.mpr ⟨by simp, List.nodup_nil⟩, fun a ha => ?_, fun a ha => ?_⟩
    · rw [List.mem_singleton.mp ha]
      show upd W2.H p _ p ≠ none
      rw [upd_same]
      exact fun z => nomatch z
    · rw [List.mem_singleton.mp ha]
      exact hB
  exact kq (.ref p) _ [p] e3 (fun a ha => by rw [List.mem_singleton.mp ha]; exact hp) fp3 ⟨p, _, rfl, upd_same, rfl, rfl, r2.2, trivial⟩
theorem jn_dget2 {apos : Pos} {kE : κ → SP} {kk : κ → Key} {E : α → SP} {R : List (κ × α) → OP} {ma : Option κ} {mb : Option (List (κ × α))} {mc : Option α} (K : KeyE kE kk) (D : DRd kk E R) (hb : JR S b Γ mb R) (ha : JN S a Γ ma fun k => sh (kE k)) (hc : JN S c Γ mc fun x => sh (E x)) (hbase : ∀ env, attributeBase b "get" env (eval b env) = eval b env := by intro _; rfl)
    (hf : ∀ env, ((backTo pos (starEach [a, c] env)).all (fun x => !x.1) && (backToKw pos (keywordEach [] env)).all (fun x => x.1.isSome) && decide (([a, c] : List Expr).length + ([] : List Keyword).length + (if ([] : List Keyword).isEmpty then 0 else 1) < 30)) = true := by intro _; rfl) (hline : (apos.endLine == pos.line) = true := by rfl) (htr : ∀ env, backTo pos (starEach [a, c] env) = [(false, eval a env), (false, eval c env)] := by intro _; rfl) :
    JN S (.Call (.Attribute b "get" apos) [a, c] [] pos) Γ (mb.bind fun s => ma.bind fun k => mc.bind fun x => some ((getM s k).getD x)) fun z => sh (E z) := fun σ W F st z hz Q kq => by
  obtain ⟨s, m1, hz⟩ := run1 hz
  obtain ⟨k, x, m2, m3, m4⟩ := run2 hz
  cases m4
  refine ⟨tDGet2 (tOf S b) (tOf S a) (tOf S c), fun X hX => pe_dget2 (by have := hX.un; omega) (peO hX) (peO hX) (peO hX) ⟨hbase _, hf _, hline, htr _⟩, ?_⟩
  refine hb σ W F st s m1 _ fun u W1 e1 ⟨F2, r2, al⟩ => ?_
  obtain ⟨p0, r0, eu, h0, _⟩ := D W1 s u F2 e1.ok r2
  refine ⟨p0, eu, ?_, ha σ W1 F (st.ext e1) k m2 _ fun v W2 F1 e2 _ _ r1 => hc σ W2 F (st.ext (e1.trans e2)) x m3 _ fun d W3 F3 e3 _ _ r3 => ?_⟩
  · exact .inl ⟨r0, .inl h0⟩
  have r2' : (R s).C W3 u F2 := OP.loc _ r2 (e2.trans e3).b fun x hx => (e2.trans e3).h.eq (al x hx)
  obtain ⟨p, r, rfl, h2, h3⟩ := D W3 s u F2 e3.ok r2'
  cases eu
  have ek := K.eq r1.2
  subst ek
  have g := h3.get K k
  have kx := (kq.ext ((e1.trans e2).trans e3))
  refine ⟨valV r (kk k), DGet.k h2, ?_⟩
  cases hg : getM s k with
  | none =>
    rw [hg] at g
    simp only at g
    rw [g]
    exact (hg ▸ kx).val e3.ok r3.2
  | some y =>
    rw [hg] at g
    obtain ⟨w, g1, g2⟩ := g
    rw [g1]
    exact (hg ▸ kx).val e3.ok g2
end
end CC
set_option maxHeartbeats 4000000
/-! dict comprehensions: keys ints (texts), values shared. -/
namespace CC
open PySem PySem.Spec L2
open PyProof.Rows hiding St
variable {α β γ δ τ υ ω ρ ε κ : Type} [DecidableEq κ]
def dcGo (t : α → Option Bool) (fk : α → Option κ) (fv : α → Option β) : List α → List (κ × β) → Option (List (κ × β))
  | [], s => some s
  | x :: xs, s => (t x).bind fun b => bif b then (fk x).bind fun k => (fv x).bind fun v => dcGo t fk fv xs (putM s k v) else dcGo t fk fv xs s
def dcM (t : α → Option Bool) (fk : α → Option κ) (fv : α → Option β) (xs : List α) : Option (List (κ × β)) := if xs.length ≤ LIM then dcGo t fk fv xs [] else none
theorem putR_len (k : κ) (x : β) : ∀ s : List (κ × β), (putR s k x).length = s.length
  | [] => rfl
  | q :: s => by
    unfold putR
    rw [List.length_cons, List.length_cons, putR_len k x s]
theorem putM_len (s : List (κ × β)) (k : κ) (x : β) : (putM s k x).length ≤ s.length + 1 := by
  unfold putM
  split
  · rw [putR_len]; omega
  · rw [List.length_append, List.length_singleton]; omega
section
variable {S : Stc} {Γ Δ : Ctx} {a b c e tg iter kx vx : Expr} {es ifs : List Expr} {pos : Pos}
theorem jn_dc {scope : Scope} {mi : Option (List α)} {E : α → SP} {up : α → Ctx → Ctx} {ws : List Nat} {mt : α → Option Bool} {mk : α → Option κ} {mv : α → Option β} {kE : κ → SP} {kk : κ → Key} {G : β → SP} (K : KeyE kE kk) (own : List (Str × Nat)) (nd : S.N.Nodup) (hi : JIc S tg iter Γ mi E) (ok : blkC S.N S.sc scope own = true) (hg : JG (S.blk scope) tg E up ws)
    (hw : ∀ i ∈ ws, i ∈ own.map (·.2)) (hl : ∀ i ∈ ws, i < Γ.length) (ht : ∀ x, JTs (S.blk scope) ifs (up x (wipeC Γ (own.map (·.2)))) (mt x)) (hk : ∀ x, JN (S.blk scope) kx (up x (wipeC Γ (own.map (·.2)))) (mk x) fun k => sh (kE k)) (hv : ∀ x, JN (S.blk scope) vx (up x (wipeC Γ (own.map (·.2)))) (mv x) fun y => sh (G y))
    (hs : ∀ env x, foldedSetIterable iter env x = pure x := by intro _ _; rfl) (hcm : S.calm = true := by rfl) :
    JN S (.DictComp kx vx [⟨tg, iter, ifs, 0⟩] scope pos) Γ (mi.bind fun xs => dcM mt mk mv xs) (dkO kk G) := fun σ W F st zs hx Q kq => by
  refine ⟨tDc (tiOf S tg iter) (tgOf (S.blk scope) tg) (ttsOf (S.blk scope) ifs) (tOf (S.blk scope) kx) (tOf (S.blk scope) vx) (own.map (·.2)), fun X hX => pe_dc (hX.calm.trans hcm) (by rw [hX.N]; exact nd) (piO hX) (by rw [hX.N, hX.sc]; exact blkOk_by ok) (fun s H C cl fp => pgO (hX.blk scope s H C cl fp)) (fun s H C cl fp => ptsO (hX.blk scope s H C cl fp)) (fun s H C cl fp => peO (hX.blk scope s H C cl fp)) (fun s H C cl fp => peO (hX.blk scope s H C cl fp)) (hs _), ?_⟩
  obtain ⟨xs, h1, h2⟩ := run1 hx
  unfold dcM at h2
  split at h2
  · rename_i hlen
    refine hi σ W F st xs h1 _ fun J W' ext iok => fun D hD => ?_
    have st' := st.ext ext
    refine ⟨fun i m H => m = xs.length - i ∧ i ≤ xs.length ∧ ∃ (W1 : Wd) (r : List (Key × V)) (s : List (κ × β)), W1.H = H ∧ Ext W' W1 ∧ W1.H D = some (.dK r) ∧ W1.B D = none ∧ s.length ≤ i ∧ dcGo mt mk mv (xs.drop i) s = some zs ∧ DRel kk G W1.B r s,
      ⟨xs.length, by simp, Nat.zero_le _, ⟨upd W'.H D (.dK []), W'.B⟩, [], [], rfl, Ext.new ext.ok hD, upd_same, ext.ok.back hD, Nat.le_refl _, by simpa using h2, DRel.nil⟩, ?_⟩
    rintro i m H ⟨rfl, hi', W1, r, s, rfl, e1, d1, d2, la, c1, o1⟩
    obtain ⟨iok1, iok2⟩ := iok W1 e1
    by_cases hlt : i < xs.length
    · obtain ⟨g1, g2⟩ := iok1 i xs[i] (List.getElem?_eq_getElem hlt)
      refine .inr ⟨g1, fun H' => ∃ m', m' < xs.length - i ∧ (m' = xs.length - (i + 1) ∧ i + 1 ≤ xs.length ∧ ∃ (W1 : Wd) (r : List (Key × V)) (s : List (κ × β)), W1.H = H' ∧ Ext W' W1 ∧ W1.H D = some (.dK r) ∧ W1.B D = none ∧ s.length ≤ i + 1 ∧ dcGo mt mk mv (xs.drop (i + 1)) s = some zs ∧ DRel kk G W1.B r s), fun H' h => h, fun v H' y => ?_⟩
      obtain ⟨W2, rfl, e2, p2⟩ := g2 v H' y
      have hDrop : xs.drop i = xs[i] :: xs.drop (i + 1) := List.drop_eq_getElem_cons hlt
      rw [hDrop] at c1
      obtain ⟨b, t1, t2⟩ := run1 (f := fun b => bif b then (mk xs[i]).bind fun k => (mv xs[i]).bind fun v => dcGo mt mk mv (xs.drop (i + 1)) (putM s k v) else dcGo mt mk mv (xs.drop (i + 1)) s) c1
      obtain ⟨Fw, sw, subw⟩ := (st'.ext (e1.trans e2)).wipe (own.map (·.2))
      refine hg _ _ W2 Fw xs[i] v sw (fun j hj => by rw [wipeC_len]; exact hl j hj) p2 _ fun σ2 F2 wp _ s2 sub2 => ⟨?_, ?_⟩
      · rw [wp _ hw]
        exact jc_of.wipe_wipe σ (own.map (·.2))
      refine ht xs[i] σ2 W2 F2 s2 b t1 _ fun W3 e3 => ?_
      have eAll : Ext W1 W3 := e2.trans e3
      cases b with
      | true =>
        obtain ⟨k1, v1, t3, t4, t5⟩ := run2 (f := fun k v => dcGo mt mk mv (xs.drop (i + 1)) (putM s k v)) t2
        refine iteT (hk xs[i] σ2 W3 F2 (s2.ext e3) k1 t3 _ fun u W4 Fu e4 _ _ r4 => hv xs[i] σ2 W4 F2 ((s2.ext e3).ext e4) v1 t4 _ fun y W5 Fy e5 _ _ r5 => ?_)
        have eA : Ext W1 W5 := (eAll.trans e4).trans e5
        have hD5 : W5.H D = some (.dK r) := eA.h D _ d1
        have hB5 : W5.B D = none := eA.fr D (by rw [d1]; exact fun z => nomatch z) d2
        have ek := K.eq r4.2
        subst ek
        have hr : r.length < LIM := by
          have := o1.len
          omega
        refine ⟨r, kk k1, rfl, hD5, lim_lt hr, xs.length - (i + 1), by omega, rfl, hlt, ⟨upd W5.H D (.dK (putK r (kk k1) y)), W5.B⟩, putK r (kk k1) y, putM s k1 v1, rfl, ?_, upd_same, hB5, ?_, t5, ?_⟩
        · have q := e1.trans eA
          refine ⟨fun a o h => ?_, fun a o h => ?_, q.b, q.fr⟩
          · have z : a ≠ D := fun z => by
              rw [z] at h
              rw [show W5.B D = some o from h] at hB5
              cases hB5
            show upd W5.H D _ a = some o
            rw [upd_ne z]
            exact q.ok a o h
          · show upd W5.H D _ a = some o
            rw [upd_ne (ne_of_none h hD)]
            exact q.h a o h
        · have := putM_len s k1 v1
          omega
        · exact (o1.mono eA.b).put K r5.2
      | false =>
        exact iteF ⟨xs.length - (i + 1), by omega, rfl, hlt, W3, r, s, rfl, e1.trans eAll, eAll.h D _ d1, eAll.fr D (by rw [d1]; exact fun z => nomatch z) d2, by omega, t2, o1.mono eAll.b⟩
    · have ei : i = xs.length := by omega
      subst ei
      rw [List.drop_length] at c1
      cases c1
      refine .inl ⟨iok2 _ (Nat.le_refl _), kq (.ref D) W1 [D] (ext.trans e1) (fun a ha => ?_) ⟨?_, fun a ha => ?_, fun a ha => ?_⟩ ⟨D, r, rfl, d1, rfl, o1⟩⟩
      · rw [List.mem_singleton.mp ha]; exact ext.h.back hD
      · exact List.nodup_cons.mpr ⟨List.not_mem_nil, List.nodup_nil⟩
      · rw [List.mem_singleton.mp ha, d1]; exact fun z => nomatch z
      · rw [List.mem_singleton.mp ha]; exact d2
  · cases h2
theorem swD_cell {k v : Expr} {gs : List Comprehension} {scope : Scope} {pos py : Pos} {y : Str} {l : Nat} {env : Env} (hy : env.scope.names.lookup y = some .cell) : swapsWith (.DictComp k v gs scope pos) (some (.Name y py)) l env = pure false := by
  have ky : env.kindOf y = some .cell := hy
  unfold swapsWith
  simp only [ky]
  cases env.blockKind == ScopeKind.function <;> rfl
theorem swD_true {k v : Expr} {gs : List Comprehension} {scope : Scope} {pos py : Pos} {y : Str} {l : Nat} {env : Env} (hk : env.scope.kind = .function) (hy : env.scope.names.lookup y = some .local) (hl : (py.line == pos.line) = true)
    (ha : (scope.names.any fun (n, k) => n == y && (k == .local || k == .cell)) = false) : swapsWith (.DictComp k v gs scope pos) (some (.Name y py)) l env = pure true := by
  have ky : env.kindOf y = some .local := hy
  have hb : env.blockKind = .function := by unfold Env.blockKind; rw [hk]; rfl
  unfold swapsWith
  simp only [hb, ky, ha, Expr.pos, hl]
  rfl
theorem js_setDcC {x : Str} {py spos pos : Pos} {k v : Expr} {gs : List Comprehension} {scope : Scope} {m : Option α} {R : α → OP} (i : Nat) (nd : S.N.Nodup) (h : JN S (.DictComp k v gs scope pos) Γ m R) (hi : (Γ[i]?).isSome = true := by rfl) (hN : S.N[i]? = some x := by rfl) (hx : S.sc.names.lookup x = some .cell := by rfl) (hp : (S.prot.contains i) = false := by rfl) (hf : S.fn x = true := by rfl) :
    JS S (.Assign [.Name x py] (.DictComp k v gs scope pos) spos) Γ m fun a => .nx (Γ.set i (some (R a))) := fun σ W F sta y hy E k => by
  refine ⟨tAsg (tOf S _) (gName i), fun X hX => ps_set (by rw [hX.N]; exact nd) (by rw [hX.N]; exact hN) (locS (.inr hx) hX) (peO hX) (swD_cell (by rw [hX.sc]; exact hx)) (by rw [hX.fn]; exact .inl hf), h σ W F sta y hy _ fun v W' Fv ext fr fp r => ?_⟩
  obtain ⟨F', s', stp⟩ := sta_set sta ext fr fp r hi
  exact k _ W' F' (Keep.set (ncon hp)) stp s'
/-- in d, as a test -/
theorem jt_din {kE : κ → SP} {kk : κ → Key} {E : β → SP} {R : List (κ × β) → OP} {ma : Option κ} {mb : Option (List (κ × β))} (K : KeyE kE kk) (D : DRd kk E R) (ha : JN S a Γ ma fun k => sh (kE k)) (hb : JR S b Γ mb R) (h1 : behindInMarks .In b = false := by first | exact nobehind _ (by decide) (by decide) | rfl) :
    JT S (.Compare a [.In] [b] pos) Γ (ma.bind fun k => mb.bind fun s => some (getM s k).isSome) := fun σ W F st z hz Q kq => by
  obtain ⟨k, s, m1, m2, m3⟩ := run2 hz
  cases m3
  refine ⟨tB (tDIn (tOf S a) (tOf S b)), fun X hX => pt_cmp (pc_din (by have := hX.un; omega) (peO hX) (peO hX)) h1, ?_⟩
  refine ha σ W F st k m1 _ fun v W1 F1 e1 _ _ r1 => hb σ W1 F (st.ext e1) s m2 _ fun u W2 e2 ⟨F2, r2, _⟩ => ?_
  obtain ⟨p, r, rfl, h2, h3⟩ := D W2 s u F2 e2.ok r2
  have ek := K.eq r1.2
  subst ek
  refine ⟨p, _, rfl, DGet.k h2, ?_⟩
  have g := h3.get K k
  have e : (valV r (kk k)).isSome = (getM s k).isSome := by
    cases q : getM s k with
    | none => rw [q] at g; rw [g]; rfl
    | some y =>
      rw [q] at g
      obtain ⟨u, g, _⟩ := g
      rw [g]
      rfl
  exact ⟨_, rfl, e ▸ kq _ (e1.trans e2)⟩
theorem jt_dnin {kE : κ → SP} {kk : κ → Key} {E : β → SP} {R : List (κ × β) → OP} {ma : Option κ} {mb : Option (List (κ × β))} (K : KeyE kE kk) (D : DRd kk E R) (ha : JN S a Γ ma fun k => sh (kE k)) (hb : JR S b Γ mb R) (h1 : behindInMarks .NotIn b = false := by first | exact nobehind _ (by decide) (by decide) | rfl) :
    JT S (.Compare a [.NotIn] [b] pos) Γ (ma.bind fun k => mb.bind fun s => some (!(getM s k).isSome)) := fun σ W F st z hz Q kq => by
  obtain ⟨k, s, m1, m2, m3⟩ := run2 hz
  cases m3
  refine ⟨tB (tDNotIn (tOf S a) (tOf S b)), fun X hX => pt_cmp (pc_dnotin (by have := hX.un; omega) (peO hX) (peO hX)) h1, ?_⟩
  refine ha σ W F st k m1 _ fun v W1 F1 e1 _ _ r1 => hb σ W1 F (st.ext e1) s m2 _ fun u W2 e2 ⟨F2, r2, _⟩ => ?_
  obtain ⟨p, r, rfl, h2, h3⟩ := D W2 s u F2 e2.ok r2
  have ek := K.eq r1.2
  subst ek
  refine ⟨p, _, rfl, DGet.k h2, ?_⟩
  have g := h3.get K k
  have e : (valV r (kk k)).isSome = (getM s k).isSome := by
    cases q : getM s k with
    | none => rw [q] at g; rw [g]; rfl
    | some y =>
      rw [q] at g
      obtain ⟨u, g, _⟩ := g
      rw [g]
      rfl
  exact ⟨_, rfl, e ▸ kq _ (e1.trans e2)⟩
end
end CC
set_option maxHeartbeats 4000000
/-! range of three numbers; xs.index(y). -/
namespace CC
open PySem PySem.Spec L2
open PyProof.Rows hiding St
variable {α β γ δ τ υ ω ρ ε κ : Type}
/-- range(lo, hi, c) -/
def rng3 (lo hi c : Int) : Option (List Int) := if hi - lo ≤ LIM ∧ lo - hi ≤ LIM ∧ -LIM ≤ lo ∧ lo ≤ LIM ∧ -LIM ≤ hi ∧ hi ≤ LIM ∧ c ≠ 0 ∧ -LIM ≤ c ∧ c ≤ LIM then some ((List.range (Builtin.Range.rangeSize lo hi c).toNat).map fun i : Nat => lo + (i : Nat) * c) else none
theorem rsize {lo hi c : Int} (h0 : c ≠ 0) (h1 : hi - lo ≤ 1000000) (h2 : lo - hi ≤ 1000000) : 0 ≤ Builtin.Range.rangeSize lo hi c ∧ Builtin.Range.rangeSize lo hi c ≤ 1000001 := by
  unfold Builtin.Range.rangeSize
  split
  · split
    · have a := Int.ediv_nonneg (a := hi - lo - 1) (b := c) (by omega) (by omega)
      have b : (hi - lo - 1) / c ≤ hi - lo - 1 := Int.ediv_le_self _ (by omega)
      omega
    · omega
  · split
    · have a := Int.ediv_nonneg (a := lo - hi - 1) (b := -c) (by omega) (by omega)
      have b : (lo - hi - 1) / (-c) ≤ lo - hi - 1 := Int.ediv_le_self _ (by omega)
      omega
    · omega
theorem ok_rng3 {lo c : Int} {n : Nat} {C : Wd → Prop} (hC : ∀ W1, C W1 → Ex W1.B W1.H) : ItOk (Itc lo c n) C ((List.range n).map fun i : Nat => lo + (i : Nat) * c) intS := fun W1 cc => by
  refine ⟨fun i x hx => ?_, fun i hi => by
    show n ≤ i
    simpa using hi⟩
  have hi : i < n := by
    have := (List.getElem?_eq_some_iff.mp hx).1
    simpa using this
  rw [List.getElem?_map, List.getElem?_range hi] at hx
  cases hx
  exact ⟨hi, fun v H' ⟨e1, e2⟩ => ⟨W1, e1.symm, Ext.refl (hC W1 cc), e2⟩⟩
section
variable {S : Stc} {Γ Δ : Ctx} {a b c e tg iter : Expr} {es ifs : List Expr} {pos : Pos}
theorem ji_rng3 {p : Pos} {m m' m'' : Option Int} (hm : S.mg "range" = none) (h : JN S a Γ m fun x => sh (intS x)) (h' : JN S b Γ m' fun x => sh (intS x)) (h'' : JN S c Γ m'' fun x => sh (intS x)) (hg : GlS S "range" := by rfl) (hs : ∀ env, starEach [a, b, c] env = (false, eval a env) :: starEach [b, c] env := by intro _; rfl)
    (hs2 : ∀ env, starEach [b, c] env = (false, eval b env) :: starEach [c] env := by intro _; rfl) (hs3 : ∀ env, starEach [c] env = [(false, eval c env)] := by intro _; rfl) : JI S tg (.Call (.Name "range" p) [a, b, c] [] pos) Γ (m.bind fun lo => m'.bind fun hi => m''.bind fun c => rng3 lo hi c) intS := fun σ W F st xs hx R k => by
  obtain ⟨lo, h1, hx⟩ := run1 hx
  obtain ⟨hi, cc, h1', h1'', h2⟩ := run2 hx
  unfold rng3 at h2
  split at h2
  · rename_i hb
    cases h2
    have z : (LIM : Int) = 1000000 := rfl
    rw [z] at hb
    obtain ⟨b1, b2, b3, b4, b5, b6, b7, b8, b9⟩ := hb
    have hr := rsize b7 b1 b2
    refine ⟨iRng3 (tCons (tOf S a) (tCons (tOf S b) (tCons (tOf S c) tNil))), fun X hX => pi_range3 (hg.gl hX) (mgS hm hX) (pa_cons (peO hX) (pa_cons (peO hX) (pa_cons (peO hX) pa_nil (hs3 _)) (hs2 _)) (hs _)) (hs _) (by rw [hs2, hs3]; rfl), h σ W F st lo h1 _ fun v W1 Fv ext _ _ r => ?_⟩
    obtain ⟨_, rfl⟩ := r
    refine h' σ W1 F (st.ext ext) hi h1' _ fun v W2 Fv ext2 _ _ r => ?_
    obtain ⟨_, rfl⟩ := r
    refine h'' σ W2 F ((st.ext ext).ext ext2) cc h1'' _ fun v W3 Fv ext3 _ _ r => ?_
    obtain ⟨_, rfl⟩ := r
    refine ⟨lo, hi, cc, (Builtin.Range.rangeSize lo hi cc).toNat, rfl, ⟨b7, by omega, ?_, by omega⟩, k _ W3 ((ext.trans ext2).trans ext3) (ok_rng3 fun W1 c => c.1)⟩
    unfold Builtin.Range.small Builtin.Range.rangeFitsLong
    simp only [Bool.and_eq_true, Bool.or_eq_true, decide_eq_true_eq]
    refine ⟨⟨⟨⟨?_, ?_⟩, ?_⟩, ?_⟩, .inr ?_⟩
    · omega
    · omega
    · omega
    · omega
    · split
      · simp only [Bool.and_eq_true, decide_eq_true_eq]; omega
      · simp only [Bool.and_eq_true, decide_eq_true_eq]; omega
  · cases h2
/-- xs.index(y) -/
def idxM [DecidableEq α] (xs : List α) (y : α) : Option Int := if y ∈ xs then some (xs.idxOf y : Int) else none
theorem jn_index [DecidableEq α] {apos : Pos} {E : α → SP} {V : α → L2.V} {ma : Option (List α)} {mb : Option α} (f : FlatE E V) (ha : JN S a Γ ma fun xs => sh (lstS E xs)) (hb : JN S b Γ mb fun y => sh (E y))
    (hbase : ∀ env, attributeBase a "index" env (eval a env) = eval a env := by intro _; rfl)
    (hfew : ∀ env, ((backTo pos (starEach [b] env)).all (fun x => !x.1) && (backToKw pos (keywordEach [] env)).all (fun x => x.1.isSome) && decide ([b].length + ([] : List Keyword).length + (if ([] : List Keyword).isEmpty then 0 else 1) < 30)) = true := by intro _; rfl)
    (hline : (apos.endLine == pos.line) = true := by rfl) (hs : ∀ env, starEach [b] env = (false, eval b env) :: starEach [] env := by intro _; rfl) :
    JN S (.Call (.Attribute a "index" apos) [b] [] pos) Γ (ma.bind fun xs => mb.bind fun y => idxM xs y) fun z => sh (intS z) := fun σ W F st z hz Q kq => by
  obtain ⟨xs, y, h1, h2, h3⟩ := run2 hz
  unfold idxM at h3
  split at h3
  · rename_i hm
    cases h3
    refine ⟨tBM S.K "list" (rIndex S.K) (tOf S a) (tCons (tOf S b) tNil), fun X hX => hX.K ▸ pe_bm PySem.F.plainAttrs_list PySem.F.slot_list_index PySem.F.type_list_index mt_index (peO hX) (pa_cons (peO hX) pa_nil (hs _)) (hbase _) (hfew _) hline (hs _) rfl, ?_⟩
    refine ha σ W F st xs h1 _ fun v W1 F1 e1 _ _ r1 => ?_
    obtain ⟨_, p, vs, rfl, q2, q3⟩ := r1
    have e := each_flat f q3
    subst e
    have hH := e1.ok p _ q2
    refine ⟨.inl ⟨rfl, _, .inl (.inl hH)⟩, ?_⟩
    refine hb σ W1 F (st.ext e1) y h2 _ fun u W2 F2 e2 _ _ r2 => ?_
    have eu := f.eq r2.2
    subst eu
    have hj : xs.idxOf y < xs.length := List.idxOf_lt_length_iff.mpr hm
    refine ⟨p, xs.map V, V y, xs.idxOf y, V (xs[xs.idxOf y]), rfl, rfl, .inl (.inl (e2.h p _ hH)), f.flat y, flat_all f xs, ?_, ?_, fun m z hm2 hz2 => ?_, (kq.ext (e1.trans e2)).val e2.ok rfl⟩
    · rw [List.getElem?_map, List.getElem?_eq_getElem hj]; rfl
    · rw [f.inj, List.getElem_idxOf hj]
      exact decide_eq_true rfl
    · rw [List.getElem?_map, List.getElem?_eq_getElem (by omega)] at hz2
      have hz2 := Option.some.inj hz2
      subst hz2
      rw [f.inj]
      refine decide_eq_false fun q => ?_
      have := List.not_of_lt_findIdx (p := fun x => x == y) (xs := xs) (i := m) hm2
      rw [q] at this
      simp at this
  · cases h3
end
end CC
set_option maxHeartbeats 4000000
/-! and, or as values, with state. -/
namespace CC
open PySem PySem.Spec L2
open PyProof.Rows hiding St
variable {α β γ δ τ υ ω ρ ε κ : Type}
section
variable {S : Stc} {Γ : τ → Ctx} {s : τ} {a b c e : Expr} {es : List Expr} {pos : Pos}
theorem je_one {op : BoolOp} {m : Option (α × τ)} {R : α → OP} (h : JE S a Γ s m R) : JE S (.BoolOp op [a] pos) Γ s m R := fun σ W F sta x hx Q k => ⟨tOf S a, fun X hX => pe_one (peO hX), h σ W F sta x hx Q k⟩
theorem je_and {ma : Option (Bool × τ)} {mb : τ → Option (Bool × τ)} (ha : JE S a Γ s ma fun z => sh (boolS z)) (hb : ∀ s1, JE S (.BoolOp .And (b :: es) pos) Γ s1 (mb s1) fun z => sh (boolS z)) :
    JE S (.BoolOp .And (a :: b :: es) pos) Γ s (ma.bind fun p => bif p.1 then mb p.2 else some (false, p.2)) fun z => sh (boolS z) := JE.of_sh fun σ W F sta z hz Q k => by
  obtain ⟨x, h1, h2⟩ := run1 hz
  obtain ⟨x1, x2⟩ := x
  refine ⟨tAndV (tOf S a) (tOf S (.BoolOp .And (b :: es) pos)), fun X hX => pe_and (peO hX) (peO hX), ha.sh sta h1 fun v W' F' stp sa r => ⟨x1, r, ?_⟩⟩
  cases x1 with
  | true => exact iteT ((hb x2).sh sa h2 fun v W2 F2 stp2 sa2 r2 => k v W2 F2 (stp.trans stp2) sa2 r2)
  | false =>
    cases h2
    exact iteF (k _ W' F' stp sa rfl)
theorem je_or {ma : Option (Bool × τ)} {mb : τ → Option (Bool × τ)} (ha : JE S a Γ s ma fun z => sh (boolS z)) (hb : ∀ s1, JE S (.BoolOp .Or (b :: es) pos) Γ s1 (mb s1) fun z => sh (boolS z)) :
    JE S (.BoolOp .Or (a :: b :: es) pos) Γ s (ma.bind fun p => bif p.1 then some (true, p.2) else mb p.2) fun z => sh (boolS z) := JE.of_sh fun σ W F sta z hz Q k => by
  obtain ⟨x, h1, h2⟩ := run1 hz
  obtain ⟨x1, x2⟩ := x
  refine ⟨tOrV (tOf S a) (tOf S (.BoolOp .Or (b :: es) pos)), fun X hX => pe_or (peO hX) (peO hX), ha.sh sta h1 fun v W' F' stp sa r => ⟨x1, r, ?_⟩⟩
  cases x1 with
  | false => exact iteF ((hb x2).sh sa h2 fun v W2 F2 stp2 sa2 r2 => k v W2 F2 (stp.trans stp2) sa2 r2)
  | true =>
    cases h2
    exact iteT (k _ W' F' stp sa rfl)
theorem je_max2 {p : Pos} {m : Option (α × τ)} {G : α → List SP} (g1 g2 : α → Int) (hm : S.mg "max" = none) (h : JEA S (e :: es) Γ s m G) (hG : ∀ x, G x = [intS (g1 x), intS (g2 x)] := by intro _; rfl) (hg : GlS S "max" := by rfl) (he : ∀ env, starEach (e :: es) env = (false, eval e env) :: starEach es env := by intro _; rfl) (hpl : ∀ env, (backTo pos (starEach es env)).any (·.1) = false := by intro _; rfl) (hcm : S.calm = true := by rfl) : JE S (.Call (.Name "max" p) (e :: es) [] pos) Γ s (m.bind fun x => some (if g2 x.1 > g1 x.1 then g2 x.1 else g1 x.1, x.2)) fun z => sh (intS z) := JE.of_sh fun σ W F sta z hz Q kq => by
  obtain ⟨x, h1, h2⟩ := run1 hz
  cases h2
  refine ⟨tCB (fun xs H Q => ∃ i j, xs = [.int i, .int j] ∧ Q (.int (if j > i then j else i)) H) (taOf S (e :: es)), fun X hX => pe_callB (call_max2 (hX.calm.trans hcm)) (hg.gl hX) (mgS hm hX) (by decide +kernel) (paO hX) (by decide) (by decide) (he _) (hpl _), h σ W F sta x h1 _ fun vs W' F' stp sa hh => ?_⟩
  rw [hG] at hh
  obtain ⟨u, v, rfl, a1, a2⟩ := hets2 hh
  cases a1
  cases a2
  exact ⟨_, _, rfl, kq _ W' F' stp sa rfl⟩
theorem je_min2 {p : Pos} {m : Option (α × τ)} {G : α → List SP} (g1 g2 : α → Int) (hm : S.mg "min" = none) (h : JEA S (e :: es) Γ s m G) (hG : ∀ x, G x = [intS (g1 x), intS (g2 x)] := by intro _; rfl) (hg : GlS S "min" := by rfl) (he : ∀ env, starEach (e :: es) env = (false, eval e env) :: starEach es env := by intro _; rfl) (hpl : ∀ env, (backTo pos (starEach es env)).any (·.1) = false := by intro _; rfl) (hcm : S.calm = true := by rfl) : JE S (.Call (.Name "min" p) (e :: es) [] pos) Γ s (m.bind fun x => some (if g2 x.1 < g1 x.1 then g2 x.1 else g1 x.1, x.2)) fun z => sh (intS z) := JE.of_sh fun σ W F sta z hz Q kq => by
  obtain ⟨x, h1, h2⟩ := run1 hz
  cases h2
  refine ⟨tCB (fun xs H Q => ∃ i j, xs = [.int i, .int j] ∧ Q (.int (if j < i then j else i)) H) (taOf S (e :: es)), fun X hX => pe_callB (call_min2 (hX.calm.trans hcm)) (hg.gl hX) (mgS hm hX) (by decide +kernel) (paO hX) (by decide) (by decide) (he _) (hpl _), h σ W F sta x h1 _ fun vs W' F' stp sa hh => ?_⟩
  rw [hG] at hh
  obtain ⟨u, v, rfl, a1, a2⟩ := hets2 hh
  cases a1
  cases a2
  exact ⟨_, _, rfl, kq _ W' F' stp sa rfl⟩
end
section
variable {S : Stc} {Γ : Ctx} {a b c e : Expr} {es : List Expr} {pos : Pos}
theorem jn_onone {E : α → SP} {j} : JN S (.Constant .none j pos) Γ (some (none : Option α)) fun o => sh (optS E o) := jn_c (E := optS E) (fun _ _ => pe_non) fun _ => rfl
theorem jn_osome {E : α → SP} {m : Option α} (h : JN S e Γ m fun x => sh (E x)) : JN S e Γ (m.bind fun x => some (some x)) fun o => sh (optS E o) := fun σ W F sta o ho Q k => by
  obtain ⟨x, h1, h2⟩ := run1 ho
  cases h2
  exact h σ W F sta x h1 Q k
theorem jx_osome {E : α → SP} {m : Option (Res ε α)} {Xp : ε → XP} (h : JNX S e Γ m (fun x => sh (E x)) Xp) : JNX S e Γ (m.bind fun r => some (mapX some r)) (fun o => sh (optS E o)) Xp := fun σ W F st z hz Q k => by
  obtain ⟨r, h1, h2⟩ := run1 hz
  cases h2
  refine h σ W F st r h1 Q ?_
  cases r with
  | ok x => exact k
  | er u => exact k
end
section
variable {S : Stc} {Γ : τ → Ctx} {s : τ} {a b c e : Expr} {es : List Expr} {pos : Pos}
theorem je_osome {E : α → SP} {m : Option (α × τ)} (h : JE S e Γ s m fun x => sh (E x)) : JE S e Γ s (m.bind fun q => some (some q.1, q.2)) fun o => sh (optS E o) := fun σ W F sta o ho Q k => by
  obtain ⟨x, h1, h2⟩ := run1 ho
  cases h2
  exact h σ W F sta x h1 Q k
end
end CC
set_option maxHeartbeats 1000000
/-! Plain laws of the mirrors' words: when they give something, and what. -/
namespace CC
open PySem PySem.Spec L2
open PyProof.Rows hiding St
variable {α β γ δ τ υ ω ρ : Type}
def Ok (m : Option α) (P : α → Prop) : Prop := ∃ x, m = some x ∧ P x
theorem Ok.one {P : α → Prop} {x : α} (h : P x) : Ok (some x) P := ⟨x, rfl, h⟩
theorem Ok.bind {m : Option α} {f : α → Option β} {P : α → Prop} {Q : β → Prop} (h : Ok m P) (k : ∀ x, P x → Ok (f x) Q) : Ok (m.bind f) Q := by
  obtain ⟨x, rfl, hx⟩ := h
  exact k x hx
theorem Ok.mono {m : Option α} {P Q : α → Prop} (h : Ok m P) (k : ∀ x, P x → Q x) : Ok m Q := by
  obtain ⟨x, rfl, hx⟩ := h
  exact ⟨x, rfl, k x hx⟩
theorem Ok.eq {m : Option α} {x : α} (h : m = some x) : Ok m (· = x) := ⟨x, h, rfl⟩
theorem Ok.of_eq {m : Option α} {x : α} {P : α → Prop} (h : m = some x) (p : P x) : Ok m P := ⟨x, h, p⟩
theorem Ok.eq_some {m : Option α} {x : α} (h : Ok m (· = x)) : m = some x := by
  obtain ⟨y, e, rfl⟩ := h
  exact e
theorem Ok.bif {b : Bool} {m n : Option α} {P : α → Prop} (h : b = true → Ok m P) (k : b = false → Ok n P) : Ok (bif b then m else n) P := by
  cases b with
  | true => exact h rfl
  | false => exact k rfl
theorem bind_eta (m : Option (α × β)) : (m.bind fun r => some (r.1, r.2)) = m := by cases m <;> rfl
theorem bind_id (m : Option α) : (m.bind fun r => some r) = m := by cases m <;> rfl
theorem bassoc (m : Option α) (f : α → Option β) (g : β → Option γ) : (m.bind f).bind g = m.bind fun x => (f x).bind g := by cases m <;> rfl
theorem bif_bind (b : Bool) (m n : Option α) (f : α → Option β) : (bif b then m else n).bind f = bif b then m.bind f else n.bind f := by cases b <;> rfl
theorem run_eq {m : Option α} {f : α → Option β} {x : α} (h : m = some x) : m.bind f = f x := by rw [h]; rfl
/-! ### numbers -/
theorem mulO_l {x y : Int} (h1 : -(2 ^ 64) < x) (h2 : x < 2 ^ 64) : mulO x y = some (x * y) := by
  unfold mulO
  rw [if_pos (.inl ⟨h1, h2⟩)]
theorem mulO_r {x y : Int} (h1 : -(2 ^ 64) < y) (h2 : y < 2 ^ 64) : mulO x y = some (x * y) := by
  unfold mulO
  rw [if_pos (.inr ⟨h1, h2⟩)]
theorem divO_eq {x y : Int} (h1 : 0 < y) (h2 : y < 1073741824) : divO x y = some (x / y) := by
  unfold divO
  rw [if_pos ⟨h1, h2⟩]
theorem modO_eq {x y : Int} (h1 : 0 < y) : modO x y = some (x % y) := by
  unfold modO
  rw [if_pos h1]
theorem mod_lo (x : Int) {y : Int} (h : 0 < y) : 0 ≤ x % y := Int.emod_nonneg x (by omega)
theorem mod_hi (x : Int) {y : Int} (h : 0 < y) : x % y < y := Int.emod_lt_of_pos x h
/-! ### ranges -/
def rl (n : Nat) : List Int := (List.range n).map fun i : Nat => (i : Int)
theorem rl_len (n : Nat) : (rl n).length = n := by unfold rl; rw [List.length_map, List.length_range]
theorem rl_get {n k : Nat} (h : k < n) : (rl n)[k]? = some (k : Int) := by
  unfold rl
  rw [List.getElem?_map, List.getElem?_range h]
  rfl
theorem rl_mem {n : Nat} {x : Int} : x ∈ rl n ↔ ∃ k : Nat, k < n ∧ x = (k : Int) := by
  unfold rl
  rw [List.mem_map]
  constructor
  · rintro ⟨k, h, rfl⟩
    exact ⟨k, List.mem_range.mp h, rfl⟩
  · rintro ⟨k, h, rfl⟩
    exact ⟨k, List.mem_range.mpr h, rfl⟩
theorem rl_succ (n : Nat) : rl (n + 1) = rl n ++ [(n : Int)] := by
  unfold rl
  rw [List.range_succ, List.map_append]
  rfl
theorem rl_nodup (n : Nat) : (rl n).Nodup := by
  unfold rl
  refine (List.pairwise_map).mpr ?_
  exact List.Pairwise.imp (fun h e => h (by omega)) (List.nodup_range (n := n))
theorem rng_nat {n : Nat} (h : n ≤ LIM) : rng 0 (n : Int) = some (rl n) := by
  have hl : (LIM : Int) = 1000000 := rfl
  have h' : n ≤ 1000000 := h
  unfold rng rl
  rw [if_pos (by rw [hl]; omega)]
  rw [show ((n : Int) - 0).toNat = n by omega]
  congr 1
  exact List.map_congr_left fun i _ => by omega
theorem rng_int {z : Int} (h0 : 0 ≤ z) (h : z ≤ 1000000) : rng 0 z = some (rl z.toNat) := by
  have : rng 0 ((z.toNat : Nat) : Int) = some (rl z.toNat) := rng_nat (by show z.toNat ≤ 1000000; omega)
  rw [← this]
  congr 1
  omega
/-! ### looks and stores -/
theorem ixN_nat {n k : Nat} (h : k < n) : ixN n (k : Int) = some k := by
  unfold ixN
  rw [if_pos (by omega), if_pos (by omega), Int.toNat_natCast]
theorem ixN_int {n : Nat} {z : Int} (h0 : 0 ≤ z) (h : z < n) : ixN n z = some z.toNat := by
  unfold ixN
  rw [if_pos h0, if_pos h]
theorem atI_nat {xs : List α} {k : Nat} (h : k < xs.length) : atI xs (k : Int) = some xs[k] := by
  unfold atI
  rw [ixN_nat h]
  exact List.getElem?_eq_getElem h
theorem atI_nat? {xs : List α} {k : Nat} {x : α} (h : xs[k]? = some x) : atI xs (k : Int) = some x := by
  obtain ⟨h1, rfl⟩ := List.getElem?_eq_some_iff.mp h
  exact atI_nat h1
theorem atI_ok {xs : List α} {z : Int} {P : α → Prop} (h0 : 0 ≤ z) (h : z < xs.length) (hP : ∀ (k : Nat) x, xs[k]? = some x → (k : Int) = z → P x) : Ok (atI xs z) P := by
  obtain ⟨k, rfl⟩ := Int.eq_ofNat_of_zero_le h0
  have hk : k < xs.length := by omega
  exact ⟨xs[k], atI_nat hk, hP k _ (List.getElem?_eq_getElem hk) rfl⟩
theorem atI_mem {xs : List α} {z : Int} (h0 : 0 ≤ z) (h : z < xs.length) : Ok (atI xs z) fun x => x ∈ xs := atI_ok h0 h fun k x e _ => List.mem_of_getElem? e
theorem setAt_nat {xs : List α} {k : Nat} {x : α} (h : k < xs.length) : setAt xs (k : Int) x = some (xs.set k x) := by
  unfold setAt
  rw [ixN_nat h]
  rfl
theorem appM_eq {xs : List α} {x : α} (h : xs.length < 1000000) : appM xs x = some (xs ++ [x]) := by
  unfold appM
  rw [if_pos (show xs.length < LIM from h)]
theorem catM_eq {xs ys : List α} (h : xs.length + ys.length ≤ 1000000) : catM xs ys = some (xs ++ ys) := by
  unfold catM
  rw [if_pos (show xs.length + ys.length ≤ LIM from h)]
theorem popAt_ok {xs : List α} {z : Int} (h0 : 0 ≤ z) (h : z < xs.length) (hl : xs.length ≤ 1000000) : Ok (popAt xs z) fun r => xs.Perm (r.1 :: r.2) ∧ r.2.length + 1 = xs.length := by
  obtain ⟨k, rfl⟩ := Int.eq_ofNat_of_zero_le h0
  have hk : k < xs.length := by omega
  have e : popAt xs (k : Int) = some (xs[k], xs.eraseIdx k) := by
    unfold popAt
    rw [if_pos ⟨h0, hl⟩, Int.toNat_natCast, List.getElem?_eq_getElem hk]
    rfl
  refine ⟨_, e, ?_, ?_⟩
  · show xs.Perm (xs[k] :: xs.eraseIdx k)
    rw [List.eraseIdx_eq_take_drop_succ]
    have e : xs = xs.take k ++ xs[k] :: xs.drop (k + 1) := by rw [← List.drop_eq_getElem_cons hk, List.take_append_drop]
    exact (List.Perm.of_eq e).trans List.perm_middle
  · show (xs.eraseIdx k).length + 1 = _
    rw [List.length_eraseIdx_of_lt hk]
    omega
/-! ### walks -/
inductive F2 {α β : Type} (P : α → β → Prop) : List α → List β → Prop
  | nil : F2 P [] []
  | cons {x y xs ys} : P x y → F2 P xs ys → F2 P (x :: xs) (y :: ys)
theorem mapGo_eq {f : α → Option β} {g : α → β} : ∀ {xs : List α}, (∀ x ∈ xs, f x = some (g x)) → mapGo f xs = some (xs.map g)
  | [], _ => rfl
  | x :: xs, h => by
    show (f x).bind _ = _
    rw [h x List.mem_cons_self, sb, mapGo_eq fun y hy => h y (List.mem_cons_of_mem _ hy)]
    rfl
theorem mapM_is {f : α → Option β} {g : α → β} {xs : List α} (hl : xs.length ≤ 1000000) (h : ∀ x ∈ xs, f x = some (g x)) : mapM f xs = some (xs.map g) := by
  unfold mapM
  rw [if_pos (show xs.length ≤ LIM from hl), mapGo_eq h]
theorem mapGo_ok {f : α → Option β} {P : α → β → Prop} : ∀ {xs : List α}, (∀ x ∈ xs, Ok (f x) (P x)) → Ok (mapGo f xs) fun ys => F2 P xs ys
  | [], _ => .one .nil
  | x :: xs, h => .bind (h x List.mem_cons_self) fun y hy => .bind (mapGo_ok fun z hz => h z (List.mem_cons_of_mem _ hz)) fun ys hys => .one (.cons hy hys)
theorem mapM_ok {f : α → Option β} {P : α → β → Prop} {xs : List α} (hl : xs.length ≤ 1000000) (h : ∀ x ∈ xs, Ok (f x) (P x)) : Ok (mapM f xs) fun ys => F2 P xs ys := by
  unfold mapM
  rw [if_pos (show xs.length ≤ LIM from hl)]
  exact mapGo_ok h
theorem f2_len {P : α → β → Prop} {xs : List α} {ys : List β} (h : F2 P xs ys) : ys.length = xs.length := by
  induction h with
  | nil => rfl
  | cons _ _ ih => rw [List.length_cons, List.length_cons, ih]
theorem f2_get {P : α → β → Prop} {xs : List α} {ys : List β} (h : F2 P xs ys) : ∀ {k : Nat} {y : β}, ys[k]? = some y → ∃ x, xs[k]? = some x ∧ P x y := by
  induction h with
  | nil => intro k y e; simp at e
  | @cons a b as bs hab _ ih =>
    intro k y e
    cases k with
    | zero =>
      have : b = y := by simpa using e
      subst this
      exact ⟨a, rfl, hab⟩
    | succ k =>
      obtain ⟨x, h1, h2⟩ := ih (k := k) (by simpa using e)
      exact ⟨x, by simpa using h1, h2⟩
theorem f2_mem {P : α → β → Prop} {xs : List α} {ys : List β} (h : F2 P xs ys) {y : β} (hy : y ∈ ys) : ∃ x, x ∈ xs ∧ P x y := by
  obtain ⟨k, hk⟩ := List.mem_iff_getElem?.mp hy
  obtain ⟨x, h1, h2⟩ := f2_get h hk
  exact ⟨x, List.mem_of_getElem? h1, h2⟩
/-- over a range -/
theorem mapR_ok {f : Int → Option β} {P : Nat → β → Prop} {n : Nat} (hl : n ≤ 1000000) (h : ∀ k < n, Ok (f (k : Int)) (P k)) : Ok (mapM f (rl n)) fun ys => ys.length = n ∧ ∀ k y, ys[k]? = some y → P k y := by
  refine (mapM_ok (P := fun x y => ∀ k : Nat, x = (k : Int) → P k y) (by rw [rl_len]; exact hl) fun x hx => ?_).mono fun ys hy => ⟨by rw [f2_len hy, rl_len], fun k y e => ?_⟩
  · obtain ⟨k, hk, rfl⟩ := rl_mem.mp hx
    refine (h k hk).mono fun y hy j e => ?_
    have : k = j := by omega
    exact this ▸ hy
  · obtain ⟨x, h1, h2⟩ := f2_get hy e
    have hk : k < n := by
      have := (List.getElem?_eq_some_iff.mp h1).1
      rwa [rl_len] at this
    rw [rl_get hk] at h1
    exact h2 k (Option.some.inj h1).symm
theorem compGo_eq {t : α → Option Bool} {f : α → Option β} {p : α → Bool} {g : α → β} : ∀ {xs : List α}, (∀ x ∈ xs, t x = some (p x)) → (∀ x ∈ xs, p x = true → f x = some (g x)) → compGo t f xs = some ((xs.filter p).map g)
  | [], _, _ => rfl
  | x :: xs, h, k => by
    have ih := compGo_eq (xs := xs) (fun y hy => h y (List.mem_cons_of_mem _ hy)) fun y hy => k y (List.mem_cons_of_mem _ hy)
    show (t x).bind _ = _
    rw [h x List.mem_cons_self, sb]
    cases hp : p x with
    | true =>
      show (f x).bind _ = _
      rw [k x List.mem_cons_self hp, sb, ih, List.filter_cons_of_pos hp]
      rfl
    | false =>
      show compGo t f xs = _
      rw [ih, List.filter_cons_of_neg (by rw [hp]; exact fun z => nomatch z)]
theorem compM_eq {t : α → Option Bool} {f : α → Option β} {p : α → Bool} {g : α → β} {xs : List α} (hl : xs.length ≤ 1000000) (h : ∀ x ∈ xs, t x = some (p x)) (k : ∀ x ∈ xs, p x = true → f x = some (g x)) : compM t f xs = some ((xs.filter p).map g) := by
  unfold compM
  rw [if_pos (show xs.length ≤ LIM from hl), compGo_eq h k]
theorem foldGo_ok {f : α → τ → Option τ} {Inv : List α → τ → Prop} : ∀ (xs : List α) (pre : List α) {s : τ}, Inv pre s → (∀ pre x post s, pre ++ x :: post = pre ++ x :: post → x ∈ xs → Inv pre s → Ok (f x s) (Inv (pre ++ [x]))) → Ok (foldGo f xs s) (Inv (pre ++ xs))
  | [], pre, s, h, _ => by
    rw [List.append_nil]
    exact .one h
  | x :: xs, pre, s, h, hs => by
    refine .bind (hs pre x xs s rfl List.mem_cons_self h) fun s' h' => ?_
    have := foldGo_ok xs (pre ++ [x]) h' fun pre y post s e hy => hs pre y post s rfl (List.mem_cons_of_mem _ hy)
    rwa [List.append_assoc] at this
/-- a walk with an invariant by what was seen -/
theorem fold_ok {f : α → τ → Option τ} (Inv : List α → τ → Prop) {xs : List α} {s : τ} (h0 : Inv [] s) (hs : ∀ pre x s, x ∈ xs → Inv pre s → Ok (f x s) (Inv (pre ++ [x]))) : Ok (foldGo f xs s) (Inv xs) := by
  have := foldGo_ok (Inv := Inv) xs [] h0 fun pre x post s _ hx h => hs pre x s hx h
  simpa using this
theorem foldG_ok {f : α → τ → Option τ} {Inv : Nat → τ → Prop} : ∀ (xs : List α) (j : Nat) {s : τ}, Inv j s → (∀ k x s, xs[k]? = some x → Inv (j + k) s → Ok (f x s) (Inv (j + k + 1))) → Ok (foldGo f xs s) (Inv (j + xs.length))
  | [], j, s, h, _ => .one h
  | x :: xs, j, s, h, hs => by
    refine .bind (hs 0 x s rfl h) fun s' h' => ?_
    have := foldG_ok xs (j + 1) h' fun k y s e hy => by
      have := hs (k + 1) y s (by simpa using e) (by rwa [show j + (k + 1) = j + 1 + k by omega])
      rwa [show j + (k + 1) = j + 1 + k by omega] at this
    rwa [show j + 1 + xs.length = j + (x :: xs).length by rw [List.length_cons]; omega] at this
/-- over a range: by the turn -/
theorem foldR_ok {f : Int → τ → Option τ} (Inv : Nat → τ → Prop) {n : Nat} {s : τ} (h0 : Inv 0 s) (hs : ∀ k s, k < n → Inv k s → Ok (f (k : Int) s) (Inv (k + 1))) : Ok (foldGo f (rl n) s) (Inv n) := by
  have := foldG_ok (Inv := Inv) (f := f) (rl n) 0 h0 fun k x s e h => by
    have hk : k < n := by
      have := (List.getElem?_eq_some_iff.mp e).1
      rwa [rl_len] at this
    rw [rl_get hk] at e
    rw [← Option.some.inj e]
    rw [Nat.zero_add] at h ⊢
    exact hs k s hk h
  rwa [Nat.zero_add, rl_len] at this
theorem mapGoE_ok {f : α → τ → Option (β × τ)} {Inv : Nat → τ → Prop} {P : Nat → β → Prop} : ∀ (xs : List α) (j : Nat) {s : τ}, Inv j s → (∀ k x s, xs[k]? = some x → Inv (j + k) s → Ok (f x s) fun r => P (j + k) r.1 ∧ Inv (j + k + 1) r.2) →
    Ok (mapGoE f xs s) fun r => r.1.length = xs.length ∧ (∀ k y, r.1[k]? = some y → P (j + k) y) ∧ Inv (j + xs.length) r.2
  | [], j, s, h, _ => .one ⟨rfl, fun k y e => by simp at e, h⟩
  | x :: xs, j, s, h, hs => by
    refine .bind (hs 0 x s rfl h) fun y hy => ?_
    refine .bind (mapGoE_ok (P := P) xs (j + 1) hy.2 fun k y s e hy => by
      have := hs (k + 1) y s (by simpa using e) (by rwa [show j + (k + 1) = j + 1 + k by omega])
      rwa [show j + (k + 1) = j + 1 + k by omega] at this) fun r hr => .one ⟨by rw [List.length_cons, List.length_cons, hr.1], fun k z e => ?_, ?_⟩
    · cases k with
      | zero =>
        have : y.1 = z := by simpa using e
        exact this ▸ hy.1
      | succ k =>
        have := hr.2.1 k z (by simpa using e)
        rwa [show j + 1 + k = j + (k + 1) by omega] at this
    · have := hr.2.2
      rwa [show j + 1 + xs.length = j + (x :: xs).length by rw [List.length_cons]; omega] at this
theorem mapRE_ok {f : Int → τ → Option (β × τ)} (Inv : Nat → τ → Prop) (P : Nat → β → Prop) {n : Nat} {s : τ} (hl : n ≤ 1000000) (h0 : Inv 0 s) (hs : ∀ k s, k < n → Inv k s → Ok (f (k : Int) s) fun r => P k r.1 ∧ Inv (k + 1) r.2) :
    Ok (mapME f (rl n) s) fun r => r.1.length = n ∧ (∀ k y, r.1[k]? = some y → P k y) ∧ Inv n r.2 := by
  unfold mapME
  rw [if_pos (show (rl n).length ≤ LIM by rw [rl_len]; exact hl)]
  have := mapGoE_ok (Inv := Inv) (P := P) (f := f) (rl n) 0 h0 fun k x s e h => by
    have hk : k < n := by
      have := (List.getElem?_eq_some_iff.mp e).1
      rwa [rl_len] at this
    rw [rl_get hk] at e
    rw [← Option.some.inj e]
    rw [Nat.zero_add] at h ⊢
    exact hs k s hk h
  simpa [rl_len] using this
/-- a loop that goes through -/
theorem loopGo_ok {f : α → τ → Option (Out τ ρ)} {Inv : Nat → τ → Prop} : ∀ (xs : List α) (j : Nat) {s : τ}, Inv j s → (∀ k x s, xs[k]? = some x → Inv (j + k) s → Ok (f x s) fun o => ∃ s', (o = .nx s' ∨ o = .ct s') ∧ Inv (j + k + 1) s') → Ok (loopGo f xs s) fun o => ∃ s', o = .nx s' ∧ Inv (j + xs.length) s'
  | [], j, s, h, _ => .one ⟨s, rfl, h⟩
  | x :: xs, j, s, h, hs => by
    refine .bind (hs 0 x s rfl h) fun o ho => ?_
    obtain ⟨s', ho, h'⟩ := ho
    have := loopGo_ok xs (j + 1) h' fun k y s e hy => by
      have := hs (k + 1) y s (by simpa using e) (by rwa [show j + (k + 1) = j + 1 + k by omega])
      rwa [show j + (k + 1) = j + 1 + k by omega] at this
    rw [show j + 1 + xs.length = j + (x :: xs).length by rw [List.length_cons]; omega] at this
    rcases ho with rfl | rfl
    · exact this
    · exact this
theorem loop_unit {f : α → Unit → Option (Out Unit ρ)} {xs : List α} (hs : ∀ x ∈ xs, f x () = some (.nx ())) : loopGo f xs () = some (.nx ()) := by
  induction xs with
  | nil => rfl
  | cons x xs ih =>
    show (f x ()).bind _ = _
    rw [hs x List.mem_cons_self]
    exact ih fun y hy => hs y (List.mem_cons_of_mem _ hy)
/-! ### tables -/
structure Sq (n : Nat) (t : List (List α)) : Prop where
  len : t.length = n
  row : ∀ r ∈ t, r.length = n
def gt (t : List (List Bool)) (x y : Nat) : Bool := ((t[x]?.getD [])[y]?).getD false
theorem Sq.rowk {n : Nat} {t : List (List α)} (h : Sq n t) {x : Nat} (hx : x < n) : ∃ r, t[x]? = some r ∧ r.length = n := by
  have hx' : x < t.length := by rw [h.len]; exact hx
  exact ⟨t[x], List.getElem?_eq_getElem hx', h.row _ (List.getElem_mem hx')⟩
theorem Sq.at2 {n : Nat} {t : List (List Bool)} (h : Sq n t) {x y : Nat} (hx : x < n) (hy : y < n) : ∃ r, atI t (x : Int) = some r ∧ atI r (y : Int) = some (gt t x y) := by
  obtain ⟨r, h1, h2⟩ := h.rowk hx
  refine ⟨r, atI_nat? h1, ?_⟩
  have hy' : y < r.length := by rw [h2]; exact hy
  rw [atI_nat hy']
  unfold gt
  rw [h1]
  show some r[y] = some ((r[y]?).getD false)
  rw [List.getElem?_eq_getElem hy']
  rfl
theorem Sq.set2 {n : Nat} {t : List (List Bool)} (h : Sq n t) {x y : Nat} (b : Bool) (hx : x < n) (hy : y < n) : ∃ t', setAt2 t (x : Int) (y : Int) b = some t' ∧ Sq n t' ∧ ∀ i j, gt t' i j = if i = x ∧ j = y then b else gt t i j := by
  obtain ⟨r, h1, h2⟩ := h.rowk hx
  have hx' : x < t.length := by rw [h.len]; exact hx
  have hy' : y < r.length := by rw [h2]; exact hy
  refine ⟨t.set x (r.set y b), ?_, ⟨by rw [List.length_set]; exact h.len, fun q hq => ?_⟩, fun i j => ?_⟩
  · unfold setAt2
    rw [atI_nat? h1, sb, setAt_nat hy', sb, setAt_nat hx']
  · rcases List.mem_or_eq_of_mem_set hq with z | rfl
    · exact h.row q z
    · rw [List.length_set]; exact h2
  · unfold gt
    by_cases e : i = x
    · subst e
      rw [List.getElem?_set_self hx', h1]
      show ((r.set y b)[j]?).getD false = _
      by_cases e2 : j = y
      · subst e2
        rw [List.getElem?_set_self hy', if_pos ⟨rfl, rfl⟩]
        rfl
      · rw [List.getElem?_set_ne (fun q => e2 q.symm), if_neg (fun q => e2 q.2)]
        rfl
    · rw [List.getElem?_set_ne (fun q => e q.symm), if_neg (fun q => e q.1)]
/-- a table made by its places -/
theorem tab_mk {n : Nat} (hn : n ≤ 1000000) {f : Int → Int → Option Bool} {g : Nat → Nat → Bool} (hf : ∀ x y : Nat, x < n → y < n → f (x : Int) (y : Int) = some (g x y)) :
    Ok (mapM (fun x => mapM (fun y => f x y) (rl n)) (rl n)) fun t => Sq n t ∧ ∀ x y, x < n → y < n → gt t x y = g x y := by
  refine (mapR_ok (P := fun x r => r.length = n ∧ ∀ (y : Nat) b, r[y]? = some b → b = g x y) hn fun x hx => mapR_ok (P := fun y b => b = g x y) hn fun y hy => .of_eq (hf x y hx hy) rfl).mono fun t ht => ?_
  refine ⟨⟨ht.1, fun r hr => ?_⟩, fun x y hx hy => ?_⟩
  · obtain ⟨k, hk⟩ := List.mem_iff_getElem?.mp hr
    exact (ht.2 k r hk).1
  · have hx' : x < t.length := by rw [ht.1]; exact hx
    have h1 := List.getElem?_eq_getElem hx'
    obtain ⟨h2, h3⟩ := ht.2 x _ h1
    have hy' : y < t[x].length := by rw [h2]; exact hy
    unfold gt
    rw [h1]
    show ((t[x])[y]?).getD false = _
    rw [List.getElem?_eq_getElem hy']
    exact h3 y _ (List.getElem?_eq_getElem hy')
theorem Sq.setRow {n : Nat} {t : List (List α)} (h : Sq n t) {x : Nat} {r : List α} (hx : x < n) (hr : r.length = n) : setAt t (x : Int) r = some (t.set x r) ∧ Sq n (t.set x r) :=
  ⟨setAt_nat (by rw [h.len]; exact hx), by rw [List.length_set]; exact h.len, fun q hq => by
    rcases List.mem_or_eq_of_mem_set hq with z | rfl
    · exact h.row q z
    · exact hr⟩
/-- a row of places below m -/
structure Rw (n m : Nat) (r : List Int) : Prop where
  len : r.length = n
  lo : ∀ x ∈ r, 0 ≤ x ∧ x < (m : Int)
def rwv (r : List Int) (x : Nat) : Nat := ((r[x]?).getD 0).toNat
theorem Rw.at {n m : Nat} {r : List Int} (h : Rw n m r) {x : Nat} (hx : x < n) : atI r (x : Int) = some (rwv r x : Int) ∧ rwv r x < m := by
  have hx' : x < r.length := by rw [h.len]; exact hx
  have h1 := List.getElem?_eq_getElem hx'
  have h2 := h.lo _ (List.getElem_mem hx')
  have e : (rwv r x : Int) = r[x] := by
    unfold rwv
    rw [h1]
    show ((r[x]).toNat : Int) = _
    omega
  refine ⟨by rw [atI_nat hx', e], by omega⟩
theorem Rw.of_get {n m : Nat} {r : List Int} (hl : r.length = n) (h : ∀ (k : Nat) (y : Int), r[k]? = some y → 0 ≤ y ∧ y < (m : Int)) : Rw n m r := ⟨hl, fun x hx => by
  obtain ⟨k, hk⟩ := List.mem_iff_getElem?.mp hx
  exact h k x hk⟩
theorem Rw.perm {n : Nat} {r : List Int} (h : r.Perm (rl n)) : Rw n n r := ⟨by rw [h.length_eq, rl_len], fun x hx => by
  obtain ⟨k, hk, rfl⟩ := rl_mem.mp (h.mem_iff.mp hx)
  omega⟩
theorem Sq.look {n : Nat} {t : List (List Bool)} (h : Sq n t) {x : Nat} (hx : x < n) : ∃ r, atI t (x : Int) = some r ∧ r.length = n ∧ ∀ y : Nat, y < n → atI r (y : Int) = some (gt t x y) := by
  obtain ⟨r, h1, h2⟩ := h.rowk hx
  refine ⟨r, atI_nat? h1, h2, fun y hy => ?_⟩
  obtain ⟨u, u1, u2⟩ := h.at2 hx hy
  rw [atI_nat? h1] at u1
  cases u1
  exact u2
end CC
set_option maxHeartbeats 1000000
/-! Plain laws, more. -/
namespace CC
open PySem PySem.Spec L2
open PyProof.Rows hiding St
variable {α β γ δ τ υ ω ρ : Type}
theorem nodup_perm : ∀ {l m : List α}, l.Nodup → (∀ x ∈ l, x ∈ m) → m.length ≤ l.length → l.Perm m
  | [], m, _, _, hl => by rw [List.eq_nil_of_length_eq_zero (Nat.le_zero.mp hl)]
  | a :: l, m, h, s, hl => by
    obtain ⟨u, v, rfl⟩ := List.append_of_mem (s a List.mem_cons_self)
    have h' := List.nodup_cons.mp h
    refine (List.Perm.cons a (nodup_perm (m := u ++ v) h'.2 (fun x hx => ?_) ?_)).trans List.perm_middle.symm
    · have := s x (List.mem_cons_of_mem _ hx)
      have ne : x ≠ a := fun e => h'.1 (e ▸ hx)
      simp only [List.mem_append, List.mem_cons] at this ⊢
      rcases this with q | q | q
      · exact .inl q
      · exact absurd q ne
      · exact .inr q
    · simp only [List.length_append, List.length_cons] at hl ⊢
      omega
theorem comp2Go_eq {t : α → Option Bool} {itM : α → Option (List β)} {t1 : α → β → Option Bool} {f : α → β → Option γ} {it : α → List β} {p : α → β → Bool} {g : α → β → γ} : ∀ {xs : List α}, (∀ x ∈ xs, t x = some true) → (∀ x ∈ xs, itM x = some (it x)) → (∀ x ∈ xs, ∀ y ∈ it x, t1 x y = some (p x y)) → (∀ x ∈ xs, ∀ y ∈ it x, p x y = true → f x y = some (g x y)) →
    comp2Go t itM t1 f xs = some (xs.flatMap fun x => ((it x).filter (p x)).map (g x))
  | [], _, _, _, _ => rfl
  | x :: xs, h0, h1, h2, h3 => by
    show (t x).bind _ = _
    rw [h0 x List.mem_cons_self]
    show (itM x).bind _ = _
    rw [h1 x List.mem_cons_self]
    show (compGo (t1 x) (f x) (it x)).bind _ = _
    rw [compGo_eq (h2 x List.mem_cons_self) (h3 x List.mem_cons_self)]
    show (comp2Go t itM t1 f xs).bind _ = _
    rw [comp2Go_eq (fun y hy => h0 y (List.mem_cons_of_mem _ hy)) (fun y hy => h1 y (List.mem_cons_of_mem _ hy)) (fun y hy => h2 y (List.mem_cons_of_mem _ hy)) fun y hy => h3 y (List.mem_cons_of_mem _ hy)]
    rfl
theorem comp2M_eq {t : α → Option Bool} {itM : α → Option (List β)} {t1 : α → β → Option Bool} {f : α → β → Option γ} {it : α → List β} {p : α → β → Bool} {g : α → β → γ} {xs : List α} (h0 : ∀ x ∈ xs, t x = some true) (h1 : ∀ x ∈ xs, itM x = some (it x)) (h2 : ∀ x ∈ xs, ∀ y ∈ it x, t1 x y = some (p x y)) (h3 : ∀ x ∈ xs, ∀ y ∈ it x, p x y = true → f x y = some (g x y))
    (hl : (xs.flatMap fun x => ((it x).filter (p x)).map (g x)).length ≤ 1000000) : comp2M t itM t1 f xs = some (xs.flatMap fun x => ((it x).filter (p x)).map (g x)) := by
  unfold comp2M
  rw [comp2Go_eq h0 h1 h2 h3]
  show (if _ then _ else _) = _
  rw [if_pos (show _ ≤ LIM from hl)]
theorem eqP_prs (a b c d : Int) : eqP (.tup [.int a, .int b]) (.tup [.int c, .int d]) = some (decide (a = c) && decide (b = d)) := by
  have sh : ∀ a b : Int, SeqAt.shaped (toD (.tup [.int a, .int b])) = true := fun a b => rfl
  unfold eqP
  rw [if_pos ⟨sh a b, sh c d⟩]
  simp only [toD, toDs, PyData.eqv, PyData.eqvAll, Bool.and_true]
  rfl
/-- a loop that only goes through, by what was seen -/
theorem loopR_ok {f : Int → τ → Option (Out τ ρ)} (Inv : Nat → τ → Prop) {n : Nat} {s : τ} (h0 : Inv 0 s) (hs : ∀ k s, k < n → Inv k s → Ok (f (k : Int) s) fun o => ∃ s', (o = .nx s' ∨ o = .ct s') ∧ Inv (k + 1) s') : Ok (loopGo f (rl n) s) fun o => ∃ s', o = .nx s' ∧ Inv n s' := by
  have := loopGo_ok (Inv := Inv) (f := f) (rl n) 0 h0 fun k x s e h => by
    have hk : k < n := by
      have := (List.getElem?_eq_some_iff.mp e).1
      rwa [rl_len] at this
    rw [rl_get hk] at e
    rw [← Option.some.inj e]
    rw [Nat.zero_add] at h ⊢
    exact hs k s hk h
  rwa [Nat.zero_add, rl_len] at this
/-- .. an equation -/
theorem loopGo_eq {f : α → τ → Option (Out τ ρ)} (g : τ → α → τ) (I : τ → Prop) : ∀ {xs : List α} {s : τ}, I s → (∀ x ∈ xs, ∀ s, I s → (f x s = some (.nx (g s x)) ∨ f x s = some (.ct (g s x))) ∧ I (g s x)) → loopGo f xs s = some (.nx (xs.foldl g s)) ∧ I (xs.foldl g s)
  | [], s, h, _ => ⟨rfl, h⟩
  | x :: xs, s, h, hs => by
    obtain ⟨h1, h2⟩ := hs x List.mem_cons_self s h
    have := loopGo_eq g I (xs := xs) h2 fun y hy => hs y (List.mem_cons_of_mem _ hy)
    show (f x s).bind _ = _ ∧ _
    rcases h1 with h1 | h1 <;> rw [h1] <;> exact this
theorem foldGo_eq {f : α → τ → Option τ} (g : τ → α → τ) (I : τ → Prop) : ∀ {xs : List α} {s : τ}, I s → (∀ x ∈ xs, ∀ s, I s → f x s = some (g s x) ∧ I (g s x)) → foldGo f xs s = some (xs.foldl g s) ∧ I (xs.foldl g s)
  | [], s, h, _ => ⟨rfl, h⟩
  | x :: xs, s, h, hs => by
    obtain ⟨h1, h2⟩ := hs x List.mem_cons_self s h
    have := foldGo_eq g I (xs := xs) h2 fun y hy => hs y (List.mem_cons_of_mem _ hy)
    show (f x s).bind _ = _ ∧ _
    rw [h1]
    exact this
theorem nodup_len : ∀ {l m : List α}, l.Nodup → (∀ x ∈ l, x ∈ m) → l.length ≤ m.length
  | [], m, _, _ => Nat.zero_le _
  | a :: l, m, h, s => by
    obtain ⟨u, v, rfl⟩ := List.append_of_mem (s a List.mem_cons_self)
    have h' := List.nodup_cons.mp h
    have := nodup_len (m := u ++ v) h'.2 (fun x hx => by
      have := s x (List.mem_cons_of_mem _ hx)
      have ne : x ≠ a := fun e => h'.1 (e ▸ hx)
      simp only [List.mem_append, List.mem_cons] at this ⊢
      rcases this with q | q | q
      · exact .inl q
      · exact absurd q ne
      · exact .inr q)
    simp only [List.length_append, List.length_cons] at this ⊢
    omega
/-- a range from lo on -/
def rlo (lo n : Nat) : List Int := (List.range n).map fun i : Nat => ((lo + i : Nat) : Int)
theorem rlo_len (lo n : Nat) : (rlo lo n).length = n := by unfold rlo; rw [List.length_map, List.length_range]
theorem rlo_get {lo n k : Nat} (h : k < n) : (rlo lo n)[k]? = some ((lo + k : Nat) : Int) := by
  unfold rlo
  rw [List.getElem?_map, List.getElem?_range h]
  rfl
theorem rlo_mem {lo n : Nat} {x : Int} : x ∈ rlo lo n ↔ ∃ k : Nat, k < n ∧ x = ((lo + k : Nat) : Int) := by
  unfold rlo
  rw [List.mem_map]
  constructor
  · rintro ⟨k, h, rfl⟩
    exact ⟨k, List.mem_range.mp h, rfl⟩
  · rintro ⟨k, h, rfl⟩
    exact ⟨k, List.mem_range.mpr h, rfl⟩
theorem rng_lo {lo hi : Nat} (h1 : lo ≤ 1000000) (h2 : hi ≤ 1000000) : rng (lo : Int) (hi : Int) = some (rlo lo (hi - lo)) := by
  have hl : (LIM : Int) = 1000000 := rfl
  unfold rng rlo
  rw [if_pos (by rw [hl]; omega)]
  rw [show ((hi : Int) - (lo : Int)).toNat = hi - lo by omega]
  congr 1
theorem foldRL_ok {f : Int → τ → Option τ} (Inv : Nat → τ → Prop) {lo n : Nat} {s : τ} (h0 : Inv lo s) (hs : ∀ k s, lo ≤ k → k < lo + n → Inv k s → Ok (f (k : Int) s) (Inv (k + 1))) : Ok (foldGo f (rlo lo n) s) (Inv (lo + n)) := by
  have := foldG_ok (Inv := fun j => Inv (lo + j)) (f := f) (rlo lo n) 0 h0 fun k x s e h => by
    have hk : k < n := by
      have := (List.getElem?_eq_some_iff.mp e).1
      rwa [rlo_len] at this
    rw [rlo_get hk] at e
    rw [← Option.some.inj e]
    rw [Nat.zero_add] at h ⊢
    exact hs (lo + k) s (by omega) (by omega) h
  rwa [Nat.zero_add, rlo_len] at this
end CC
set_option maxHeartbeats 1000000
/-! Plain laws: while, masks, rows by place. -/
namespace CC
open PySem PySem.Spec L2
open PyProof.Rows hiding St
variable {α β γ δ τ υ ω ρ : Type}
theorem whileF_ok {c : τ → Option Bool} {f : τ → Option τ} {P : τ → Prop} (Inv : τ → Prop) (μ : τ → Nat) (hs : ∀ s, Inv s → Ok (c s) fun b => (b = true → Ok (f s) fun s' => Inv s' ∧ μ s' < μ s) ∧ (b = false → P s)) : ∀ {n : Nat} {s : τ}, Inv s → μ s < n → Ok (whileF c f n s) P
  | 0, s, _, h => absurd h (Nat.not_lt_zero _)
  | n + 1, s, hi, h => by
    obtain ⟨b, e, h1, h2⟩ := hs s hi
    show Ok ((c s).bind _) P
    rw [e]
    cases b with
    | false => exact .one (h2 rfl)
    | true =>
      obtain ⟨s', e', h3, h4⟩ := h1 rfl
      show Ok ((f s).bind _) P
      rw [e']
      exact whileF_ok Inv μ hs h3 (by omega)
/-- one turn -/
theorem whileF_turn {c : τ → Option Bool} {f : τ → Option τ} {n : Nat} {s s' : τ} (h : c s = some true) (k : f s = some s') : whileF c f (n + 1) s = whileF c f n s' := by
  show (c s).bind _ = _
  rw [h]
  show (f s).bind _ = _
  rw [k]
  rfl
theorem whileF_end {c : τ → Option Bool} {f : τ → Option τ} {n : Nat} {s : τ} (h : c s = some false) : whileF c f (n + 1) s = some s := by
  show (c s).bind _ = _
  rw [h]
  rfl
/-! ### bits -/
theorem bOr_nat (a b : Nat) : bOr (a : Int) (b : Int) = ((a ||| b : Nat) : Int) := by
  have := L2.bitOr_nn (x := (a : Int)) (y := (b : Int)) (by omega) (by omega)
  rw [Int.toNat_natCast, Int.toNat_natCast] at this
  exact this
theorem bAnd_nat (a b : Nat) : bAnd (a : Int) (b : Int) = ((a &&& b : Nat) : Int) := by
  unfold bAnd Builtin.bitAnd
  simp
theorem shl_one {y : Nat} (h : y ≤ 1000000) : shlO 1 (y : Int) = some ((2 ^ y : Nat) : Int) := by
  unfold shlO
  rw [if_pos ⟨by omega, by omega, by decide⟩, Int.toNat_natCast, Int.one_mul, PySem.W.kbt_cast]
theorem shr_nat (a y : Nat) : shrO (a : Int) (y : Int) = some ((a / 2 ^ y : Nat) : Int) := by
  unfold shrO
  rw [if_pos (by omega), Int.toNat_natCast, ← PySem.W.kbt_cast]
  rfl
/-- the least bit -/
theorem low_form : ∀ (m : Nat), 0 < m → ∃ k a, m = 2 ^ k * (2 * a + 1) := by
  intro m
  induction m using Nat.strongRecOn with
  | _ m ih =>
    intro h
    by_cases e : m % 2 = 1
    · exact ⟨0, m / 2, by omega⟩
    · obtain ⟨k, a, q⟩ := ih (m / 2) (by omega) (by omega)
      refine ⟨k + 1, a, ?_⟩
      have : m = 2 * (m / 2) := by omega
      rw [Nat.pow_succ, Nat.mul_comm (2 ^ k) 2, Nat.mul_assoc, ← q]
      exact this
theorem low_bit (k a j : Nat) : (2 ^ k * (2 * a + 1)).testBit j = (decide (k ≤ j) && (decide (j = k) || a.testBit (j - k - 1))) := by
  rw [Nat.testBit_two_pow_mul]
  by_cases h : k ≤ j
  · simp only [h, decide_true, Bool.true_and]
    by_cases e : j = k
    · subst e
      simp
    · obtain ⟨d, hd⟩ : ∃ d, j - k = d + 1 := ⟨j - k - 1, by omega⟩
      rw [hd, Nat.testBit_succ, show (2 * a + 1) / 2 = a by omega]
      simp [e]
  · simp [h]
theorem low_rest (k a j : Nat) : (2 ^ k * (2 * a + 1) - 2 ^ k).testBit j = (decide (k < j) && a.testBit (j - k - 1)) := by
  have e : 2 ^ k * (2 * a + 1) - 2 ^ k = 2 ^ (k + 1) * a := by
    rw [Nat.mul_add, Nat.mul_one, Nat.add_sub_cancel, Nat.pow_succ, Nat.mul_assoc]
  rw [e, Nat.testBit_two_pow_mul]
  by_cases h : k < j
  · simp [h, show k + 1 ≤ j by omega, show j - (k + 1) = j - k - 1 by omega]
  · simp [h, show ¬ k + 1 ≤ j by omega]
theorem bAnd_low (k a : Nat) : bAnd ((2 ^ k * (2 * a + 1) : Nat) : Int) (-((2 ^ k * (2 * a + 1) : Nat) : Int)) = ((2 ^ k : Nat) : Int) := by
  have := PySem.W.kbt_low k (a : Int)
  have c : ((2 ^ k * (2 * a + 1) : Nat) : Int) = 2 ^ k * (2 * (a : Int) + 1) := by
    rw [Int.natCast_mul, PySem.W.kbt_cast]
    rfl
  rw [c, PySem.W.kbt_cast]
  exact this
theorem bitLen_pow (k : Nat) : bitLen ((2 ^ k : Nat) : Int) = (k : Int) + 1 := by
  unfold bitLen Builtin.Int.intBits
  have h : (((2 ^ k : Nat) : Int) == 0) = false := by
    rw [beq_eq_false_iff_ne]
    have := Nat.two_pow_pos k
    omega
  rw [h]
  simp only [Bool.false_eq_true, if_false, Int.natAbs_natCast, Nat.log2_two_pow]
  rfl
/-- the points of a mask, ascending -/
def bitsL (n : Nat) (m : Nat) : List Int := (rl n).filter fun x => m.testBit x.toNat
theorem bitsL_mem {n m : Nat} {x : Int} : x ∈ bitsL n m ↔ ∃ k : Nat, k < n ∧ m.testBit k = true ∧ x = (k : Int) := by
  unfold bitsL
  rw [List.mem_filter, rl_mem]
  constructor
  · rintro ⟨⟨k, h, rfl⟩, h2⟩
    rw [Int.toNat_natCast] at h2
    exact ⟨k, h, h2, rfl⟩
  · rintro ⟨k, h, h2, rfl⟩
    exact ⟨⟨k, h, rfl⟩, by rw [Int.toNat_natCast]; exact h2⟩
theorem bitsL_len (n m : Nat) : (bitsL n m).length ≤ n := by
  unfold bitsL
  refine Nat.le_trans (List.length_filter_le _ _) ?_
  rw [rl_len]
  exact Nat.le_refl _
theorem rl_split {n k : Nat} (h : k < n) : ∃ r, rl n = rl k ++ (k : Int) :: r ∧ ∀ x ∈ r, ∃ j : Nat, k < j ∧ j < n ∧ x = (j : Int) := by
  refine ⟨(List.range (n - k - 1)).map fun i : Nat => ((k + 1 + i : Nat) : Int), ?_, fun x hx => ?_⟩
  · refine List.ext_getElem? fun i => ?_
    by_cases h1 : i < k
    · rw [rl_get (by omega), List.getElem?_append_left (by rw [rl_len]; exact h1), rl_get h1]
    · rw [List.getElem?_append_right (by rw [rl_len]; omega), rl_len]
      by_cases h2 : i = k
      · subst h2
        rw [rl_get h, Nat.sub_self]
        rfl
      · obtain ⟨d, hd⟩ : ∃ d, i - k = d + 1 := ⟨i - k - 1, by omega⟩
        rw [hd, List.getElem?_cons_succ, List.getElem?_map]
        by_cases h3 : i < n
        · rw [rl_get h3, List.getElem?_range (by omega)]
          show some (i : Int) = some _
          congr 2
          omega
        · rw [List.getElem?_eq_none (by rw [rl_len]; omega), List.getElem?_eq_none (by rw [List.length_range]; omega)]
          rfl
  · obtain ⟨i, hi, rfl⟩ := List.mem_map.mp hx
    have := List.mem_range.mp hi
    exact ⟨k + 1 + i, by omega, by omega, rfl⟩
theorem bitsL_low {n k a : Nat} (h : k < n) : bitsL n (2 ^ k * (2 * a + 1)) = (k : Int) :: bitsL n (2 ^ k * (2 * a + 1) - 2 ^ k) := by
  obtain ⟨r, e, hr⟩ := rl_split h
  unfold bitsL
  rw [e, List.filter_append, List.filter_append, List.filter_cons, List.filter_cons]
  have z1 : (rl k).filter (fun x => (2 ^ k * (2 * a + 1)).testBit x.toNat) = [] := List.filter_eq_nil_iff.mpr fun x hx => by
    obtain ⟨j, hj, rfl⟩ := rl_mem.mp hx
    rw [Int.toNat_natCast, low_bit]
    simp [show ¬ k ≤ j by omega]
  have z2 : (rl k).filter (fun x => (2 ^ k * (2 * a + 1) - 2 ^ k).testBit x.toNat) = [] := List.filter_eq_nil_iff.mpr fun x hx => by
    obtain ⟨j, hj, rfl⟩ := rl_mem.mp hx
    rw [Int.toNat_natCast, low_rest]
    simp [show ¬ k < j by omega]
  have c1 : (2 ^ k * (2 * a + 1)).testBit ((k : Int)).toNat = true := by
    rw [Int.toNat_natCast, low_bit]
    simp
  have c2 : (2 ^ k * (2 * a + 1) - 2 ^ k).testBit ((k : Int)).toNat = false := by
    rw [Int.toNat_natCast, low_rest]
    simp
  rw [z1, z2, if_pos c1, if_neg (by rw [c2]; exact fun z => nomatch z)]
  simp only [List.nil_append]
  congr 1
  refine List.filter_congr fun x hx => ?_
  obtain ⟨j, h1, h2, rfl⟩ := hr x hx
  rw [Int.toNat_natCast, low_bit, low_rest]
  simp [show k ≤ j by omega, show j ≠ k by omega, h1]
theorem bitsL_zero (n : Nat) : bitsL n 0 = [] := List.filter_eq_nil_iff.mpr fun x _ => by simp
theorem bit_pos {m k : Nat} (h : m.testBit k = true) : 0 < m := by
  cases m with
  | zero => simp at h
  | succ m => exact Nat.succ_pos m
theorem and_zero_iff {a b : Nat} : a &&& b = 0 ↔ ∀ y, ¬ (a.testBit y = true ∧ b.testBit y = true) := by
  constructor
  · intro h y ⟨h1, h2⟩
    have : (a &&& b).testBit y = true := by rw [Nat.testBit_and, h1, h2]; rfl
    rw [h, Nat.zero_testBit] at this
    cases this
  · intro h
    refine Nat.eq_of_testBit_eq fun y => ?_
    rw [Nat.zero_testBit, Nat.testBit_and]
    cases h1 : a.testBit y with
    | false => rfl
    | true =>
      cases h2 : b.testBit y with
      | false => rfl
      | true => exact absurd ⟨h1, h2⟩ (h y)
/-- masks by place -/
structure Msk (n : Nat) (L : List Int) (f : Nat → Nat → Bool) : Prop where
  len : L.length = n
  look : ∀ x, x < n → ∃ m : Nat, atI L (x : Int) = some (m : Int) ∧ ∀ y, m.testBit y = f x y
theorem Msk.zero (n : Nat) : Msk n (List.replicate n (0 : Int)) fun _ _ => false := ⟨List.length_replicate, fun x hx => ⟨0, by
  rw [atI_nat (by rw [List.length_replicate]; exact hx), List.getElem_replicate]
  rfl, fun y => Nat.zero_testBit y⟩⟩
theorem Msk.set {n : Nat} {L : List Int} {f : Nat → Nat → Bool} (h : Msk n L f) {x m : Nat} (hx : x < n) : setAt L (x : Int) (m : Int) = some (L.set x (m : Int)) ∧ Msk n (L.set x (m : Int)) fun i y => if i = x then m.testBit y else f i y := by
  refine ⟨setAt_nat (by rw [h.len]; exact hx), by rw [List.length_set]; exact h.len, fun i hi => ?_⟩
  have hi' : i < (L.set x (m : Int)).length := by rw [List.length_set, h.len]; exact hi
  rw [atI_nat hi']
  by_cases e : i = x
  · subst e
    exact ⟨m, by rw [List.getElem_set_self], fun y => by rw [if_pos rfl]⟩
  · obtain ⟨k, h1, h2⟩ := h.look i hi
    rw [atI_nat (by rw [h.len]; exact hi)] at h1
    exact ⟨k, by rw [List.getElem_set_ne (fun q => e q.symm)]; exact h1, fun y => by rw [if_neg e]; exact h2 y⟩
theorem Msk.congr {n : Nat} {L : List Int} {f g : Nat → Nat → Bool} (h : Msk n L f) (e : ∀ x y, x < n → f x y = g x y) : Msk n L g := ⟨h.len, fun x hx => by
  obtain ⟨m, h1, h2⟩ := h.look x hx
  exact ⟨m, h1, fun y => (h2 y).trans (e x y hx)⟩⟩
theorem repM_one {x : α} {n : Nat} (h : n ≤ 1000000) : repM [x] (n : Int) = some (List.replicate n x) := by
  unfold repM
  rw [if_pos ⟨by rw [List.length_singleton, Nat.one_mul, Int.toNat_natCast]; exact h, by omega, by omega⟩, Int.toNat_natCast]
  congr 1
  induction n with
  | zero => rfl
  | succ n ih =>
    rw [List.replicate_succ, List.flatten_cons, ih (by omega), List.replicate_succ]
    rfl
/-! ### pairs in order -/
theorem ltPI_irr (x : Int × Int) : ltPI x x = false := by unfold ltPI; simp
theorem ltPI_trans {x y z : Int × Int} (h : ltPI x y = true) (k : ltPI y z = true) : ltPI x z = true := by
  unfold ltPI at *
  split at h <;> split at k <;> split <;> simp only [decide_eq_true_eq] at * <;> omega
theorem ltPI_tri {x y : Int × Int} (h : ltPI x y = false) (k : x ≠ y) : ltPI y x = true := by
  unfold ltPI at *
  obtain ⟨a, b⟩ := x
  obtain ⟨c, d⟩ := y
  simp only [ne_eq, Prod.mk.injEq] at *
  split at h <;> split <;> simp only [decide_eq_true_eq, decide_eq_false_iff_not] at * <;> omega
/-- pairs that ascend -/
def Asc (ps : List (Int × Int)) : Prop := ps.Pairwise fun x y => ltPI x y = true
theorem Asc.get {ps : List (Int × Int)} (h : Asc ps) {i j : Nat} (hij : i < j) (hj : j < ps.length) : ltPI (ps[i]'(by omega)) ps[j] = true := List.pairwise_iff_getElem.mp h i j (by omega) hj hij
/-! ### tuples of ints, alike -/
theorem ints_lay : ∀ xs : List Int, PyData.canLayAll0 (toDs (xs.map PV.int)) = true ∧ PyData.depthAll (toDs (xs.map PV.int)) = 0
  | [] => ⟨rfl, rfl⟩
  | x :: xs => by
    obtain ⟨h1, h2⟩ := ints_lay xs
    constructor
    · simp [toDs, toD, PyData.canLayAll0, PyData.canLay0, h1]
    · simp [toDs, toD, PyData.depthAll, PyData.depth, h2]
theorem ints_eqv : ∀ xs ys : List Int, PyData.eqvAll (toDs (xs.map PV.int)) (toDs (ys.map PV.int)) = decide (xs = ys)
  | [], [] => rfl
  | [], y :: ys => by simp [toDs, PyData.eqvAll]
  | x :: xs, [] => by simp [toDs, PyData.eqvAll]
  | x :: xs, y :: ys => by
    simp only [List.map_cons, toDs, toD, PyData.eqvAll, PyData.eqv, ints_eqv xs ys]
    by_cases e : x = y
    · subst e; simp
    · simp [e]
theorem eqP_ints (xs ys : List Int) : eqP (.tup (xs.map PV.int)) (.tup (ys.map PV.int)) = some (decide (xs = ys)) := by
  have sh : ∀ xs : List Int, SeqAt.shaped (toD (.tup (xs.map PV.int))) = true := fun xs => by
    obtain ⟨h1, h2⟩ := ints_lay xs
    unfold SeqAt.shaped
    simp [toD, PyData.canLay0, PyData.depth, h1, h2]
  unfold eqP
  rw [if_pos ⟨sh xs, sh ys⟩]
  congr 1
  simp only [toD, PyData.eqv]
  exact ints_eqv xs ys
end CC
set_option maxHeartbeats 4000000
namespace K31
open PySem PySem.Spec L2 CC
open PyProof.Rows hiding St
def topS (i : Nat) : Stmt := PySem.Challenge.pw_chaincore_k31_quotients.main.body.getD i (.Pass ⟨0, 0, 0, 0⟩)
abbrev s__law_mixed : Stmt := topS 13
abbrev s__law_start : Stmt := topS 14
abbrev s__law_draw : Stmt := topS 15
abbrev s__law_turned : Stmt := topS 17
abbrev s__law_renamed : Stmt := topS 20
abbrev s__law_large : Stmt := topS 21
abbrev s__law_one : Stmt := topS 16
abbrev s__law_labels : Stmt := topS 24
abbrev s__law_classes : Stmt := topS 22
abbrev s__law_quotient : Stmt := topS 23
abbrev s__is_link : Stmt := topS 7
abbrev s_high_masks : Stmt := topS 6
abbrev s__ways : Stmt := topS 8
abbrev s_points_in : Stmt := topS 5
abbrev s_order_of : Stmt := topS 9
abbrev s_quotient : Stmt := topS 11
abbrev s__law_same : Stmt := topS 18
abbrev s__law_right : Stmt := topS 25
abbrev s__law_order : Stmt := topS 19
abbrev s__law_ring_right : Stmt := topS 26
abbrev s_law : Stmt := topS 27
theorem sc__law_mixed : FnScope ["number", "count", "first", "second", "third"] ["number", "count"] (defScope s__law_mixed) := ⟨rfl, rfl, rfl, by decide +kernel, rfl, by decide +kernel, by decide +kernel⟩
theorem sc__law_start : FnScope ["script", "cells", "seed", "cell"] ["script"] (defScope s__law_start) := ⟨rfl, rfl, rfl, by decide +kernel, rfl, by decide +kernel, by decide +kernel⟩
theorem sc__law_draw : FnScope ["st", "many", "digit", "cell"] ["st", "many"] (defScope s__law_draw) := ⟨rfl, rfl, rfl, by decide +kernel, rfl, by decide +kernel, by decide +kernel⟩
theorem sc__law_turned : FnScope ["st", "n", "left", "row", "k"] ["st", "n"] (defScope s__law_turned) := ⟨rfl, rfl, rfl, by decide +kernel, rfl, by decide +kernel, by decide +kernel⟩
theorem sc__law_renamed : FnScope ["order", "row", "pair"] ["order", "row"] (defScope s__law_renamed) := ⟨rfl, rfl, rfl, by decide +kernel, rfl, by decide +kernel, by decide +kernel⟩
theorem sc__law_large : FnScope ["st", "n", "width", "is_chains", "pairs", "x", "row", "y"] ["st", "n"] (defScope s__law_large) := ⟨rfl, rfl, rfl, by decide +kernel, rfl, by decide +kernel, by decide +kernel⟩
theorem sc__law_one : FnScope ["st", "row"] ["st", "row"] (defScope s__law_one) := ⟨rfl, rfl, rfl, by decide +kernel, rfl, by decide +kernel, by decide +kernel⟩
theorem sc__law_labels : FnScope ["st", "line", "most", "n", "way", "classes", "step", "numbers", "least", "part", "x", "c"] ["st", "line", "most"] (defScope s__law_labels) := ⟨rfl, rfl, rfl, by decide +kernel, rfl, by decide +kernel, by decide +kernel⟩
theorem sc__law_classes : FnScope ["labels", "firsts", "classes", "label"] ["labels"] (defScope s__law_classes) := ⟨rfl, rfl, rfl, by decide +kernel, rfl, by decide +kernel, by decide +kernel⟩
theorem sc__law_quotient : FnScope ["order", "classes", "many", "c", "above", "pair", "m", "pairs", "a", "b"] ["order", "classes"] (defScope s__law_quotient) := ⟨rfl, rfl, rfl, by decide +kernel, rfl, by decide +kernel, by decide +kernel⟩
theorem sc__is_link : FnScope ["n", "link", "x", "y"] ["n", "link"] (defScope s__is_link) := ⟨rfl, rfl, rfl, by decide +kernel, rfl, by decide +kernel, by decide +kernel⟩
theorem sc_high_masks : FnScope ["order", "masks", "n", "pairs", "x", "y"] ["order"] (defScope s_high_masks) := ⟨rfl, rfl, rfl, by decide +kernel, rfl, by decide +kernel, by decide +kernel⟩
theorem sc__ways : FnScope ["n", "links", "masks", "middle", "x"] ["n", "links"] (defScope s__ways) := ⟨rfl, rfl, rfl, by decide +kernel, rfl, by decide +kernel, by decide +kernel⟩
theorem sc_points_in : FnScope ["mask", "found", "lowest"] ["mask"] (defScope s_points_in) := ⟨rfl, rfl, rfl, by decide +kernel, rfl, by decide +kernel, by decide +kernel⟩
theorem sc_order_of : FnScope ["n", "links", "link", "masks", "ring", "x", "y", "mask"] ["n", "links"] (defScope s_order_of) := ⟨rfl, rfl, rfl, by decide +kernel, rfl, by decide +kernel, by decide +kernel⟩
theorem sc_quotient : FnScope ["order", "labels", "numbers", "label", "classes", "links", "x", "y"] ["order", "labels"] (defScope s_quotient) := ⟨rfl, rfl, rfl, by decide +kernel, rfl, by decide +kernel, by decide +kernel⟩
theorem sc__law_same : FnScope ["told", "due", "k"] ["told", "due"] (defScope s__law_same) := ⟨rfl, rfl, rfl, by decide +kernel, rfl, by decide +kernel, by decide +kernel⟩
theorem sc__law_right : FnScope ["order", "labels", "due"] ["order", "labels"] (defScope s__law_right) := ⟨rfl, rfl, rfl, by decide +kernel, rfl, by decide +kernel, by decide +kernel⟩
theorem sc__law_order : FnScope ["st", "n", "thin", "row", "lows", "j", "pairs", "y", "low", "k", "x", "z"] ["st", "n", "thin"] (defScope s__law_order) := ⟨rfl, rfl, rfl, by decide +kernel, rfl, by decide +kernel, by decide +kernel⟩
theorem sc__law_ring_right : FnScope ["st", "order", "n", "many", "wide", "row", "labels", "k"] ["st", "order"] (defScope s__law_ring_right) := ⟨rfl, rfl, rfl, by decide +kernel, rfl, by decide +kernel, by decide +kernel⟩
theorem sc_law : FnScope ["script", "st", "n", "turn", "most", "order", "line"] ["script"] (defScope s_law) := ⟨rfl, rfl, rfl, by decide +kernel, rfl, by decide +kernel, by decide +kernel⟩
def h0O (s : ((List Int) × Int × Int × Int × Int × Int)) : OP := hetO [sh ((lstS intS) s.1), sh (intS s.2.1), sh (intS s.2.2.1), sh (intS s.2.2.2.1), sh (intS s.2.2.2.2.1), sh (intS s.2.2.2.2.2)]
inductive Ex where
  | RingFound (z : List Int)
def Ex.k {ω : Type} (u : Ex) (a0 : (List Int) → Option ω) : Option ω := match u with | .RingFound z => a0 z
def ExA (K : PySem.W.Frag) (u : Ex) : Addr := match u with | .RingFound _ => He.ga K "RingFound"
def ExD (u : Ex) : Option (Str × SP) := match u with | .RingFound z => some ("points", (tupS intS) z)
def Xp (K : PySem.W.Frag) (u : Ex) : XP := excX (ExA K u) (ExD u)
theorem Ex.hs {ω : Type} {K : PySem.W.Frag} {S : Stc} {B : List Stmt} {Γx : CC.Ctx} {i : Nat} {D : ω → Kd} {m0 : (List Int) → Option ω} (h0 : ∀ z, ∀ a d, JB (S.suiE a (He.ga K "RingFound") d) B (Γx.set i (some (sh (excS a d (some ("points", (tupS intS) z)))))) (m0 z) D) : ∀ u a d, JB (S.suiE a (ExA K u) d) B (Γx.set i (some (sh (excS a d (ExD u))))) (Ex.k u m0) D := fun u a d => match u with | .RingFound z => h0 z a d
theorem Ex.hu {ω : Type} {S : Stc} {B : List Stmt} {Γx : CC.Ctx} {D : ω → Kd} {m0 : (List Int) → Option ω} (h0 : ∀ z, JB S B Γx (m0 z) D) : ∀ u, JB S B Γx (Ex.k u m0) D := fun u => match u with | .RingFound z => h0 z
theorem Ex.al {K : PySem.W.Frag} {c : Value} (h0 : PySem.W.exmOne K (.ref (He.ga K "RingFound")) c = some true) : ∀ u, PySem.W.exmOne K (.ref (ExA K u)) c = some true := fun u => match u with | .RingFound _ => h0
theorem Ex.ax {K : PySem.W.Frag} {c : Value} (h : ∀ u, PySem.W.exmOne K (.ref (ExA K u)) c = some true) : ∀ u B c' d, (Xp K u).P B c' d → PySem.W.exmOne K c' c = some true := fun u B c' d e => by cases e.1; exact h u
abbrev fl_ : Str := PySem.Challenge.pw_chaincore_k31_quotients.main.file
abbrev si_RingFound : Stmt := clsM (topS 3) 0
def sd_RingFound : SupD := ⟨"RingFound", "RingFound.__init__", defArgs si_RingFound, defBody si_RingFound, defScope si_RingFound⟩
theorem sh_RingFound : ShI sd_RingFound "points" "points" := ⟨⟨_, _, _, _, _, _, _, _, _, _, _, _, _, rfl, rfl, rfl, fun _ => rfl, fun _ => ⟨_, rfl⟩, fun _ => rfl, fun _ => rfl⟩, NdefX.nscope_by (by decide +kernel), by decide +kernel, ⟨by decide, by decide⟩, fun _ _ _ _ _ _ us hl => match us, hl with | [_, _], _ => rfl⟩
/-- what the top has left -/
structure Tx (P : Program) (K : PySem.W.Frag) (mg : Str → Option Value) where
  a__law_mixed : Addr
  d__law_mixed : FuncData
  F__law_mixed : FnP K "_law_mixed" s__law_mixed a__law_mixed d__law_mixed
  b__law_mixed : Binds K d__law_mixed ["number", "count"] []
  g__law_mixed : mg "_law_mixed" = some (.ref a__law_mixed)
  a__law_start : Addr
  d__law_start : FuncData
  F__law_start : FnP K "_law_start" s__law_start a__law_start d__law_start
  b__law_start : Binds K d__law_start ["script"] []
  g__law_start : mg "_law_start" = some (.ref a__law_start)
  a__law_draw : Addr
  d__law_draw : FuncData
  F__law_draw : FnP K "_law_draw" s__law_draw a__law_draw d__law_draw
  b__law_draw : Binds K d__law_draw ["st", "many"] []
  g__law_draw : mg "_law_draw" = some (.ref a__law_draw)
  a__law_turned : Addr
  d__law_turned : FuncData
  F__law_turned : FnP K "_law_turned" s__law_turned a__law_turned d__law_turned
  b__law_turned : Binds K d__law_turned ["st", "n"] []
  g__law_turned : mg "_law_turned" = some (.ref a__law_turned)
  a__law_renamed : Addr
  d__law_renamed : FuncData
  F__law_renamed : FnP K "_law_renamed" s__law_renamed a__law_renamed d__law_renamed
  b__law_renamed : Binds K d__law_renamed ["order", "row"] []
  g__law_renamed : mg "_law_renamed" = some (.ref a__law_renamed)
  a__law_large : Addr
  d__law_large : FuncData
  F__law_large : FnP K "_law_large" s__law_large a__law_large d__law_large
  b__law_large : Binds K d__law_large ["st", "n"] []
  g__law_large : mg "_law_large" = some (.ref a__law_large)
  a__law_one : Addr
  d__law_one : FuncData
  F__law_one : FnP K "_law_one" s__law_one a__law_one d__law_one
  b__law_one : Binds K d__law_one ["st", "row"] []
  g__law_one : mg "_law_one" = some (.ref a__law_one)
  a__law_labels : Addr
  d__law_labels : FuncData
  F__law_labels : FnP K "_law_labels" s__law_labels a__law_labels d__law_labels
  b__law_labels : Binds K d__law_labels ["st", "line", "most"] []
  g__law_labels : mg "_law_labels" = some (.ref a__law_labels)
  a__law_classes : Addr
  d__law_classes : FuncData
  F__law_classes : FnP K "_law_classes" s__law_classes a__law_classes d__law_classes
  b__law_classes : Binds K d__law_classes ["labels"] []
  g__law_classes : mg "_law_classes" = some (.ref a__law_classes)
  a__law_quotient : Addr
  d__law_quotient : FuncData
  F__law_quotient : FnP K "_law_quotient" s__law_quotient a__law_quotient d__law_quotient
  b__law_quotient : Binds K d__law_quotient ["order", "classes"] []
  g__law_quotient : mg "_law_quotient" = some (.ref a__law_quotient)
  a__is_link : Addr
  d__is_link : FuncData
  F__is_link : FnP K "_is_link" s__is_link a__is_link d__is_link
  b__is_link : Binds K d__is_link ["n", "link"] []
  g__is_link : mg "_is_link" = some (.ref a__is_link)
  a_high_masks : Addr
  d_high_masks : FuncData
  F_high_masks : FnP K "high_masks" s_high_masks a_high_masks d_high_masks
  b_high_masks : Binds K d_high_masks ["order"] []
  g_high_masks : mg "high_masks" = some (.ref a_high_masks)
  a__ways : Addr
  d__ways : FuncData
  F__ways : FnP K "_ways" s__ways a__ways d__ways
  b__ways : Binds K d__ways ["n", "links"] []
  g__ways : mg "_ways" = some (.ref a__ways)
  a_points_in : Addr
  d_points_in : FuncData
  F_points_in : FnP K "points_in" s_points_in a_points_in d_points_in
  b_points_in : Binds K d_points_in ["mask"] []
  g_points_in : mg "points_in" = some (.ref a_points_in)
  a_order_of : Addr
  d_order_of : FuncData
  F_order_of : FnP K "order_of" s_order_of a_order_of d_order_of
  b_order_of : Binds K d_order_of ["n", "links"] []
  g_order_of : mg "order_of" = some (.ref a_order_of)
  a_quotient : Addr
  d_quotient : FuncData
  F_quotient : FnP K "quotient" s_quotient a_quotient d_quotient
  b_quotient : Binds K d_quotient ["order", "labels"] []
  q0_quotient : KBn K d_quotient ["order", "labels"] 0 ["labels", "order"] (fun us ws => sel (us ++ ws) [1, 0]) (fun vs zs => sel (vs ++ zs) [1, 0])
  g_quotient : mg "quotient" = some (.ref a_quotient)
  a__law_same : Addr
  d__law_same : FuncData
  F__law_same : FnP K "_law_same" s__law_same a__law_same d__law_same
  b__law_same : Binds K d__law_same ["told", "due"] []
  g__law_same : mg "_law_same" = some (.ref a__law_same)
  a__law_right : Addr
  d__law_right : FuncData
  F__law_right : FnP K "_law_right" s__law_right a__law_right d__law_right
  b__law_right : Binds K d__law_right ["order", "labels"] []
  g__law_right : mg "_law_right" = some (.ref a__law_right)
  a__law_order : Addr
  d__law_order : FuncData
  F__law_order : FnP K "_law_order" s__law_order a__law_order d__law_order
  b__law_order : Binds K d__law_order ["st", "n", "thin"] []
  g__law_order : mg "_law_order" = some (.ref a__law_order)
  a__law_ring_right : Addr
  d__law_ring_right : FuncData
  F__law_ring_right : FnP K "_law_ring_right" s__law_ring_right a__law_ring_right d__law_ring_right
  b__law_ring_right : Binds K d__law_ring_right ["st", "order"] []
  g__law_ring_right : mg "_law_ring_right" = some (.ref a__law_ring_right)
  a_law : Addr
  d_law : FuncData
  F_law : FnP K "law" s_law a_law d_law
  b_law : Binds K d_law ["script"] []
  g_law : mg "law" = some (.ref a_law)
  m_list : mg "list" = none
  m_len : mg "len" = none
  m_int : mg "int" = none
  m_abs : mg "abs" = none
  m_range : mg "range" = none
  m_tuple : mg "tuple" = none
  m_sorted : mg "sorted" = none
  m_min : mg "min" = none
  m_max : mg "max" = none
  m_super : mg "super" = none
  m_enumerate : mg "enumerate" = none
  m_isinstance : mg "isinstance" = none
  m_bool : mg "bool" = none
  g_RingFound : mg "RingFound" = some (.ref (He.ga K "RingFound"))
  no_RingFound_points : PySem.W.findIn K (.ref (He.ga K "RingFound")) "points" = some none
  s_RingFound : SupF K fl_ (He.ga K "RingFound") (iAd K "RingFound") sd_RingFound
  pf : PF P fl_
  h_RingFound_RingFound : PySem.W.exmOne K (.ref (He.ga K "RingFound")) (.ref (He.ga K "RingFound")) = some true
section
variable {P : Program} {w : World} {K : PySem.W.Frag} {mg : Str → Option Value} {base : Heap}
def M_law_mixed (a : Int × (Int × Unit)) : Option Int :=
 (((((mulO a.1 (48271 : Int)).bind fun x6 => (mulO a.2.1 (69621 : Int)).bind fun x7 => some (x6 + x7)).bind fun x8 => some (x8 + (13 : Int))).bind fun x9 => some x9).bind fun x10 => modO x10 (2147483647 : Int)).bind fun a11 => (((((mulO a11 a11).bind fun x12 => (mulO a.2.1 (40692 : Int)).bind fun x13 => some (x12 + x13)).bind fun x14 => some (x14 + (5 : Int))).bind fun x15 => some x15).bind fun x16 => modO x16 (2147483399 : Int)).bind fun a17 => (((((mulO a17 a17).bind fun x18 => some (x18 + a11)).bind fun x19 => some (x19 + a.2.1)).bind fun x20 => some x20).bind fun x21 => modO x21 (2147483629 : Int)).bind fun a22 => (((mulO a22 (2147483399 : Int)).bind fun x23 => some (x23 + a17)).bind fun x24 => mulO x24 (2147483647 : Int)).bind fun x25 => some (x25 + a11)
theorem ok_law_mixed (T : Tx P K mg) : FnOk P w K mg base CX0 1 T.a__law_mixed T.d__law_mixed ["number", "count"] (spP (fun a : Int × (Int × Unit) => [intS a.1, intS a.2.1]) M_law_mixed (fun x => sh (intS x))) :=
 fnd_pure (Δ := nonC 5) T.F__law_mixed sc__law_mixed (fun _ => rfl) (by decide) fun a => JB.cong (
 jb_cons (js_set 2 sc__law_mixed.nd (jn_bin oMod ov_mod (int_int T.m_int (jn_bin oAdd ov_add (jn_bin oAdd ov_add (jn_bin oMul ov_mul (jn_var (E := intS) (a := a.1) 0) jn_int) (jn_bin oMul ov_mul (jn_var (E := intS) (a := a.2.1) 1) jn_int)) jn_int)) jn_int)) fun a11 =>
 jb_cons (js_set 3 sc__law_mixed.nd (jn_bin oMod ov_mod (int_int T.m_int (jn_bin oAdd ov_add (jn_bin oAdd ov_add (jn_bin oMul ov_mul (jn_var (E := intS) (a := a11) 2) (jn_var (E := intS) (a := a11) 2)) (jn_bin oMul ov_mul (jn_var (E := intS) (a := a.2.1) 1) jn_int)) jn_int)) jn_int)) fun a17 =>
 jb_cons (js_set 4 sc__law_mixed.nd (jn_bin oMod ov_mod (int_int T.m_int (jn_bin oAdd ov_add (jn_bin oAdd ov_add (jn_bin oMul ov_mul (jn_var (E := intS) (a := a17) 3) (jn_var (E := intS) (a := a17) 3)) (jn_var (E := intS) (a := a11) 2)) (jn_var (E := intS) (a := a.2.1) 1))) jn_int)) fun a22 =>
 jb_ret (weak_none _) (jn_bin oAdd ov_add (jn_bin oMul ov_mul (jn_bin oAdd ov_add (jn_bin oMul ov_mul (jn_var (E := intS) (a := a22) 4) jn_int) (jn_var (E := intS) (a := a17) 3)) jn_int) (jn_var (E := intS) (a := a11) 2))) (by unfold M_law_mixed; first | (dsimp only [CC.sb]; done) | (dsimp only [CC.sb]; rfl) | rfl)
def M_law_start (a : (List Int) × Unit) : Option ((List Int) × Int × Int × Int × Int × Int) :=
 (foldGo (fun x4 s5 => (M_law_mixed (s5 + x4, ((7 : Int), ()))).bind fun a26 => some a26) a.1 (a.1.length : Int)).bind fun a27 => some (a.1, (0 : Int), (0 : Int), (0 : Int), (0 : Int), a27)
theorem ok_law_start (T : Tx P K mg) : FnOk P w K mg base CX0 2 T.a__law_start T.d__law_start ["script"] (spP (fun a : (List Int) × Unit => [(scrS K) a.1]) M_law_start h0O) :=
 fnd_pure (Δ := nonC 4) T.F__law_start sc__law_start (fun _ => rfl) (by decide) fun a => JB.cong (
 jb_cons (js_set 1 sc__law_start.nd (list_scr T.m_list (jn_var (E := (scrS K)) (a := a.1) 0))) fun a1 =>
 jb_cons (js_set 2 sc__law_start.nd (len_lstO T.m_len (jr_var (R := (lstO (fun x => sh (intS x)))) (a := a1) 1))) fun a2 =>
 JB.frz (i := 1) (o := (lstO (fun x => sh (intS x))) a1) (p := (lstS intS) a1) rfl ((fz_lst (fun _ => fz_sh)) _) (jb_cons (js_forS (Γl := fun s3 : Int => [some (sh ((scrS K) a.1)), some (sh ((lstS intS) a1)), some (sh (intS s3)), none]) a2 (ji_lst (jn_var (E := (lstS intS)) (a := a1) 1)) (jg_name (E := intS) 3 sc__law_start.nd) (weak_mask [true, true, true, false] _) (fun _ => all_lt rfl) fun x4 s5 =>
 jb_cons (js_set 2 sc__law_start.nd (jn_call (ok_law_mixed T) T.g__law_mixed T.F__law_mixed.kp T.b__law_mixed (Nat.le_of_ble_eq_true rfl) (ja_cons (jn_bin oAdd ov_add (jn_var (E := intS) (a := s5) 2) (jn_var (E := intS) (a := x4) 3)) (ja_cons jn_int ja_nil)))) fun a26 =>
 jb_nil (x := a26) rfl (weak_mask [true, true, true, false] _)) fun a27 =>
 jb_ret (weak_none _) (jn_hl (T := h0O) (g := fun z => (z.1, z.2.1, z.2.2.1, z.2.2.2.1, z.2.2.2.2.1, z.2.2.2.2.2.1)) (ja_cons (jn_var (E := (lstS intS)) (a := a1) 1) (ja_cons jn_int (ja_cons jn_int (ja_cons jn_int (ja_cons jn_int (ja_cons (jn_var (E := intS) (a := a27) 2) ja_nil))))))))) (by unfold M_law_start; first | (dsimp only [CC.sb]; done) | (dsimp only [CC.sb]; rfl) | rfl)
def M_law_draw (a : Int × Unit) (s : ((List Int) × Int × Int × Int × Int × Int)) : Option (Int × ((List Int) × Int × Int × Int × Int × Int)) :=
 ((bif decide (s.2.2.1 = (0 : Int)) then some true else some (decide ((59 : Int) < s.2.2.2.1))).bind fun x60 => bif x60 then bif decide ((s.1.length : Int) ≤ s.2.1) then ((((M_law_mixed (s.2.2.2.2.2, (s.2.2.2.2.1 + (1 : Int), ()))).bind fun x46 => some x46).bind fun x47 => modO x47 a.1).bind fun x48 => some (x48, (s.1, s.2.1, s.2.2.1, s.2.2.2.1, s.2.2.2.2.1 + (1 : Int), s.2.2.2.2.2))).bind fun y59 => some (Out.rt y59) else (atI s.1 s.2.1).bind fun a49 => ((modO a49 (2 : Int)).bind fun x51 => some (decide (x51 = (1 : Int)))).bind fun x58 => bif x58 then ((((M_law_mixed (a49, (s.2.2.2.2.1 + (1 : Int), ()))).bind fun x52 => some x52).bind fun x53 => modO x53 a.1).bind fun x54 => some (x54, (s.1, s.2.1 + (1 : Int), s.2.2.1, s.2.2.2.1, s.2.2.2.2.1 + (1 : Int), s.2.2.2.2.2))).bind fun y57 => some (Out.rt y57) else (divO (absI a49) (2 : Int)).bind fun a55 => some (Out.nx (s.1, s.2.1 + (1 : Int), a55, (0 : Int), s.2.2.2.2.1 + (1 : Int), s.2.2.2.2.2)) else some (Out.nx (s.1, s.2.1, s.2.2.1, s.2.2.2.1, s.2.2.2.2.1 + (1 : Int), s.2.2.2.2.2))).bind fun o65 => o65.k (fun a61 => (modO a61.2.2.1 a.1).bind fun a62 => (divO a61.2.2.1 a.1).bind fun a63 => some (a62, (a61.1, a61.2.1, a63, a61.2.2.2.1 + (1 : Int), a61.2.2.2.2.1, a61.2.2.2.2.2))) fun r66 => some ((fun r => r) r66)
theorem ok_law_draw (T : Tx P K mg) : FnOk P w K mg base CX0 2 T.a__law_draw T.d__law_draw ["st", "many"] (spS h0O (fun a : Int × Unit => [intS a.1]) M_law_draw (fun x => sh (intS x))) :=
 fnd_state T.F__law_draw sc__law_draw (fun _ => rfl) (by decide) fun a s => JB.cong (
 jb_cons (js_setH (E := intS) 0 4 (jn_bin oAdd ov_add (jn_of (jr_ixO (R := (fun x => sh (intS x))) (g := fun z => z.2.2.2.2.1) 4 (jr_var (R := h0O) (a := s) 0))) jn_int)) fun a30 =>
 jb_consO (Γl := fun v45 : ((List Int) × Int × Int × Int × Int × Int) => [some (h0O v45), some (sh (intS a.1)), none, none]) (T := fun r : Int × ((List Int) × Int × Int × Int × Int × Int) => Kd.rt (some (h0O r.2) :: nonC 3) ((fun x => sh (intS x)) r.1)) (fun r => r) (js_if (D := DF (fun v45 : ((List Int) × Int × Int × Int × Int × Int) => [some (h0O v45), some (sh (intS a.1)), none, none]) (fun r : Int × ((List Int) × Int × Int × Int × Int × Int) => Kd.rt (some (h0O r.2) :: nonC 3) ((fun x => sh (intS x)) r.1))) (jt_w (jw_or (jt_cmp oEq ov_eqI (jn_of (jr_ixO (R := (fun x => sh (intS x))) (g := fun z => z.2.2.1) 2 (jr_var (R := h0O) (a := (s.1, s.2.1, s.2.2.1, s.2.2.2.1, a30, s.2.2.2.2.2)) 0))) jn_int) (jw_or1 (jt_cmp oGt ov_gt (jn_of (jr_ixO (R := (fun x => sh (intS x))) (g := fun z => z.2.2.2.1) 3 (jr_var (R := h0O) (a := (s.1, s.2.1, s.2.2.1, s.2.2.2.1, a30, s.2.2.2.2.2)) 0))) jn_int)))) (jb_ifx (D' := (fun r : Int × ((List Int) × Int × Int × Int × Int × Int) => Kd.rt (some (h0O r.2) :: nonC 3) ((fun x => sh (intS x)) r.1))) Out.rt (jt_cmp oGe ov_ge (jn_of (jr_ixO (R := (fun x => sh (intS x))) (g := fun z => z.2.1) 1 (jr_var (R := h0O) (a := (s.1, s.2.1, s.2.2.1, s.2.2.2.1, a30, s.2.2.2.2.2)) 0))) (len_lst T.m_len (jn_of (jr_ixO (R := (fun x => sh ((lstS intS) x))) (g := fun z => z.1) 0 (jr_var (R := h0O) (a := (s.1, s.2.1, s.2.2.1, s.2.2.2.1, a30, s.2.2.2.2.2)) 0))))) (jb_retS (R := (fun x => sh (intS x))) (Δ := fun s => some (h0O s) :: nonC 3) (s := (s.1, s.2.1, s.2.2.1, s.2.2.2.1, a30, s.2.2.2.2.2)) (weak_mask [true, false, false, false] _) (jn_bin oMod ov_mod (int_int T.m_int (jn_call (ok_law_mixed T) T.g__law_mixed T.F__law_mixed.kp T.b__law_mixed (Nat.le_of_ble_eq_true rfl) (ja_cons (jn_of (jr_ixO (R := (fun x => sh (intS x))) (g := fun z => z.2.2.2.2.2) 5 (jr_var (R := h0O) (a := (s.1, s.2.1, s.2.2.1, s.2.2.2.1, a30, s.2.2.2.2.2)) 0))) (ja_cons (jn_of (jr_ixO (R := (fun x => sh (intS x))) (g := fun z => z.2.2.2.2.1) 4 (jr_var (R := h0O) (a := (s.1, s.2.1, s.2.2.1, s.2.2.2.1, a30, s.2.2.2.2.2)) 0))) ja_nil)))) (jn_var (E := intS) (a := a.1) 1))) (fun _ => rfl) (fun _ => trivial)
 (jb_cons (js_set 3 sc__law_draw.nd (jn_of (jr_ix oIxL iv_lst (jr_ixO (R := (fun x => sh ((lstS intS) x))) (g := fun z => z.1) 0 (jr_var (R := h0O) (a := (s.1, s.2.1, s.2.2.1, s.2.2.2.1, a30, s.2.2.2.2.2)) 0)) (jn_of (jr_ixO (R := (fun x => sh (intS x))) (g := fun z => z.2.1) 1 (jr_var (R := h0O) (a := (s.1, s.2.1, s.2.2.1, s.2.2.2.1, a30, s.2.2.2.2.2)) 0)))))) fun a49 =>
 jb_cons (js_setH (E := intS) 0 1 (jn_bin oAdd ov_add (jn_of (jr_ixO (R := (fun x => sh (intS x))) (g := fun z => z.2.1) 1 (jr_var (R := h0O) (a := (s.1, s.2.1, s.2.2.1, s.2.2.2.1, a30, s.2.2.2.2.2)) 0))) jn_int)) fun a50 =>
 jb_ifx (D' := (fun r : Int × ((List Int) × Int × Int × Int × Int × Int) => Kd.rt (some (h0O r.2) :: nonC 3) ((fun x => sh (intS x)) r.1))) Out.rt (jt_cmp oEq ov_eqI (jn_bin oMod ov_mod (int_int T.m_int (jn_var (E := intS) (a := a49) 3)) jn_int) jn_int) (jb_retS (R := (fun x => sh (intS x))) (Δ := fun s => some (h0O s) :: nonC 3) (s := (s.1, a50, s.2.2.1, s.2.2.2.1, a30, s.2.2.2.2.2)) (weak_mask [true, false, false, false] _) (jn_bin oMod ov_mod (int_int T.m_int (jn_call (ok_law_mixed T) T.g__law_mixed T.F__law_mixed.kp T.b__law_mixed (Nat.le_of_ble_eq_true rfl) (ja_cons (jn_var (E := intS) (a := a49) 3) (ja_cons (jn_of (jr_ixO (R := (fun x => sh (intS x))) (g := fun z => z.2.2.2.2.1) 4 (jr_var (R := h0O) (a := (s.1, a50, s.2.2.1, s.2.2.2.1, a30, s.2.2.2.2.2)) 0))) ja_nil)))) (jn_var (E := intS) (a := a.1) 1))) (fun _ => rfl) (fun _ => trivial)
 (jb_cons (js_setH (E := intS) 0 2 (jn_bin oDiv ov_div (abs_int T.m_abs (jn_var (E := intS) (a := a49) 3)) jn_int)) fun a55 =>
 jb_cons (js_setH (E := intS) 0 3 jn_int) fun a56 =>
 jb_nil (x := Out.nx (s.1, a50, a55, a56, a30, s.2.2.2.2.2)) rfl (weak_mask [true, true, false, false] _)))) (jb_nil (x := Out.nx (s.1, s.2.1, s.2.2.1, s.2.2.2.1, a30, s.2.2.2.2.2)) rfl (weak_mask [true, true, false, false] _))) (fun _ => rfl) (fun _ => trivial) fun a61 =>
 jb_cons (js_set 2 sc__law_draw.nd (jn_bin oMod ov_mod (int_int T.m_int (jn_of (jr_ixO (R := (fun x => sh (intS x))) (g := fun z => z.2.2.1) 2 (jr_var (R := h0O) (a := a61) 0)))) (jn_var (E := intS) (a := a.1) 1))) fun a62 =>
 jb_cons (js_setH (E := intS) 0 2 (jn_bin oDiv ov_div (jn_of (jr_ixO (R := (fun x => sh (intS x))) (g := fun z => z.2.2.1) 2 (jr_var (R := h0O) (a := a61) 0))) (jn_var (E := intS) (a := a.1) 1))) fun a63 =>
 jb_cons (js_setH (E := intS) 0 3 (jn_bin oAdd ov_add (jn_of (jr_ixO (R := (fun x => sh (intS x))) (g := fun z => z.2.2.2.1) 3 (jr_var (R := h0O) (a := (a61.1, a61.2.1, a63, a61.2.2.2.1, a61.2.2.2.2.1, a61.2.2.2.2.2)) 0))) jn_int)) fun a64 =>
 jb_retS (R := (fun x => sh (intS x))) (Δ := fun s => some (h0O s) :: nonC 3) (s := (a61.1, a61.2.1, a63, a64, a61.2.2.2.2.1, a61.2.2.2.2.2)) (weak_mask [true, false, false, false] _) (jn_var (E := intS) (a := a62) 2)) (by unfold M_law_draw; first | (dsimp only [CC.sb]; done) | (dsimp only [CC.sb]; rfl) | rfl)
def M_law_turned (a : Int × Unit) (s : ((List Int) × Int × Int × Int × Int × Int)) : Option ((List Int) × ((List Int) × Int × Int × Int × Int × Int)) :=
 (rng 0 a.1).bind fun a122 => ((rng 0 a.1).bind fun x134 => foldGo (fun x125 s126 => ((((M_law_draw ((((s126.2.1, s126.1).1).length : Int), ()) ((s126.2.1, s126.1).2)).bind fun r128 => some (r128.1, ((s126.2.1, s126.1).1, r128.2))).bind fun q129 => (popAt q129.2.1 q129.1).bind fun r130 => some (r130.1, (r130.2, q129.2.2))).bind fun q131 => (appM s126.2.2 q131.1).bind fun r132 => some (r132, q131.2)).bind fun a133 => some (a133.2.2, a133.2.1, a133.1)) x134 (s, a122, [])).bind fun a135 => some (a135.2.2, a135.1)
theorem ok_law_turned (T : Tx P K mg) : FnOk P w K mg base CX0 3 T.a__law_turned T.d__law_turned ["st", "n"] (spS h0O (fun a : Int × Unit => [intS a.1]) M_law_turned (lstO (fun x => sh (intS x)))) :=
 fnd_state T.F__law_turned sc__law_turned (fun _ => rfl) (by decide) fun a s => JB.cong (
 jb_cons (js_set 2 sc__law_turned.nd (list_rng T.m_list T.m_range (jn_var (E := intS) (a := a.1) 1))) fun a122 =>
 jb_cons (js_set 3 sc__law_turned.nd (jn_nilLO (E := (fun x => sh (intS x))))) fun a123 =>
 jb_cons (js_forS (Γl := fun s124 : ((List Int) × Int × Int × Int × Int × Int) × (List Int) × (List Int) => [some (h0O s124.1), some (sh (intS a.1)), some ((lstO (fun x => sh (intS x))) s124.2.1), some ((lstO (fun x => sh (intS x))) s124.2.2), none]) (s, a122, a123) (ji_rng1 T.m_range (jn_var (E := intS) (a := a.1) 1)) (jg_name (E := intS) 4 sc__law_turned.nd) (weak_mask [true, true, true, true, false] _) (fun _ => all_lt rfl) fun x125 s126 =>
 jb_cons (js_appE (E := (fun x => sh (intS x))) (Γ := fun s127 : (List Int) × ((List Int) × Int × Int × Int × Int × Int) => [some (h0O s127.2), some (sh (intS a.1)), some ((lstO (fun x => sh (intS x))) s127.1), some ((lstO (fun x => sh (intS x))) s126.2.2), some (sh (intS x125))]) (s := (s126.2.1, s126.1)) 3 (fun _ => s126.2.2) (je_popAt (E := (fun x => sh (intS x))) 2 (fun s => s.1) (fun s u => (u, s.2)) (je_callS (O := h0O) 0 (fun s => s.2) (fun s u => (s.1, u)) (ok_law_draw T) T.g__law_draw T.F__law_draw.kp T.b__law_draw (Nat.le_of_ble_eq_true rfl) (jea_of (ja_cons (len_lstO T.m_len (jr_var (R := (lstO (fun x => sh (intS x)))) (a := (s126.2.1, s126.1).1) 2)) ja_nil))))) fun a133 =>
 jb_nil (x := (a133.2.2, a133.2.1, a133.1)) rfl (weak_mask [true, true, true, true, false] _)) fun a135 =>
 jb_retOS (R := (lstO (fun x => sh (intS x)))) (Δ := fun s => some (h0O s) :: nonC 4) 3 (weak_mask [true, false, false, false, false] _)) (by unfold M_law_turned; first | (dsimp only [CC.sb]; done) | (dsimp only [CC.sb]; rfl) | rfl)
def M_law_renamed (a : (Int × (List (Int × Int))) × ((List Int) × Unit)) : Option (Int × (List (Int × Int))) :=
 (((((mapM (fun x138 => ((atI a.2.1 x138.1).bind fun x139 => ((atI a.2.1 x138.2).bind fun x140 => some (x140, ())).bind fun y141 => some (x139, y141)).bind fun z142 => some (z142.1, z142.2.1)) a.1.2).bind fun x143 => some (sortP x143)).bind fun x => some x).bind fun x144 => some (x144, ())).bind fun y145 => some (a.1.1, y145)).bind fun z146 => some (z146.1, z146.2.1)
theorem ok_law_renamed (T : Tx P K mg) : FnOk P w K mg base CX0 1 T.a__law_renamed T.d__law_renamed ["order", "row"] (spP (fun a : (Int × (List (Int × Int))) × ((List Int) × Unit) => [(prS intS (tupS (prS intS intS))) a.1, (lstS intS) a.2.1]) M_law_renamed (fun x => sh ((prS intS (tupS (prS intS intS))) x))) :=
 fnd_pure (Δ := nonC 3) T.F__law_renamed sc__law_renamed (fun _ => rfl) (by decide) fun a => JB.cong (
 jb_ret (weak_none _) (jn_tupG (P := (prS intS (tupS (prS intS intS)))) (g := fun z => (z.1, z.2.1)) (ja_cons (jn_ixT (E := intS) (g := fun z => z.1) 0 (jn_var (E := (prS intS (tupS (prS intS intS)))) (a := a.1) 0)) (ja_cons (tup_lst T.m_tuple (JN.frz (fz_lst (fun _ => fz_sh)) (sorted_prs T.m_sorted (JN.frz (fz_lst (fun _ => fz_sh)) (jn_lc sc__law_renamed.nd (jc_map [("pair", 2)] (jic_of (ji_tup (jn_ixT (E := (tupS (prS intS intS))) (g := fun z => z.2) 1 (jn_var (E := (prS intS (tupS (prS intS intS)))) (a := a.1) 0)))) (show blkC ["order", "row", "pair"] (defScope s__law_renamed) _ [("pair", 2)] = true by decide +kernel) (jg_name (E := (prS intS intS)) 2 sc__law_renamed.nd) (by decide) (all_lt rfl) fun x138 => (jn_tupG (P := (prS intS intS)) (g := fun z => (z.1, z.2.1)) (ja_cons (jn_of (jr_ix oIxL iv_lst (jr_of (jn_var (E := (lstS intS)) (a := a.2.1) 1)) (jn_ixT (E := intS) (g := fun z => z.1) 0 (jn_var (E := (prS intS intS)) (a := x138) 2)))) (ja_cons (jn_of (jr_ix oIxL iv_lst (jr_of (jn_var (E := (lstS intS)) (a := a.2.1) 1)) (jn_ixT (E := intS) (g := fun z => z.2) 1 (jn_var (E := (prS intS intS)) (a := x138) 2)))) ja_nil))))))))) ja_nil)))) (by unfold M_law_renamed; first | (dsimp only [CC.sb]; done) | (dsimp only [CC.sb]; rfl) | rfl)
def M_law_large (a : Int × Unit) (s : ((List Int) × Int × Int × Int × Int × Int)) : Option (((Int × (List (Int × Int))) × (List Int)) × ((List Int) × Int × Int × Int × Int × Int)) :=
 (((M_law_draw ((8 : Int), ()) s).bind fun r77 => some (r77.1, r77.2)).bind fun q78 => some ((1 : Int) + q78.1, q78.2)).bind fun a79 => (((M_law_draw ((2 : Int), ()) a79.2).bind fun r81 => some (r81.1, r81.2)).bind fun q83 => some (decide (q83.1 = (0 : Int)), q83.2)).bind fun a84 => ((rng 0 a.1).bind fun x119 => foldGo (fun x95 s96 => (bif a84.1 then (((rng3 (x95 + a79.1) a.1 a79.1).bind fun x109 => mapM (fun x108 => some (x95, x108)) x109).bind fun x110 => catM s96 x110).bind fun a111 => some a111 else (((((modO x95 a79.1).bind fun x112 => some ((x95 + a79.1) - x112)).bind fun x113 => rng x113 a.1).bind fun x115 => mapM (fun x114 => some (x95, x114)) x115).bind fun x116 => catM s96 x116).bind fun a117 => some a117).bind fun a118 => some a118) x119 []).bind fun a120 => ((M_law_turned (a.1, ()) a84.2).bind fun r136 => some (r136.1, r136.2)).bind fun a137 => (((M_law_renamed ((a.1, a120), (a137.1, ()))).bind fun x149 => some (x149, (a137.1, ()))).bind fun z150 => some (z150.1, z150.2.1)).bind fun x151 => some (x151, a137.2)
theorem ok_law_large (T : Tx P K mg) : FnOk P w K mg base CX0 4 T.a__law_large T.d__law_large ["st", "n"] (spS h0O (fun a : Int × Unit => [intS a.1]) M_law_large (fun x => sh ((prS (prS intS (tupS (prS intS intS))) (lstS intS)) x))) :=
 fnd_state T.F__law_large sc__law_large (fun _ => rfl) (by decide) fun a s => JB.cong (
 jb_cons (js_setE (Γ := fun s75 : ((List Int) × Int × Int × Int × Int × Int) => [some (h0O s75), some (sh (intS a.1)), none, none, none, none, none, none]) (s := s) 2 sc__law_large.nd (je_bin oAdd ov_add (je_of jn_int) fun s76 => (je_callS (O := h0O) 0 (fun s => s) (fun s u => u) (ok_law_draw T) T.g__law_draw T.F__law_draw.kp T.b__law_draw (Nat.le_of_ble_eq_true rfl) (jea_of (ja_cons jn_int ja_nil))))) fun a79 =>
 jb_cons (js_setE (Γ := fun s80 : ((List Int) × Int × Int × Int × Int × Int) => [some (h0O s80), some (sh (intS a.1)), some (sh (intS a79.1)), none, none, none, none, none]) (s := a79.2) 3 sc__law_large.nd (je_cmp oEq ov_eqI (je_callS (O := h0O) 0 (fun s => s) (fun s u => u) (ok_law_draw T) T.g__law_draw T.F__law_draw.kp T.b__law_draw (Nat.le_of_ble_eq_true rfl) (jea_of (ja_cons jn_int ja_nil))) fun s82 => (je_of jn_int))) fun a84 =>
 jb_cons (js_set 4 sc__law_large.nd (jn_nilLO (E := (fun x => sh ((prS intS intS) x))))) fun a85 =>
 JB.frz (i := 4) (o := (lstO (fun x => sh ((prS intS intS) x))) a85) (p := (lstS (prS intS intS)) a85) rfl ((fz_lst (fun _ => fz_sh)) _) (jb_cons (js_forS (Γl := fun s94 : (List (Int × Int)) => [some (h0O a84.2), some (sh (intS a.1)), some (sh (intS a79.1)), some (sh (boolS a84.1)), some (sh ((lstS (prS intS intS)) s94)), none, none, none]) a85 (ji_rng1 T.m_range (jn_var (E := intS) (a := a.1) 1)) (jg_name (E := intS) 5 sc__law_large.nd) (weak_mask [true, true, true, true, true, false, false, false] _) (fun _ => all_lt rfl) fun x95 s96 =>
 jb_cons (js_if (jt_val (jn_var (E := boolS) (a := a84.1) 3)) (D := fun v => Kd.nx ((fun v107 : (List (Int × Int)) => [some (h0O a84.2), some (sh (intS a.1)), some (sh (intS a79.1)), some (sh (boolS a84.1)), some ((lstO (fun x => sh ((prS intS intS) x))) v107), some (sh (intS x95)), none, none]) v)) (jb_cons (js_set 4 sc__law_large.nd (jn_bin oCat ov_cat (jn_var (E := (lstS (prS intS intS))) (a := s96) 4) (JN.frz (fz_lst (fun _ => fz_sh)) (jn_lc sc__law_large.nd (jc_map [("y", 7)] (jic_of (ji_rng3 T.m_range (jn_bin oAdd ov_add (jn_var (E := intS) (a := x95) 5) (jn_var (E := intS) (a := a79.1) 2)) (jn_var (E := intS) (a := a.1) 1) (jn_var (E := intS) (a := a79.1) 2))) (show blkC ["st", "n", "width", "is_chains", "pairs", "x", "row", "y"] (defScope s__law_large) _ [("y", 7)] = true by decide +kernel) (jg_name (E := intS) 7 sc__law_large.nd) (by decide) (all_lt rfl) fun x108 => (jn_tupG (P := (prS intS intS)) (g := fun z => (z.1, z.2.1)) (ja_cons (jn_var (E := intS) (a := x95) 5) (ja_cons (jn_var (E := intS) (a := x108) 7) ja_nil)))))))) fun a111 =>
 jb_nil (x := a111) rfl (weak_mask [true, true, true, true, true, true, false, false] _)) (jb_cons (js_set 4 sc__law_large.nd (jn_bin oCat ov_cat (jn_var (E := (lstS (prS intS intS))) (a := s96) 4) (JN.frz (fz_lst (fun _ => fz_sh)) (jn_lc sc__law_large.nd (jc_map [("y", 7)] (jic_of (ji_rng2 T.m_range (jn_bin oSub ov_sub (jn_bin oAdd ov_add (jn_var (E := intS) (a := x95) 5) (jn_var (E := intS) (a := a79.1) 2)) (jn_bin oMod ov_mod (int_int T.m_int (jn_var (E := intS) (a := x95) 5)) (jn_var (E := intS) (a := a79.1) 2))) (jn_var (E := intS) (a := a.1) 1))) (show blkC ["st", "n", "width", "is_chains", "pairs", "x", "row", "y"] (defScope s__law_large) _ [("y", 7)] = true by decide +kernel) (jg_name (E := intS) 7 sc__law_large.nd) (by decide) (all_lt rfl) fun x114 => (jn_tupG (P := (prS intS intS)) (g := fun z => (z.1, z.2.1)) (ja_cons (jn_var (E := intS) (a := x95) 5) (ja_cons (jn_var (E := intS) (a := x114) 7) ja_nil)))))))) fun a117 =>
 jb_nil (x := a117) rfl (weak_mask [true, true, true, true, true, true, false, false] _))) fun a118 =>
 JB.frz (i := 4) (o := (lstO (fun x => sh ((prS intS intS) x))) a118) (p := (lstS (prS intS intS)) a118) rfl ((fz_lst (fun _ => fz_sh)) _) (jb_nil (x := a118) rfl (weak_mask [true, true, true, true, true, false, false, false] _))) fun a120 =>
 jb_cons (js_setE (Γ := fun s121 : ((List Int) × Int × Int × Int × Int × Int) => [some (h0O s121), some (sh (intS a.1)), some (sh (intS a79.1)), some (sh (boolS a84.1)), some (sh ((lstS (prS intS intS)) a120)), none, none, none]) (s := a84.2) 6 sc__law_large.nd (je_callS (O := h0O) 0 (fun s => s) (fun s u => u) (ok_law_turned T) T.g__law_turned T.F__law_turned.kp T.b__law_turned (Nat.le_of_ble_eq_true rfl) (jea_of (ja_cons (jn_var (E := intS) (a := a.1) 1) ja_nil)))) fun a137 =>
 JB.frz (i := 6) (o := (lstO (fun x => sh (intS x))) a137.1) (p := (lstS intS) a137.1) rfl ((fz_lst (fun _ => fz_sh)) _) (jb_retS (R := (fun x => sh ((prS (prS intS (tupS (prS intS intS))) (lstS intS)) x))) (Δ := fun s => some (h0O s) :: nonC 7) (s := a137.2) (weak_mask [true, false, false, false, false, false, false, false] _) (jn_tupG (P := (prS (prS intS (tupS (prS intS intS))) (lstS intS))) (g := fun z => (z.1, z.2.1)) (ja_cons (jn_call (ok_law_renamed T) T.g__law_renamed T.F__law_renamed.kp T.b__law_renamed (Nat.le_of_ble_eq_true rfl) (ja_cons (jn_tupG (P := (prS intS (tupS (prS intS intS)))) (g := fun z => (z.1, z.2.1)) (ja_cons (jn_var (E := intS) (a := a.1) 1) (ja_cons (tup_lst T.m_tuple (jn_var (E := (lstS (prS intS intS))) (a := a120) 4)) ja_nil))) (ja_cons (jn_var (E := (lstS intS)) (a := a137.1) 6) ja_nil))) (ja_cons (jn_var (E := (lstS intS)) (a := a137.1) 6) ja_nil)))))) (by unfold M_law_large; first | (dsimp only [CC.sb]; done) | (dsimp only [CC.sb]; rfl) | rfl)
def M_law_one (a : (List Int) × Unit) (s : ((List Int) × Int × Int × Int × Int × Int)) : Option (Int × ((List Int) × Int × Int × Int × Int × Int)) :=
 ((M_law_draw ((a.1.length : Int), ()) s).bind fun r161 => some (r161.1, r161.2)).bind fun q162 => (atI a.1 q162.1).bind fun z163 => some (z163, q162.2)
theorem ok_law_one (T : Tx P K mg) : FnOk P w K mg base CX0 3 T.a__law_one T.d__law_one ["st", "row"] (spS h0O (fun a : (List Int) × Unit => [(lstS intS) a.1]) M_law_one (fun x => sh (intS x))) :=
 fnd_state T.F__law_one sc__law_one (fun _ => rfl) (by decide) fun a s => JB.cong (
 jb_retE (R := (fun x => sh (intS x))) (Γ := fun s159 : ((List Int) × Int × Int × Int × Int × Int) => [some (h0O s159), some (sh ((lstS intS) a.1))]) (s := s) (Δ := fun s => some (h0O s) :: nonC 1) (fun _ => (weak_mask [true, false] _)) (je_ix oIxL iv_lst (je_of (jn_var (E := (lstS intS)) (a := a.1) 1)) fun s160 => (je_callS (O := h0O) 0 (fun s => s) (fun s u => u) (ok_law_draw T) T.g__law_draw T.F__law_draw.kp T.b__law_draw (Nat.le_of_ble_eq_true rfl) (jea_of (ja_cons (len_lst T.m_len (jn_var (E := (lstS intS)) (a := a.1) 1)) ja_nil))))) (by unfold M_law_one; first | (dsimp only [CC.sb]; done) | (dsimp only [CC.sb]; rfl) | rfl)
def M_law_labels (a : (List Int) × (Int × Unit)) (s : ((List Int) × Int × Int × Int × Int × Int)) : Option ((List Int) × ((List Int) × Int × Int × Int × Int × Int)) :=
 ((M_law_draw ((6 : Int), ()) s).bind fun r170 => some (r170.1, r170.2)).bind fun a171 => (((rng 0 (a.1.length : Int)).bind fun x173 => some (x173, a171.2)).bind fun q184 => mapME (fun x174 s175 => ((((M_law_draw (a.2.1, ()) s175).bind fun r178 => some (r178.1, r178.2)).bind fun q179 => some ((1 : Int) + q179.1, q179.2)).bind fun q181 => some ((q181.1, ()), q181.2)).bind fun q182 => (M_law_draw q182.1 q182.2).bind fun r183 => some (r183.1, r183.2)) q184.1 q184.2).bind fun a185 => (bif decide (a171.1 = (1 : Int)) then (foldGo (fun x209 s210 => (((((((((M_law_draw ((3 : Int), ()) s210.1).bind fun r214 => some (r214.1, r214.2)).bind fun q216 => some (decide (q216.1 = (0 : Int)), q216.2)).bind fun q217 => some (CC.b2i q217.1, q217.2)).bind fun q218 => some (s210.2.2 + q218.1, q218.2)).bind fun q219 => some (q219.1, q219.2)).bind fun q221 => some ((q221.1, ()), q221.2)).bind fun q222 => some ((a.2.1 - (1 : Int), q222.1), q222.2)).bind fun q223 => some (if q223.1.2.1 < q223.1.1 then q223.1.2.1 else q223.1.1, q223.2)).bind fun a224 => (setAt s210.2.1 x209 a224.1).bind fun a225 => some (a224.2, a225, a224.1)) a.1 (a185.2, a185.1, (0 : Int))).bind fun a226 => some (a226.1, a226.2.1) else some (a185.2, a185.1)).bind fun a227 => (bif decide (a171.1 = (2 : Int)) then ((rng 0 (a.1.length : Int)).bind fun x233 => mapM (fun x232 => some (0 : Int)) x233).bind fun a234 => some a234 else some a227.2).bind fun a235 => ((bif decide ((2 : Int) < a171.1) then some (decide ((a.1.length : Int) ≤ a.2.1)) else some false).bind fun x277 => bif x277 then (rng 0 (a.1.length : Int)).bind fun a257 => ((bif decide ((3 : Int) < a171.1) then some (decide ((1 : Int) < (a.1.length : Int))) else some false).bind fun x275 => bif x275 then (((M_law_draw ((a.1.length : Int), ()) a227.1).bind fun r268 => some (r268.1, r268.2)).bind fun q271 => ((M_law_draw ((a.1.length : Int), ()) q271.2).bind fun r270 => some (r270.1, r270.2)).bind fun q272 => (setAt a257 q272.1 q271.1).bind fun r273 => some (r273, q272.2)).bind fun a274 => some (a274.2, a274.1) else some (a227.1, a257)).bind fun a276 => some (a276.1, a276.2) else some (a227.1, a235)).bind fun a278 => (((((((((powO (10 : Int) (57 : Int)).bind fun x284 => some (x284, ())).bind fun y285 => some ((64 : Int), y285)).bind fun y286 => some ((1 : Int), y286)).bind fun y287 => some ((1 : Int), y287)).bind fun z288 => some [z288.1, z288.2.1, z288.2.2.1, z288.2.2.2.1]).bind fun x289 => some (x289, ())).bind fun x291 => some (x291, a278.1)).bind fun q292 => (M_law_one q292.1 q292.2).bind fun r293 => some (r293.1, r293.2)).bind fun a294 => ((M_law_turned ((64 : Int), ()) a294.2).bind fun r296 => some (r296.1, r296.2)).bind fun a297 => (((M_law_draw ((100 : Int), ()) a297.2).bind fun r299 => some (r299.1, r299.2)).bind fun q301 => (mulO q301.1 a294.1).bind fun z302 => some (z302, q301.2)).bind fun a303 => (bif decide (a294.1 = (1 : Int)) then ((((((((powO (10 : Int) (59 : Int)).bind fun x323 => some ((0 : Int) - x323)).bind fun x328 => (((powO (10 : Int) (59 : Int)).bind fun x324 => some (x324 + (63 : Int))).bind fun x329 => some (x329, ())).bind fun y330 => some (x328, y330)).bind fun y331 => some (a303.1, y331)).bind fun z332 => some [z332.1, z332.2.1, z332.2.2.1]).bind fun x333 => some (x333, ())).bind fun x335 => some (x335, a303.2)).bind fun q336 => (M_law_one q336.1 q336.2).bind fun r337 => some (r337.1, r337.2)).bind fun a338 => some (a338.2, a338.1) else some (a303.2, a303.1)).bind fun a339 => ((mapM (fun x340 => ((atI a297.1 x340).bind fun x341 => mulO x341 a294.1).bind fun x342 => some (x342 - a339.2)) a278.2).bind fun x => some x).bind fun x343 => some (x343, a339.1)
theorem ok_law_labels (T : Tx P K mg) : FnOk P w K mg base CX0 4 T.a__law_labels T.d__law_labels ["st", "line", "most"] (spS h0O (fun a : (List Int) × (Int × Unit) => [(lstS intS) a.1, intS a.2.1]) M_law_labels (fun x => sh ((tupS intS) x))) :=
 fnd_state T.F__law_labels sc__law_labels (fun _ => rfl) (by decide) fun a s => JB.cong (
 jb_cons (js_set 3 sc__law_labels.nd (len_lst T.m_len (jn_var (E := (lstS intS)) (a := a.1) 1))) fun a168 =>
 jb_cons (js_setE (Γ := fun s169 : ((List Int) × Int × Int × Int × Int × Int) => [some (h0O s169), some (sh ((lstS intS) a.1)), some (sh (intS a.2.1)), some (sh (intS a168)), none, none, none, none, none, none, none, none]) (s := s) 4 sc__law_labels.nd (je_callS (O := h0O) 0 (fun s => s) (fun s u => u) (ok_law_draw T) T.g__law_draw T.F__law_draw.kp T.b__law_draw (Nat.le_of_ble_eq_true rfl) (jea_of (ja_cons jn_int ja_nil)))) fun a171 =>
 jb_cons (js_setLcE (Γ := fun s172 : ((List Int) × Int × Int × Int × Int × Int) => [some (h0O s172), some (sh ((lstS intS) a.1)), some (sh (intS a.2.1)), some (sh (intS a168)), some (sh (intS a171.1)), none, none, none, none, none, none, none]) (s := a171.2) 5 sc__law_labels.nd (jce_map [("x", 10)] (jie_of (ji_rng1 T.m_range (jn_var (E := intS) (a := a168) 3))) (show blkC ["st", "line", "most", "n", "way", "classes", "step", "numbers", "least", "part", "x", "c"] (defScope s__law_labels) _ [("x", 10)] = true by decide +kernel) (jg_name (E := intS) 10 sc__law_labels.nd) (by decide) (fun _ => all_lt rfl) (up1 10) (up1l 10) (fun _ => all_non rfl) fun x174 s175 => (je_callS (O := h0O) 0 (fun s => s) (fun s u => u) (ok_law_draw T) T.g__law_draw T.F__law_draw.kp T.b__law_draw (Nat.le_of_ble_eq_true rfl) (jea_cons (je_bin oAdd ov_add (je_of jn_int) fun s177 => (je_callS (O := h0O) 0 (fun s => s) (fun s u => u) (ok_law_draw T) T.g__law_draw T.F__law_draw.kp T.b__law_draw (Nat.le_of_ble_eq_true rfl) (jea_of (ja_cons (jn_var (E := intS) (a := a.2.1) 2) ja_nil)))) fun s180 => jea_nil)))) fun a185 =>
 jb_cons (js_if (jt_cmp oEq ov_eqI (jn_var (E := intS) (a := a171.1) 4) jn_int) (D := fun v => Kd.nx ((fun v206 : ((List Int) × Int × Int × Int × Int × Int) × (List Int) => [some (h0O v206.1), some (sh ((lstS intS) a.1)), some (sh (intS a.2.1)), some (sh (intS a168)), some (sh (intS a171.1)), some ((lstO (fun x => sh (intS x))) v206.2), none, none, none, none, none, none]) v)) (jb_cons (js_set 9 sc__law_labels.nd jn_int) fun a207 =>
 jb_cons (js_forS (Γl := fun s208 : ((List Int) × Int × Int × Int × Int × Int) × (List Int) × Int => [some (h0O s208.1), some (sh ((lstS intS) a.1)), some (sh (intS a.2.1)), some (sh (intS a168)), some (sh (intS a171.1)), some ((lstO (fun x => sh (intS x))) s208.2.1), none, none, none, some (sh (intS s208.2.2)), none, none]) (a185.2, a185.1, a207) (ji_lst (jn_var (E := (lstS intS)) (a := a.1) 1)) (jg_name (E := intS) 10 sc__law_labels.nd) (weak_mask [true, true, true, true, true, true, false, false, false, true, false, false] _) (fun _ => all_lt rfl) fun x209 s210 =>
 jb_cons (js_setE (Γ := fun s211 : ((List Int) × Int × Int × Int × Int × Int) => [some (h0O s211), some (sh ((lstS intS) a.1)), some (sh (intS a.2.1)), some (sh (intS a168)), some (sh (intS a171.1)), some ((lstO (fun x => sh (intS x))) s210.2.1), none, none, none, some (sh (intS s210.2.2)), some (sh (intS x209)), none]) (s := s210.1) 9 sc__law_labels.nd (je_min2 (fun z => z.1) (fun z => z.2.1) T.m_min (jea_cons (je_of (jn_bin oSub ov_sub (jn_var (E := intS) (a := a.2.1) 2) jn_int)) fun s212 => (jea_cons (je_int T.m_int (je_bin oAdd ov_add (je_of (jn_var (E := intS) (a := s210.2.2) 9)) fun s213 => (je_intB T.m_int (je_cmp oEq ov_eqI (je_callS (O := h0O) 0 (fun s => s) (fun s u => u) (ok_law_draw T) T.g__law_draw T.F__law_draw.kp T.b__law_draw (Nat.le_of_ble_eq_true rfl) (jea_of (ja_cons jn_int ja_nil))) fun s215 => (je_of jn_int))))) fun s220 => jea_nil)))) fun a224 =>
 jb_cons (js_setI (E := (fun x => sh (intS x))) 5 (jn_var (E := intS) (a := a224.1) 9) (jn_var (E := intS) (a := x209) 10)) fun a225 =>
 jb_nil (x := (a224.2, a225, a224.1)) rfl (weak_mask [true, true, true, true, true, true, false, false, false, true, false, false] _)) fun a226 =>
 jb_nil (x := (a226.1, a226.2.1)) rfl (weak_mask [true, true, true, true, true, true, false, false, false, false, false, false] _)) (jb_nil (x := (a185.2, a185.1)) rfl (weak_mask [true, true, true, true, true, true, false, false, false, false, false, false] _))) fun a227 =>
 jb_cons (js_if (jt_cmp oEq ov_eqI (jn_var (E := intS) (a := a171.1) 4) jn_int) (D := fun v => Kd.nx ((fun v231 : (List Int) => [some (h0O a227.1), some (sh ((lstS intS) a.1)), some (sh (intS a.2.1)), some (sh (intS a168)), some (sh (intS a171.1)), some ((lstO (fun x => sh (intS x))) v231), none, none, none, none, none, none]) v)) (jb_cons (js_setLc 5 sc__law_labels.nd (jc_map [("x", 10)] (jic_of (ji_rng1 T.m_range (jn_var (E := intS) (a := a168) 3))) (show blkC ["st", "line", "most", "n", "way", "classes", "step", "numbers", "least", "part", "x", "c"] (defScope s__law_labels) _ [("x", 10)] = true by decide +kernel) (jg_name (E := intS) 10 sc__law_labels.nd) (by decide) (all_lt rfl) fun x232 => jn_int)) fun a234 =>
 jb_nil (x := a234) rfl (weak_mask [true, true, true, true, true, true, false, false, false, false, false, false] _)) (jb_nil (x := a227.2) rfl (weak_mask [true, true, true, true, true, true, false, false, false, false, false, false] _))) fun a235 =>
 jb_cons (js_if (jt_w (jw_and (jt_cmp oGt ov_gt (jn_var (E := intS) (a := a171.1) 4) jn_int) (jw_and1 (jt_cmp oLe ov_le (jn_var (E := intS) (a := a168) 3) (jn_var (E := intS) (a := a.2.1) 2))))) (D := fun v => Kd.nx ((fun v256 : ((List Int) × Int × Int × Int × Int × Int) × (List Int) => [some (h0O v256.1), some (sh ((lstS intS) a.1)), some (sh (intS a.2.1)), some (sh (intS a168)), some (sh (intS a171.1)), some ((lstO (fun x => sh (intS x))) v256.2), none, none, none, none, none, none]) v)) (jb_cons (js_set 5 sc__law_labels.nd (list_rng T.m_list T.m_range (jn_var (E := intS) (a := a168) 3))) fun a257 =>
 jb_cons (js_if (jt_w (jw_and (jt_cmp oGt ov_gt (jn_var (E := intS) (a := a171.1) 4) jn_int) (jw_and1 (jt_cmp oGt ov_gt (jn_var (E := intS) (a := a168) 3) jn_int)))) (D := fun v => Kd.nx ((fun v266 : ((List Int) × Int × Int × Int × Int × Int) × (List Int) => [some (h0O v266.1), some (sh ((lstS intS) a.1)), some (sh (intS a.2.1)), some (sh (intS a168)), some (sh (intS a171.1)), some ((lstO (fun x => sh (intS x))) v266.2), none, none, none, none, none, none]) v)) (jb_cons (js_setIE (E := intS) (Γ := fun s267 : ((List Int) × Int × Int × Int × Int × Int) => [some (h0O s267), some (sh ((lstS intS) a.1)), some (sh (intS a.2.1)), some (sh (intS a168)), some (sh (intS a171.1)), some ((lstO (fun x => sh (intS x))) a257), none, none, none, none, none, none]) (s := a227.1) 5 (fun _ => a257) (je_callS (O := h0O) 0 (fun s => s) (fun s u => u) (ok_law_draw T) T.g__law_draw T.F__law_draw.kp T.b__law_draw (Nat.le_of_ble_eq_true rfl) (jea_of (ja_cons (jn_var (E := intS) (a := a168) 3) ja_nil))) fun s269 => (je_callS (O := h0O) 0 (fun s => s) (fun s u => u) (ok_law_draw T) T.g__law_draw T.F__law_draw.kp T.b__law_draw (Nat.le_of_ble_eq_true rfl) (jea_of (ja_cons (jn_var (E := intS) (a := a168) 3) ja_nil)))) fun a274 =>
 jb_nil (x := (a274.2, a274.1)) rfl (weak_mask [true, true, true, true, true, true, false, false, false, false, false, false] _)) (jb_nil (x := (a227.1, a257)) rfl (weak_mask [true, true, true, true, true, true, false, false, false, false, false, false] _))) fun a276 =>
 jb_nil (x := (a276.1, a276.2)) rfl (weak_mask [true, true, true, true, true, true, false, false, false, false, false, false] _)) (jb_nil (x := (a227.1, a235)) rfl (weak_mask [true, true, true, true, true, true, false, false, false, false, false, false] _))) fun a278 =>
 jb_cons (js_setE (Γ := fun s279 : ((List Int) × Int × Int × Int × Int × Int) => [some (h0O s279), some (sh ((lstS intS) a.1)), some (sh (intS a.2.1)), some (sh (intS a168)), some (sh (intS a171.1)), some ((lstO (fun x => sh (intS x))) a278.2), none, none, none, none, none, none]) (s := a278.1) 6 sc__law_labels.nd (je_callS (O := h0O) 0 (fun s => s) (fun s u => u) (ok_law_one T) T.g__law_one T.F__law_one.kp T.b__law_one (Nat.le_of_ble_eq_true rfl) (jea_of (ja_cons (JN.frz (fz_lst (fun _ => fz_sh)) (jn_dispL (E := intS) (g := fun z => [z.1, z.2.1, z.2.2.1, z.2.2.2.1]) (ja_cons jn_int (ja_cons jn_int (ja_cons jn_int (ja_cons (jn_bin oPow ov_pow jn_int jn_int) ja_nil)))))) ja_nil)))) fun a294 =>
 jb_cons (js_setE (Γ := fun s295 : ((List Int) × Int × Int × Int × Int × Int) => [some (h0O s295), some (sh ((lstS intS) a.1)), some (sh (intS a.2.1)), some (sh (intS a168)), some (sh (intS a171.1)), some ((lstO (fun x => sh (intS x))) a278.2), some (sh (intS a294.1)), none, none, none, none, none]) (s := a294.2) 7 sc__law_labels.nd (je_callS (O := h0O) 0 (fun s => s) (fun s u => u) (ok_law_turned T) T.g__law_turned T.F__law_turned.kp T.b__law_turned (Nat.le_of_ble_eq_true rfl) (jea_of (ja_cons jn_int ja_nil)))) fun a297 =>
 jb_cons (js_setE (Γ := fun s298 : ((List Int) × Int × Int × Int × Int × Int) => [some (h0O s298), some (sh ((lstS intS) a.1)), some (sh (intS a.2.1)), some (sh (intS a168)), some (sh (intS a171.1)), some ((lstO (fun x => sh (intS x))) a278.2), some (sh (intS a294.1)), some ((lstO (fun x => sh (intS x))) a297.1), none, none, none, none]) (s := a297.2) 8 sc__law_labels.nd (je_bin oMul ov_mul (je_callS (O := h0O) 0 (fun s => s) (fun s u => u) (ok_law_draw T) T.g__law_draw T.F__law_draw.kp T.b__law_draw (Nat.le_of_ble_eq_true rfl) (jea_of (ja_cons jn_int ja_nil))) fun s300 => (je_of (jn_var (E := intS) (a := a294.1) 6)))) fun a303 =>
 jb_cons (js_if (jt_cmp oEq ov_eqI (jn_var (E := intS) (a := a294.1) 6) jn_int) (D := fun v => Kd.nx ((fun v321 : ((List Int) × Int × Int × Int × Int × Int) × Int => [some (h0O v321.1), some (sh ((lstS intS) a.1)), some (sh (intS a.2.1)), some (sh (intS a168)), some (sh (intS a171.1)), some ((lstO (fun x => sh (intS x))) a278.2), some (sh (intS a294.1)), some ((lstO (fun x => sh (intS x))) a297.1), some (sh (intS v321.2)), none, none, none]) v)) (jb_cons (js_setE (Γ := fun s322 : ((List Int) × Int × Int × Int × Int × Int) => [some (h0O s322), some (sh ((lstS intS) a.1)), some (sh (intS a.2.1)), some (sh (intS a168)), some (sh (intS a171.1)), some ((lstO (fun x => sh (intS x))) a278.2), some (sh (intS a294.1)), some ((lstO (fun x => sh (intS x))) a297.1), some (sh (intS a303.1)), none, none, none]) (s := a303.2) 8 sc__law_labels.nd (je_callS (O := h0O) 0 (fun s => s) (fun s u => u) (ok_law_one T) T.g__law_one T.F__law_one.kp T.b__law_one (Nat.le_of_ble_eq_true rfl) (jea_of (ja_cons (JN.frz (fz_lst (fun _ => fz_sh)) (jn_dispL (E := intS) (g := fun z => [z.1, z.2.1, z.2.2.1]) (ja_cons (jn_var (E := intS) (a := a303.1) 8) (ja_cons (jn_bin oSub ov_sub jn_int (jn_bin oPow ov_pow jn_int jn_int)) (ja_cons (jn_bin oAdd ov_add (jn_bin oPow ov_pow jn_int jn_int) jn_int) ja_nil))))) ja_nil)))) fun a338 =>
 jb_nil (x := (a338.2, a338.1)) rfl (weak_mask [true, true, true, true, true, true, true, true, true, false, false, false] _)) (jb_nil (x := (a303.2, a303.1)) rfl (weak_mask [true, true, true, true, true, true, true, true, true, false, false, false] _))) fun a339 =>
 jb_retS (R := (fun x => sh ((tupS intS) x))) (Δ := fun s => some (h0O s) :: nonC 11) (s := a339.1) (weak_mask [true, false, false, false, false, false, false, false, false, false, false, false] _) (tup_lst T.m_tuple (JN.frz (fz_lst (fun _ => fz_sh)) (jn_lc sc__law_labels.nd (jc_map [("c", 11)] (jic_own (jr_var (R := (lstO (fun x => sh (intS x)))) (a := a278.2) 5)) (show blkC ["st", "line", "most", "n", "way", "classes", "step", "numbers", "least", "part", "x", "c"] (defScope s__law_labels) _ [("c", 11)] = true by decide +kernel) (jg_name (E := intS) 11 sc__law_labels.nd) (by decide) (all_lt rfl) fun x340 => (jn_bin oSub ov_sub (jn_bin oMul ov_mul (jn_of (jr_ix oIxL iv_lstO (jr_var (R := (lstO (fun x => sh (intS x)))) (a := a297.1) 7) (jn_var (E := intS) (a := x340) 11))) (jn_var (E := intS) (a := a294.1) 6)) (jn_var (E := intS) (a := a339.2) 8))))))) (by unfold M_law_labels; first | (dsimp only [CC.sb]; done) | (dsimp only [CC.sb]; rfl) | rfl)
def M_law_classes (a : (List Int) × Unit) : Option (List Int) :=
 (foldGo (fun x351 s352 => (bif !decide (x351 ∈ s352.1) then (appM s352.1 x351).bind fun a355 => some a355 else some s352.1).bind fun a356 => ((idxM a356 x351).bind fun x357 => appM s352.2 x357).bind fun a358 => some (a356, a358)) a.1 ([], [])).bind fun a359 => some a359.2
theorem ok_law_classes (T : Tx P K mg) : FnOk P w K mg base CX0 1 T.a__law_classes T.d__law_classes ["labels"] (spP (fun a : (List Int) × Unit => [(tupS intS) a.1]) M_law_classes (lstO (fun x => sh (intS x)))) :=
 fnd_pure (Δ := nonC 4) T.F__law_classes sc__law_classes (fun _ => rfl) (by decide) fun a => JB.cong (
 jb_cons (js_set 1 sc__law_classes.nd (jn_nilLO (E := (fun x => sh (intS x))))) fun a348 =>
 jb_cons (js_set 2 sc__law_classes.nd (jn_nilLO (E := (fun x => sh (intS x))))) fun a349 =>
 jb_cons (js_forS (Γl := fun s350 : (List Int) × (List Int) => [some (sh ((tupS intS) a.1)), some ((lstO (fun x => sh (intS x))) s350.1), some ((lstO (fun x => sh (intS x))) s350.2), none]) (a348, a349) (ji_tup (jn_var (E := (tupS intS)) (a := a.1) 0)) (jg_name (E := intS) 3 sc__law_classes.nd) (weak_mask [true, true, true, false] _) (fun _ => all_lt rfl) fun x351 s352 =>
 jb_cons (js_if (jt_thaw (i := 1) (o := (lstO (fun x => sh (intS x))) s352.1) (p := (lstS intS) s352.1) rfl ((fz_lst (fun _ => fz_sh)) _) (jt_cmp oNotIn (ov_ninL fl_int) (jn_var (E := intS) (a := x351) 3) (jn_var (E := (lstS intS)) (a := s352.1) 1))) (D := fun v => Kd.nx ((fun v354 : (List Int) => [some (sh ((tupS intS) a.1)), some ((lstO (fun x => sh (intS x))) v354), some ((lstO (fun x => sh (intS x))) s352.2), some (sh (intS x351))]) v)) (jb_cons (js_app (E := (fun x => sh (intS x))) 1 (jn_var (E := intS) (a := x351) 3)) fun a355 =>
 jb_nil (x := a355) rfl (weak_mask [true, true, true, true] _)) (jb_nil (x := s352.1) rfl (weak_mask [true, true, true, true] _))) fun a356 =>
 jb_cons (js_app (E := (fun x => sh (intS x))) 2 (jn_thaw (i := 1) (o := (lstO (fun x => sh (intS x))) a356) (p := (lstS intS) a356) flat_int rfl ((fz_lst (fun _ => fz_sh)) _) (jn_index fl_int (jn_var (E := (lstS intS)) (a := a356) 1) (jn_var (E := intS) (a := x351) 3)))) fun a358 =>
 jb_nil (x := (a356, a358)) rfl (weak_mask [true, true, true, false] _)) fun a359 =>
 jb_retO (R := (lstO (fun x => sh (intS x)))) 2 (weak_none _)) (by unfold M_law_classes; first | (dsimp only [CC.sb]; done) | (dsimp only [CC.sb]; rfl) | rfl)
def M_law_quotient (a : (Int × (List (Int × Int))) × ((List Int) × Unit)) : Option (Option (Int × (List (Int × Int)))) :=
 (foldGo (fun x362 s363 => (some (if (x362 + (1 : Int)) > s363 then (x362 + (1 : Int)) else s363)).bind fun a364 => some a364) a.2.1 (0 : Int)).bind fun a365 => ((rng 0 a365).bind fun x369 => mapM (fun x366 => (rng 0 a365).bind fun x368 => mapM (fun x367 => some false) x368) x369).bind fun a370 => (foldGo (fun x372 s373 => (((atI a.2.1 x372.1).bind fun x374 => (atI a.2.1 x372.2).bind fun x375 => some (!decide (x374 = x375))).bind fun x383 => bif x383 then ((atI a.2.1 x372.1).bind fun x380 => (atI a.2.1 x372.2).bind fun x381 => setAt2 s373 x380 x381 true).bind fun a382 => some a382 else some s373).bind fun a384 => some a384) a.1.2 a370).bind fun a385 => ((rng 0 a365).bind fun x412 => foldGo (fun x387 s388 => ((rng 0 a365).bind fun x410 => foldGo (fun x390 s391 => (((atI s391 x390).bind fun x392 => atI x392 x387).bind fun x408 => bif x408 then (((rng 0 a365).bind fun x405 => mapM (fun x401 => ((atI s391 x390).bind fun x402 => atI x402 x401).bind fun x404 => bif x404 then some true else (atI s391 x387).bind fun x403 => atI x403 x401) x405).bind fun x406 => setAt s391 x390 x406).bind fun a407 => some a407 else some s391).bind fun a409 => some a409) x410 s388).bind fun a411 => some a411) x412 a385).bind fun a413 => ((rng 0 a365).bind fun x437 => loopGo (fun x427 s428 => ((atI a413 x427).bind fun x429 => atI x429 x427).bind fun x436 => bif x436 then (some (none : Option (Int × (List (Int × Int))))).bind fun y435 => some (Out.rt y435) else (((rng 0 a365).bind fun x432 => compM (fun x430 => (atI a413 x427).bind fun x431 => atI x431 x430) (fun x430 => some (x427, x430)) x432).bind fun x433 => catM s428 x433).bind fun a434 => some (Out.nx a434)) x437 []).bind fun o439 => o439.k (fun a438 => some (some (a365, a438))) fun r440 => some ((fun r => r) r440)
theorem ok_law_quotient (T : Tx P K mg) : FnOk P w K mg base CX0 1 T.a__law_quotient T.d__law_quotient ["order", "classes"] (spP (fun a : (Int × (List (Int × Int))) × ((List Int) × Unit) => [(prS intS (tupS (prS intS intS))) a.1, (lstS intS) a.2.1]) M_law_quotient (fun x => sh ((optS (prS intS (tupS (prS intS intS)))) x))) :=
 fnd_pure (Δ := nonC 10) T.F__law_quotient sc__law_quotient (fun _ => rfl) (by decide) fun a => JB.cong (
 jb_cons (js_set 2 sc__law_quotient.nd jn_int) fun a360 =>
 jb_cons (js_forS (Γl := fun s361 : Int => [some (sh ((prS intS (tupS (prS intS intS))) a.1)), some (sh ((lstS intS) a.2.1)), some (sh (intS s361)), none, none, none, none, none, none, none]) a360 (ji_lst (jn_var (E := (lstS intS)) (a := a.2.1) 1)) (jg_name (E := intS) 3 sc__law_quotient.nd) (weak_mask [true, true, true, false, false, false, false, false, false, false] _) (fun _ => all_lt rfl) fun x362 s363 =>
 jb_cons (js_set 2 sc__law_quotient.nd (jn_max2 (fun z => z.1) (fun z => z.2.1) T.m_max (ja_cons (int_int T.m_int (jn_var (E := intS) (a := s363) 2)) (ja_cons (int_int T.m_int (jn_bin oAdd ov_add (jn_var (E := intS) (a := x362) 3) jn_int)) ja_nil)))) fun a364 =>
 jb_nil (x := a364) rfl (weak_mask [true, true, true, false, false, false, false, false, false, false] _)) fun a365 =>
 jb_cons (js_setLcC 4 sc__law_quotient.nd (jn_lc sc__law_quotient.nd (jc_map [("a", 8)] (jic_of (ji_rng1 T.m_range (jn_var (E := intS) (a := a365) 2))) (show blkC ["order", "classes", "many", "c", "above", "pair", "m", "pairs", "a", "b"] (defScope s__law_quotient) _ [("a", 8)] = true by decide +kernel) (jg_name (E := intS) 8 sc__law_quotient.nd) (by decide) (all_lt rfl) fun x366 => (jn_lc sc__law_quotient.nd (jc_map [("b", 9)] (jic_of (ji_rng1 T.m_range (jn_var (E := intS) (a := a365) 2))) (show blkC ["order", "classes", "many", "c", "above", "pair", "m", "pairs", "a", "b"] (relS _ (defScope s__law_quotient)) _ [("b", 9)] = true by decide +kernel) (jg_name (E := intS) 9 sc__law_quotient.nd) (by decide) (all_lt rfl) fun x367 => jn_bl))))) fun a370 =>
 jb_cons (js_forS (Γl := fun s371 : (List (List Bool)) => [some (sh ((prS intS (tupS (prS intS intS))) a.1)), some (sh ((lstS intS) a.2.1)), some (sh (intS a365)), none, some ((lstO (lstO (fun x => sh (boolS x)))) s371), none, none, none, none, none]) a370 (ji_tup (jn_ixT (E := (tupS (prS intS intS))) (g := fun z => z.2) 1 (jn_var (E := (prS intS (tupS (prS intS intS)))) (a := a.1) 0))) (jg_name (E := (prS intS intS)) 5 sc__law_quotient.nd) (weak_mask [true, true, true, false, true, false, false, false, false, false] _) (fun _ => all_lt rfl) fun x372 s373 =>
 jb_cons (js_if (jt_cmp oNe ov_neI (jn_of (jr_ix oIxL iv_lst (jr_of (jn_var (E := (lstS intS)) (a := a.2.1) 1)) (jn_ixT (E := intS) (g := fun z => z.1) 0 (jn_var (E := (prS intS intS)) (a := x372) 5)))) (jn_of (jr_ix oIxL iv_lst (jr_of (jn_var (E := (lstS intS)) (a := a.2.1) 1)) (jn_ixT (E := intS) (g := fun z => z.2) 1 (jn_var (E := (prS intS intS)) (a := x372) 5))))) (D := fun v => Kd.nx ((fun v379 : (List (List Bool)) => [some (sh ((prS intS (tupS (prS intS intS))) a.1)), some (sh ((lstS intS) a.2.1)), some (sh (intS a365)), none, some ((lstO (lstO (fun x => sh (boolS x)))) v379), some (sh ((prS intS intS) x372)), none, none, none, none]) v)) (jb_cons (js_setI2 (E := boolS) 4 jn_bl (jn_of (jr_ix oIxL iv_lst (jr_of (jn_var (E := (lstS intS)) (a := a.2.1) 1)) (jn_ixT (E := intS) (g := fun z => z.1) 0 (jn_var (E := (prS intS intS)) (a := x372) 5)))) (jn_of (jr_ix oIxL iv_lst (jr_of (jn_var (E := (lstS intS)) (a := a.2.1) 1)) (jn_ixT (E := intS) (g := fun z => z.2) 1 (jn_var (E := (prS intS intS)) (a := x372) 5))))) fun a382 =>
 jb_nil (x := a382) rfl (weak_mask [true, true, true, false, true, true, false, false, false, false] _)) (jb_nil (x := s373) rfl (weak_mask [true, true, true, false, true, true, false, false, false, false] _))) fun a384 =>
 jb_nil (x := a384) rfl (weak_mask [true, true, true, false, true, false, false, false, false, false] _)) fun a385 =>
 jb_cons (js_forS (Γl := fun s386 : (List (List Bool)) => [some (sh ((prS intS (tupS (prS intS intS))) a.1)), some (sh ((lstS intS) a.2.1)), some (sh (intS a365)), none, some ((lstO (lstO (fun x => sh (boolS x)))) s386), none, none, none, none, none]) a385 (ji_rng1 T.m_range (jn_var (E := intS) (a := a365) 2)) (jg_name (E := intS) 6 sc__law_quotient.nd) (weak_mask [true, true, true, false, true, false, false, false, false, false] _) (fun _ => all_lt rfl) fun x387 s388 =>
 jb_cons (js_forS (Γl := fun s389 : (List (List Bool)) => [some (sh ((prS intS (tupS (prS intS intS))) a.1)), some (sh ((lstS intS) a.2.1)), some (sh (intS a365)), none, some ((lstO (lstO (fun x => sh (boolS x)))) s389), none, some (sh (intS x387)), none, none, none]) s388 (ji_rng1 T.m_range (jn_var (E := intS) (a := a365) 2)) (jg_name (E := intS) 8 sc__law_quotient.nd) (weak_mask [true, true, true, false, true, false, true, false, false, false] _) (fun _ => all_lt rfl) fun x390 s391 =>
 jb_cons (js_if (jt_val (jn_of (jr_ix oIxL iv_lstO (jr_ix oIxL iv_lstO (jr_var (R := (lstO (lstO (fun x => sh (boolS x))))) (a := s391) 4) (jn_var (E := intS) (a := x390) 8)) (jn_var (E := intS) (a := x387) 6)))) (D := fun v => Kd.nx ((fun v400 : (List (List Bool)) => [some (sh ((prS intS (tupS (prS intS intS))) a.1)), some (sh ((lstS intS) a.2.1)), some (sh (intS a365)), none, some ((lstO (lstO (fun x => sh (boolS x)))) v400), none, some (sh (intS x387)), none, some (sh (intS x390)), none]) v)) (jb_cons (js_setI (E := (lstO (fun x => sh (boolS x)))) 4 (jn_lc sc__law_quotient.nd (jc_map [("b", 9)] (jic_of (ji_rng1 T.m_range (jn_var (E := intS) (a := a365) 2))) (show blkC ["order", "classes", "many", "c", "above", "pair", "m", "pairs", "a", "b"] (defScope s__law_quotient) _ [("b", 9)] = true by decide +kernel) (jg_name (E := intS) 9 sc__law_quotient.nd) (by decide) (all_lt rfl) fun x401 => (jn_or (jn_of (jr_ix oIxL iv_lstO (jr_ix oIxL iv_lstO (jr_var (R := (lstO (lstO (fun x => sh (boolS x))))) (a := s391) 4) (jn_var (E := intS) (a := x390) 8)) (jn_var (E := intS) (a := x401) 9))) (jn_one (jn_of (jr_ix oIxL iv_lstO (jr_ix oIxL iv_lstO (jr_var (R := (lstO (lstO (fun x => sh (boolS x))))) (a := s391) 4) (jn_var (E := intS) (a := x387) 6)) (jn_var (E := intS) (a := x401) 9))))))) (jn_var (E := intS) (a := x390) 8)) fun a407 =>
 jb_nil (x := a407) rfl (weak_mask [true, true, true, false, true, false, true, false, true, false] _)) (jb_nil (x := s391) rfl (weak_mask [true, true, true, false, true, false, true, false, true, false] _))) fun a409 =>
 jb_nil (x := a409) rfl (weak_mask [true, true, true, false, true, false, true, false, false, false] _)) fun a411 =>
 jb_nil (x := a411) rfl (weak_mask [true, true, true, false, true, false, false, false, false, false] _)) fun a413 =>
 jb_cons (js_set 7 sc__law_quotient.nd (jn_nilLO (E := (fun x => sh ((prS intS intS) x))))) fun a414 =>
 JB.frz (i := 7) (o := (lstO (fun x => sh ((prS intS intS) x))) a414) (p := (lstS (prS intS intS)) a414) rfl ((fz_lst (fun _ => fz_sh)) _) (jb_consO (Γl := fun s426 : (List (Int × Int)) => [some (sh ((prS intS (tupS (prS intS intS))) a.1)), some (sh ((lstS intS) a.2.1)), some (sh (intS a365)), none, some ((lstO (lstO (fun x => sh (boolS x)))) a413), none, none, some (sh ((lstS (prS intS intS)) s426)), none, none]) (T := fun r : (Option (Int × (List (Int × Int)))) => Kd.rt (nonC 10) ((fun x => sh ((optS (prS intS (tupS (prS intS intS)))) x)) r)) (fun r => r) (js_for (Γl := fun s426 : (List (Int × Int)) => [some (sh ((prS intS (tupS (prS intS intS))) a.1)), some (sh ((lstS intS) a.2.1)), some (sh (intS a365)), none, some ((lstO (lstO (fun x => sh (boolS x)))) a413), none, none, some (sh ((lstS (prS intS intS)) s426)), none, none]) (T := fun r : (Option (Int × (List (Int × Int)))) => Kd.rt (nonC 10) ((fun x => sh ((optS (prS intS (tupS (prS intS intS)))) x)) r)) a414 (ji_rng1 T.m_range (jn_var (E := intS) (a := a365) 2)) (jg_name (E := intS) 8 sc__law_quotient.nd) (weak_mask [true, true, true, false, true, false, false, true, false, false] _) (fun _ => all_lt rfl) (fun _ => ⟨trivial, nofun, nofun⟩) fun x427 s428 =>
 jb_ifx (D' := (fun r : (Option (Int × (List (Int × Int)))) => Kd.rt (nonC 10) ((fun x => sh ((optS (prS intS (tupS (prS intS intS)))) x)) r))) Out.rt (jt_val (jn_of (jr_ix oIxL iv_lstO (jr_ix oIxL iv_lstO (jr_var (R := (lstO (lstO (fun x => sh (boolS x))))) (a := a413) 4) (jn_var (E := intS) (a := x427) 8)) (jn_var (E := intS) (a := x427) 8)))) (jb_ret (weak_none _) (jn_onone (E := (prS intS (tupS (prS intS intS)))))) (fun _ => rfl) (fun _ => trivial)
 (jb_cons (js_set 7 sc__law_quotient.nd (jn_bin oCat ov_cat (jn_var (E := (lstS (prS intS intS))) (a := s428) 7) (JN.frz (fz_lst (fun _ => fz_sh)) (jn_lc sc__law_quotient.nd (jc_of [("b", 9)] (jic_of (ji_rng1 T.m_range (jn_var (E := intS) (a := a365) 2))) (show blkC ["order", "classes", "many", "c", "above", "pair", "m", "pairs", "a", "b"] (defScope s__law_quotient) _ [("b", 9)] = true by decide +kernel) (jg_name (E := intS) 9 sc__law_quotient.nd) (by decide) (all_lt rfl) (fun x430 => jts_one (jt_val (jn_of (jr_ix oIxL iv_lstO (jr_ix oIxL iv_lstO (jr_var (R := (lstO (lstO (fun x => sh (boolS x))))) (a := a413) 4) (jn_var (E := intS) (a := x427) 8)) (jn_var (E := intS) (a := x430) 9))))) fun x430 => (jn_tupG (P := (prS intS intS)) (g := fun z => (z.1, z.2.1)) (ja_cons (jn_var (E := intS) (a := x427) 8) (ja_cons (jn_var (E := intS) (a := x430) 9) ja_nil)))))))) fun a434 =>
 JB.frz (i := 7) (o := (lstO (fun x => sh ((prS intS intS) x))) a434) (p := (lstS (prS intS intS)) a434) rfl ((fz_lst (fun _ => fz_sh)) _) (jb_nil (x := Out.nx a434) rfl (weak_mask [true, true, true, false, true, false, false, true, false, false] _)))) (fun _ => rfl) (fun _ => trivial) fun a438 =>
 jb_ret (weak_none _) (jn_osome (E := (prS intS (tupS (prS intS intS)))) (jn_tupG (P := (prS intS (tupS (prS intS intS)))) (g := fun z => (z.1, z.2.1)) (ja_cons (jn_var (E := intS) (a := a365) 2) (ja_cons (tup_lst T.m_tuple (jn_var (E := (lstS (prS intS intS))) (a := a438) 7)) ja_nil)))))) (by unfold M_law_quotient; first | (dsimp only [CC.sb]; done) | (dsimp only [CC.sb]; rfl) | rfl)
def M_is_link (a : Int × ((Int × Int) × Unit)) : Option Bool :=
 (bif decide ((0 : Int) ≤ a.2.1.1) then some (decide (a.2.1.1 < a.1)) else some false).bind fun x469 => bif x469 then bif decide ((0 : Int) ≤ a.2.1.2) then some (decide (a.2.1.2 < a.1)) else some false else some false
theorem ok_is_link (T : Tx P K mg) : FnOk P w K mg base CX0 1 T.a__is_link T.d__is_link ["n", "link"] (spP (fun a : Int × ((Int × Int) × Unit) => [intS a.1, (prS intS intS) a.2.1]) M_is_link (fun x => sh (boolS x))) :=
 fnd_pure (Δ := nonC 4) T.F__is_link sc__is_link (fun _ => rfl) (by decide) fun a => JB.cong (
 jb_cons (js_asg (jn_var (E := (prS intS intS)) (a := a.2.1) 1) (jg_pair (E := intS) (G := intS) 2 3 sc__is_link.nd) (all_lt rfl)) fun a468 =>
 jb_ret (weak_none _) (jn_and (jn_chain oLe ov_le oLt ov_lt jn_int (jn_var (E := intS) (a := a468.1) 2) (jn_var (E := intS) (a := a.1) 0)) (jn_one (jn_chain oLe ov_le oLt ov_lt jn_int (jn_var (E := intS) (a := a468.2) 3) (jn_var (E := intS) (a := a.1) 0))))) (by unfold M_is_link; first | (dsimp only [CC.sb]; done) | (dsimp only [CC.sb]; rfl) | rfl)
def M_high_masks (a : (Int × (List (Int × Int))) × Unit) : Option (List Int) :=
 (repM [(0 : Int)] a.1.1).bind fun a476 => (foldGo (fun x478 s479 => (((atI s479 x478.1).bind fun x480 => (shlO (1 : Int) x478.2).bind fun x481 => some (bOr x480 x481)).bind fun x482 => setAt s479 x478.1 x482).bind fun a483 => some a483) a.1.2 a476).bind fun a484 => some a484
theorem ok_high_masks (T : Tx P K mg) : FnOk P w K mg base CX0 1 T.a_high_masks T.d_high_masks ["order"] (spP (fun a : (Int × (List (Int × Int))) × Unit => [(prS intS (tupS (prS intS intS))) a.1]) M_high_masks (fun x => sh ((tupS intS) x))) :=
 fnd_pure (Δ := nonC 6) T.F_high_masks sc_high_masks (fun _ => rfl) (by decide) fun a => JB.cong (
 jb_cons (js_asg (jn_var (E := (prS intS (tupS (prS intS intS)))) (a := a.1) 0) (jg_pair (E := intS) (G := (tupS (prS intS intS))) 2 3 sc_high_masks.nd) (all_lt rfl)) fun a474 =>
 jb_cons (js_set 1 sc_high_masks.nd (jn_bin oRep ov_rep (JN.frz (fz_lst (fun _ => fz_sh)) (jn_dispL (E := intS) (g := fun z => [z.1]) (ja_cons jn_int ja_nil))) (jn_var (E := intS) (a := a474.1) 2))) fun a476 =>
 jb_cons (js_forS (Γl := fun s477 : (List Int) => [some (sh ((prS intS (tupS (prS intS intS))) a.1)), some ((lstO (fun x => sh (intS x))) s477), some (sh (intS a474.1)), some (sh ((tupS (prS intS intS)) a474.2)), none, none]) a476 (ji_tup (jn_var (E := (tupS (prS intS intS))) (a := a474.2) 3)) (jg_pair (E := intS) (G := intS) 4 5 sc_high_masks.nd) (weak_mask [true, true, true, true, false, false] _) (fun _ => all_lt rfl) fun x478 s479 =>
 jb_cons (js_setI (E := (fun x => sh (intS x))) 1 (jn_bin oBOr ov_bOr (jn_of (jr_ix oIxL iv_lstO (jr_var (R := (lstO (fun x => sh (intS x)))) (a := s479) 1) (jn_var (E := intS) (a := x478.1) 4))) (jn_bin oShl ov_shl jn_int (jn_var (E := intS) (a := x478.2) 5))) (jn_var (E := intS) (a := x478.1) 4)) fun a483 =>
 jb_nil (x := a483) rfl (weak_mask [true, true, true, true, false, false] _)) fun a484 =>
 jb_ret (weak_none _) (tup_own T.m_tuple (jr_var (R := (lstO (fun x => sh (intS x)))) (a := a484) 1))) (by unfold M_high_masks; first | (dsimp only [CC.sb]; done) | (dsimp only [CC.sb]; rfl) | rfl)
def M_ways (a : Int × ((List (Int × Int)) × Unit)) : Option (List Int) :=
 ((M_high_masks ((a.1, a.2.1), ())).bind fun x => some x).bind fun a485 => ((rng 0 a.1).bind fun x508 => foldGo (fun x487 s488 => ((rng 0 a.1).bind fun x506 => foldGo (fun x490 s491 => (((((atI s491 x490).bind fun x492 => shrO x492 x487).bind fun x493 => some (bAnd x493 (1 : Int))).bind fun x494 => some (x494 != 0)).bind fun x504 => bif x504 then (((atI s491 x490).bind fun x500 => (atI s491 x487).bind fun x501 => some (bOr x500 x501)).bind fun x502 => setAt s491 x490 x502).bind fun a503 => some a503 else some s491).bind fun a505 => some a505) x506 s488).bind fun a507 => some a507) x508 a485).bind fun a509 => some a509
theorem ok_ways (T : Tx P K mg) : FnOk P w K mg base CX0 2 T.a__ways T.d__ways ["n", "links"] (spP (fun a : Int × ((List (Int × Int)) × Unit) => [intS a.1, (tupS (prS intS intS)) a.2.1]) M_ways (lstO (fun x => sh (intS x)))) :=
 fnd_pure (Δ := nonC 5) T.F__ways sc__ways (fun _ => rfl) (by decide) fun a => JB.cong (
 jb_cons (js_set 2 sc__ways.nd (list_tup T.m_list (jn_call (ok_high_masks T) T.g_high_masks T.F_high_masks.kp T.b_high_masks (Nat.le_of_ble_eq_true rfl) (ja_cons (jn_tupG (P := (prS intS (tupS (prS intS intS)))) (g := fun z => (z.1, z.2.1)) (ja_cons (jn_var (E := intS) (a := a.1) 0) (ja_cons (jn_var (E := (tupS (prS intS intS))) (a := a.2.1) 1) ja_nil))) ja_nil)))) fun a485 =>
 jb_cons (js_forS (Γl := fun s486 : (List Int) => [some (sh (intS a.1)), some (sh ((tupS (prS intS intS)) a.2.1)), some ((lstO (fun x => sh (intS x))) s486), none, none]) a485 (ji_rng1 T.m_range (jn_var (E := intS) (a := a.1) 0)) (jg_name (E := intS) 3 sc__ways.nd) (weak_mask [true, true, true, false, false] _) (fun _ => all_lt rfl) fun x487 s488 =>
 jb_cons (js_forS (Γl := fun s489 : (List Int) => [some (sh (intS a.1)), some (sh ((tupS (prS intS intS)) a.2.1)), some ((lstO (fun x => sh (intS x))) s489), some (sh (intS x487)), none]) s488 (ji_rng1 T.m_range (jn_var (E := intS) (a := a.1) 0)) (jg_name (E := intS) 4 sc__ways.nd) (weak_mask [true, true, true, true, false] _) (fun _ => all_lt rfl) fun x490 s491 =>
 jb_cons (js_if (jt_truI (jn_bin oBAnd ov_bAnd (jn_bin oShr ov_shr (jn_of (jr_ix oIxL iv_lstO (jr_var (R := (lstO (fun x => sh (intS x)))) (a := s491) 2) (jn_var (E := intS) (a := x490) 4))) (jn_var (E := intS) (a := x487) 3)) jn_int)) (D := fun v => Kd.nx ((fun v499 : (List Int) => [some (sh (intS a.1)), some (sh ((tupS (prS intS intS)) a.2.1)), some ((lstO (fun x => sh (intS x))) v499), some (sh (intS x487)), some (sh (intS x490))]) v)) (jb_cons (js_setI (E := (fun x => sh (intS x))) 2 (jn_bin oBOr ov_bOr (jn_of (jr_ix oIxL iv_lstO (jr_var (R := (lstO (fun x => sh (intS x)))) (a := s491) 2) (jn_var (E := intS) (a := x490) 4))) (jn_of (jr_ix oIxL iv_lstO (jr_var (R := (lstO (fun x => sh (intS x)))) (a := s491) 2) (jn_var (E := intS) (a := x487) 3)))) (jn_var (E := intS) (a := x490) 4)) fun a503 =>
 jb_nil (x := a503) rfl (weak_mask [true, true, true, true, true] _)) (jb_nil (x := s491) rfl (weak_mask [true, true, true, true, true] _))) fun a505 =>
 jb_nil (x := a505) rfl (weak_mask [true, true, true, true, false] _)) fun a507 =>
 jb_nil (x := a507) rfl (weak_mask [true, true, true, false, false] _)) fun a509 =>
 jb_retO (R := (lstO (fun x => sh (intS x)))) 2 (weak_none _)) (by unfold M_ways; first | (dsimp only [CC.sb]; done) | (dsimp only [CC.sb]; rfl) | rfl)
def M_points_in (a : Int × Unit) : Option (List Int) :=
 (whileF (fun s521 => some (s521.1 != 0)) (fun s521 => (appM s521.2 ((bitLen (bAnd s521.1 (-s521.1))) - (1 : Int))).bind fun a523 => some (s521.1 - (bAnd s521.1 (-s521.1)), a523)) 100000 (a.1, [])).bind fun a525 => some a525.2
theorem ok_points_in (T : Tx P K mg) : FnOk P w K mg base CX0 1 T.a_points_in T.d_points_in ["mask"] (spP (fun a : Int × Unit => [intS a.1]) M_points_in (fun x => sh ((tupS intS) x))) :=
 fnd_pure (Δ := nonC 3) T.F_points_in sc_points_in (fun _ => rfl) (by decide) fun a => JB.cong (
 jb_cons (js_set 1 sc_points_in.nd (jn_nilLO (E := (fun x => sh (intS x))))) fun a519 =>
 jb_cons (js_whileS (Γl := fun s520 : Int × (List Int) => [some (sh (intS s520.1)), some ((lstO (fun x => sh (intS x))) s520.2), none]) 100000 (a.1, a519) (weak_mask [true, true, false] _) (fun s521 => (jt_truI (jn_var (E := intS) (a := s521.1) 0))) fun s521 =>
 jb_cons (js_set 2 sc_points_in.nd (jn_bin oBAnd ov_bAnd (jn_var (E := intS) (a := s521.1) 0) (jn_neg (jn_var (E := intS) (a := s521.1) 0)))) fun a522 =>
 jb_cons (js_app (E := (fun x => sh (intS x))) 1 (jn_bin oSub ov_sub (jn_bits (jn_var (E := intS) (a := a522) 2)) jn_int)) fun a523 =>
 jb_cons (js_set 0 sc_points_in.nd (jn_bin oSub ov_sub (jn_var (E := intS) (a := s521.1) 0) (jn_var (E := intS) (a := a522) 2))) fun a524 =>
 jb_nil (x := (a524, a523)) rfl (weak_mask [true, true, false] _)) fun a525 =>
 jb_ret (weak_none _) (tup_own T.m_tuple (jr_var (R := (lstO (fun x => sh (intS x)))) (a := a525.2) 1))) (by unfold M_points_in; first | (dsimp only [CC.sb]; done) | (dsimp only [CC.sb]; rfl) | rfl)
def M_order_of (a : Int × ((List (Int × Int)) × Unit)) : Option (Res Ex (Int × (List (Int × Int)))) :=
 (foldGo (fun x465 s466 => ((M_is_link (a.1, (x465, ()))).bind fun x470 => some (!x470)).bind fun x471 => bif x471 then none else some ()) a.2.1 ()).bind fun a472 => (M_ways (a.1, (a.2.1, ()))).bind fun a510 => (((rng 0 a.1).bind fun x515 => compM (fun x511 => (((atI a510 x511).bind fun x512 => shrO x512 x511).bind fun x513 => some (bAnd x513 (1 : Int))).bind fun x514 => some (x514 != 0)) (fun x511 => some x511) x515).bind fun x => some x).bind fun a516 => bif !a516.isEmpty then some (Res.er (Ex.RingFound a516)) else (((((comp2M (fun x533 => some true) (fun x533 => M_points_in (x533.2, ())) (fun x533 x534 => some true) (fun x533 x534 => some (x533.1, x534)) (enumL 0 a510)).bind fun x => some x).bind fun x535 => some (x535, ())).bind fun y536 => some (a.1, y536)).bind fun z537 => some (z537.1, z537.2.1)).bind fun y538 => some (Res.ok y538)
theorem ok_order_of (T : Tx P K mg) : FnOk P w K mg base (L2.CX P w) 3 T.a_order_of T.d_order_of ["n", "links"] (spX (fun a : Int × ((List (Int × Int)) × Unit) => [intS a.1, (tupS (prS intS intS)) a.2.1]) M_order_of (fun x => sh ((prS intS (tupS (prS intS intS))) x)) (Xp K)) :=
 fnd_pureT (Δ := nonC 8) T.F_order_of sc_order_of (fun _ => rfl) (by decide) fun a wx => JB.cong (
 jb_cons (js_forS (Γl := fun s464 : Unit => [some (sh (intS a.1)), some (sh ((tupS (prS intS intS)) a.2.1)), none, none, none, none, none, none]) () (ji_tup (jn_var (E := (tupS (prS intS intS))) (a := a.2.1) 1)) (jg_name (E := (prS intS intS)) 2 sc_order_of.nd) (weak_mask [true, true, false, false, false, false, false, false] _) (fun _ => all_lt rfl) fun x465 s466 =>
 jb_ifN (jt_not (jt_val (jn_call (ok_is_link T) T.g__is_link T.F__is_link.kp T.b__is_link (Nat.le_of_ble_eq_true rfl) (ja_cons (jn_var (E := intS) (a := a.1) 0) (ja_cons (jn_var (E := (prS intS intS)) (a := x465) 2) ja_nil)))))
 (jb_nil (x := ()) rfl (weak_mask [true, true, false, false, false, false, false, false] _))) fun a472 =>
 jb_cons (js_set 3 sc_order_of.nd (jn_call (ok_ways T) T.g__ways T.F__ways.kp T.b__ways (Nat.le_of_ble_eq_true rfl) (ja_cons (jn_var (E := intS) (a := a.1) 0) (ja_cons (jn_var (E := (tupS (prS intS intS))) (a := a.2.1) 1) ja_nil)))) fun a510 =>
 jb_cons (js_set 4 sc_order_of.nd (tup_lst T.m_tuple (JN.frz (fz_lst (fun _ => fz_sh)) (jn_lc sc_order_of.nd (jc_of [("x", 5)] (jic_of (ji_rng1 T.m_range (jn_var (E := intS) (a := a.1) 0))) (show blkC ["n", "links", "link", "masks", "ring", "x", "y", "mask"] (defScope s_order_of) _ [("x", 5)] = true by decide +kernel) (jg_name (E := intS) 5 sc_order_of.nd) (by decide) (all_lt rfl) (fun x511 => jts_one (jt_truI (jn_bin oBAnd ov_bAnd (jn_bin oShr ov_shr (jn_of (jr_ix oIxL iv_lstO (jr_var (R := (lstO (fun x => sh (intS x)))) (a := a510) 3) (jn_var (E := intS) (a := x511) 5))) (jn_var (E := intS) (a := x511) 5)) jn_int))) fun x511 => (jn_var (E := intS) (a := x511) 5)))))) fun a516 =>
 jb_ifr (jt_truT (jn_var (E := (tupS intS)) (a := a516) 4)) (jb_raise (Xp := Xp K) Res.er (weak_mask [false, false, false, false, false, false, false, false] _) (jm_sup (u := Ex.RingFound) (d := sd_RingFound) T.s_RingFound T.pf T.m_super T.no_RingFound_points sh_RingFound T.g_RingFound (jn_var (E := (tupS intS)) (a := a516) 4)) (fun _ => rfl)) (td_nonx fun _ => trivial)
 (JB.frz (i := 3) (o := (lstO (fun x => sh (intS x))) a510) (p := (lstS intS) a510) rfl ((fz_lst (fun _ => fz_sh)) _) (jb_okT (jb_ret (weak_none _) (jn_tupG (P := (prS intS (tupS (prS intS intS)))) (g := fun z => (z.1, z.2.1)) (ja_cons (jn_var (E := intS) (a := a.1) 0) (ja_cons (tup_lst T.m_tuple (JN.frz (fz_lst (fun _ => fz_sh)) (jn_lc2 sc_order_of.nd (jc2_of [("x", 5), ("mask", 7), ("y", 6)] [6] (jic_of (ji_enumL T.m_enumerate (jn_var (E := (lstS intS)) (a := a510) 3))) (show blkC ["n", "links", "link", "masks", "ring", "x", "y", "mask"] (defScope s_order_of) _ [("x", 5), ("mask", 7), ("y", 6)] = true by decide +kernel) (jg_pair (E := intS) (G := intS) 5 7 sc_order_of.nd) (by decide) (all_lt rfl) (fun x533 => jts_nil) (by decide) (fun x533 => (ji_tup (jn_call (ok_points_in T) T.g_points_in T.F_points_in.kp T.b_points_in (Nat.le_of_ble_eq_true rfl) (ja_cons (jn_var (E := intS) (a := x533.2) 7) ja_nil)))) (jg_name (E := intS) 6 sc_order_of.nd) (by decide) (fun _ => all_lt rfl) (fun x533 x534 => jts_nil) fun x533 x534 => (jn_tupG (P := (prS intS intS)) (g := fun z => (z.1, z.2.1)) (ja_cons (jn_var (E := intS) (a := x533.1) 5) (ja_cons (jn_var (E := intS) (a := x534) 6) ja_nil))))))) ja_nil))))))) (by unfold M_order_of; first | (dsimp only [CC.sb]; done) | (dsimp only [CC.sb]; rfl) | rfl)
def M_quotient (a : (Int × (List (Int × Int))) × ((List Int) × Unit)) : Option (Option (Int × (List (Int × Int)))) :=
 (foldGo (fun x447 s448 => (bif !(getM s448 x447).isSome then (putMO s448 x447 (s448.length : Int)).bind fun a451 => some a451 else some s448).bind fun a452 => some a452) a.2.1 []).bind fun a453 => (mapM (fun x454 => getM a453 x454) a.2.1).bind fun a455 => ((compM (fun x456 => (atI a455 x456.1).bind fun x461 => (atI a455 x456.2).bind fun x462 => some (!decide (x461 = x462))) (fun x456 => ((atI a455 x456.1).bind fun x457 => ((atI a455 x456.2).bind fun x458 => some (x458, ())).bind fun y459 => some (x457, y459)).bind fun z460 => some (z460.1, z460.2.1)) a.1.2).bind fun x => some x).bind fun a463 => tryM ((M_order_of ((a453.length : Int), (a463, ()))).bind fun x539 => some (mapX some x539)) (fun u => Ex.k u (fun ez542 => some (none : Option (Int × (List (Int × Int))))))
theorem ok_quotient (T : Tx P K mg) : FnOk P w K mg base CX0 4 T.a_quotient T.d_quotient ["order", "labels"] (spP (fun a : (Int × (List (Int × Int))) × ((List Int) × Unit) => [(prS intS (tupS (prS intS intS))) a.1, (tupS intS) a.2.1]) M_quotient (fun x => sh ((optS (prS intS (tupS (prS intS intS)))) x))) :=
 fnd_pure (Δ := nonC 8) T.F_quotient sc_quotient (fun _ => rfl) (by decide) fun a => JB.cong (
 jb_cons (js_set 2 sc_quotient.nd (jn_dnew (kk := Sum.inl) (E := intS))) fun a445 =>
 jb_cons (js_forS (Γl := fun s446 : (List (Int × Int)) => [some (sh ((prS intS (tupS (prS intS intS))) a.1)), some (sh ((tupS intS) a.2.1)), some ((dkO Sum.inl intS) s446), none, none, none, none, none]) a445 (ji_tup (jn_var (E := (tupS intS)) (a := a.2.1) 1)) (jg_name (E := intS) 3 sc_quotient.nd) (weak_mask [true, true, true, false, false, false, false, false] _) (fun _ => all_lt rfl) fun x447 s448 =>
 jb_cons (js_if (jt_dnin ke_int rd_dkO (jn_var (E := intS) (a := x447) 3) (jr_var (R := (dkO Sum.inl intS)) (a := s448) 2)) (D := fun v => Kd.nx ((fun v450 : (List (Int × Int)) => [some (sh ((prS intS (tupS (prS intS intS))) a.1)), some (sh ((tupS intS) a.2.1)), some ((dkO Sum.inl intS) v450), some (sh (intS x447)), none, none, none, none]) v)) (jb_cons (js_dput (E := intS) 2 ke_int (len_dk rd_dkO T.m_len (jr_var (R := (dkO Sum.inl intS)) (a := s448) 2)) (jn_var (E := intS) (a := x447) 3)) fun a451 =>
 jb_nil (x := a451) rfl (weak_mask [true, true, true, true, false, false, false, false] _)) (jb_nil (x := s448) rfl (weak_mask [true, true, true, true, false, false, false, false] _))) fun a452 =>
 jb_nil (x := a452) rfl (weak_mask [true, true, true, false, false, false, false, false] _)) fun a453 =>
 jb_cons (js_setLcC 4 sc_quotient.nd (jn_lc sc_quotient.nd (jc_map [("label", 3)] (jic_of (ji_tup (jn_var (E := (tupS intS)) (a := a.2.1) 1))) (show blkC ["order", "labels", "numbers", "label", "classes", "links", "x", "y"] (defScope s_quotient) _ [("label", 3)] = true by decide +kernel) (jg_name (E := intS) 3 sc_quotient.nd) (by decide) (all_lt rfl) fun x454 => (jn_dget ke_int rd_dkO (jr_var (R := (dkO Sum.inl intS)) (a := a453) 2) (jn_var (E := intS) (a := x454) 3))))) fun a455 =>
 jb_cons (js_set 5 sc_quotient.nd (tup_lst T.m_tuple (JN.frz (fz_lst (fun _ => fz_sh)) (jn_lc sc_quotient.nd (jc_of [("x", 6), ("y", 7)] (jic_of (ji_tup (jn_ixT (E := (tupS (prS intS intS))) (g := fun z => z.2) 1 (jn_var (E := (prS intS (tupS (prS intS intS)))) (a := a.1) 0)))) (show blkC ["order", "labels", "numbers", "label", "classes", "links", "x", "y"] (defScope s_quotient) _ [("x", 6), ("y", 7)] = true by decide +kernel) (jg_pair (E := intS) (G := intS) 6 7 sc_quotient.nd) (by decide) (all_lt rfl) (fun x456 => jts_one (jt_cmp oNe ov_neI (jn_of (jr_ix oIxL iv_lstO (jr_var (R := (lstO (fun x => sh (intS x)))) (a := a455) 4) (jn_var (E := intS) (a := x456.1) 6))) (jn_of (jr_ix oIxL iv_lstO (jr_var (R := (lstO (fun x => sh (intS x)))) (a := a455) 4) (jn_var (E := intS) (a := x456.2) 7))))) fun x456 => (jn_tupG (P := (prS intS intS)) (g := fun z => (z.1, z.2.1)) (ja_cons (jn_of (jr_ix oIxL iv_lstO (jr_var (R := (lstO (fun x => sh (intS x)))) (a := a455) 4) (jn_var (E := intS) (a := x456.1) 6))) (ja_cons (jn_of (jr_ix oIxL iv_lstO (jr_var (R := (lstO (fun x => sh (intS x)))) (a := a455) 4) (jn_var (E := intS) (a := x456.2) 7))) ja_nil)))))))) fun a463 =>
 jb_one (js_try (Xp := Xp K) ([some (sh ((prS intS (tupS (prS intS intS))) a.1)), some (sh ((tupS intS) a.2.1)), none, none, none, some (sh ((tupS (prS intS intS)) a463)), none, none]) (fun wx => jb_retT (R := (fun x => sh ((optS (prS intS (tupS (prS intS intS)))) x))) (weak_none _) (weak_mask [true, true, false, false, false, true, false, false] _) (jx_osome (jx_call (ok_order_of T) T.g_order_of T.F_order_of.kp T.b_order_of (Nat.le_of_ble_eq_true rfl) (ja_cons (len_dk rd_dkO T.m_len (jr_var (R := (dkO Sum.inl intS)) (a := a453) 2)) (ja_cons (jn_var (E := (tupS (prS intS intS))) (a := a463) 5) ja_nil))))) (Ex.hu (fun ez542  => jb_ret (weak_none _) (jn_onone (E := (prS intS (tupS (prS intS intS))))))) T.g_RingFound (Ex.ax (Ex.al T.h_RingFound_RingFound)) (fun _ => nofun))) (by unfold M_quotient; first | (dsimp only [CC.sb]; done) | (dsimp only [CC.sb]; rfl) | rfl)
def N_law_same (rec : (PV × (PV × Unit)) → Option Bool) (a : PV × (PV × Unit)) : Option Bool :=
 bif pN a.2.1 then some (pN a.1) else bif pT a.2.1 then (bif !(pT a.1) then some true else (lenA a.1).bind fun x548 => (lenA a.2.1).bind fun x549 => some (!decide (x548 = x549))).bind fun x565 => bif x565 then some false else (((lenA a.2.1).bind fun x557 => rng 0 x557).bind fun x563 => mapM (fun x558 => ((ixA a.1 x558).bind fun x559 => ((ixA a.2.1 x558).bind fun x560 => some (x560, ())).bind fun y561 => some (x559, y561)).bind fun z562 => rec z562) x563).bind fun x564 => some (!decide (false ∈ x564)) else bif pI a.1 then bif !(pB a.1) then eqA a.1 a.2.1 else some false else some false
def M_law_same : Nat → (PV × (PV × Unit)) → Option Bool
  | 0 => fun _ => none
  | d + 1 => N_law_same (M_law_same d)
theorem ok_law_same (T : Tx P K mg) : ∀ d : Nat, FnOk P w K mg base CX0 (d + 1) T.a__law_same T.d__law_same ["told", "due"] (spP (fun a : PV × (PV × Unit) => [anyS a.1, anyS a.2.1]) (M_law_same d) (fun x => sh (boolS x)))
  | 0 => fn_zero (k := 0 + 0) T.F__law_same sc__law_same
  | d + 1 => fnd_pure (k := d + 1) (Δ := nonC 3) T.F__law_same sc__law_same (fun _ => rfl) (by decide) fun a => JB.cong (
 jb_ifr (jt_cmp oIsN ov_isNA (jn_var (E := anyS) (a := a.2.1) 1) jn_non) (jb_ret (weak_none _) (jn_cmp oIsN ov_isNA (jn_var (E := anyS) (a := a.1) 0) jn_non)) (fun _ => trivial)
 (jb_ifr (jt_val (jn_isiA (cn := "tuple") pT T.m_isinstance T.m_tuple (jn_var (E := anyS) (a := a.2.1) 1))) (jb_ifr (jt_w (jw_or (jt_not (jt_val (jn_isiA (cn := "tuple") pT T.m_isinstance T.m_tuple (jn_var (E := anyS) (a := a.1) 0)))) (jw_or1 (jt_cmp oNe ov_neI (len_any T.m_len (jn_var (E := anyS) (a := a.1) 0)) (len_any T.m_len (jn_var (E := anyS) (a := a.2.1) 1)))))) (jb_ret (weak_none _) jn_bl) (fun _ => trivial)
 (jb_ret (weak_none _) (jn_cmp oNotIn (ov_ninL fl_bool) jn_bl (JN.frz (fz_lst (fun _ => fz_sh)) (jn_lc sc__law_same.nd (jc_map [("k", 2)] (jic_of (ji_rng1 T.m_range (len_any T.m_len (jn_var (E := anyS) (a := a.2.1) 1)))) (show blkC ["told", "due", "k"] (defScope s__law_same) _ [("k", 2)] = true by decide +kernel) (jg_name (E := intS) 2 sc__law_same.nd) (by decide) (all_lt rfl) fun x558 => (jn_call (ok_law_same T d) T.g__law_same T.F__law_same.kp T.b__law_same (Nat.le_refl _) (ja_cons (jn_of (jr_ix oIxA iv_any (jr_of (jn_var (E := anyS) (a := a.1) 0)) (jn_var (E := intS) (a := x558) 2))) (ja_cons (jn_of (jr_ix oIxA iv_any (jr_of (jn_var (E := anyS) (a := a.2.1) 1)) (jn_var (E := intS) (a := x558) 2))) ja_nil))))))))) (fun _ => trivial)
 (jb_ret (weak_none _) (jn_and (jn_isiA (cn := "int") pI T.m_isinstance T.m_int (jn_var (E := anyS) (a := a.1) 0)) (jn_and (jn_notV (jn_isiA (cn := "bool") pB T.m_isinstance T.m_bool (jn_var (E := anyS) (a := a.1) 0))) (jn_one (jn_cmp oEq ov_eqA (jn_var (E := anyS) (a := a.1) 0) (jn_var (E := anyS) (a := a.2.1) 1)))))))) (by show _ = N_law_same (M_law_same d) a; unfold N_law_same; first | (dsimp only [CC.sb]; done) | (dsimp only [CC.sb]; rfl) | rfl)
def M_law_right (a : (Int × (List (Int × Int))) × ((List Int) × Unit)) : Option Bool :=
 ((((M_law_classes (a.2.1, ())).bind fun x441 => some (x441, ())).bind fun y442 => some (a.1, y442)).bind fun z443 => M_law_quotient z443).bind fun a444 => (((((M_quotient (a.1, (a.2.1, ()))).bind fun x543 => some (optV (fun u544 => PV.tup [PV.int u544.1, PV.tup (u544.2.map (fun u545 => PV.tup [PV.int u545.1, PV.int u545.2]))]) x543)).bind fun x566 => some (x566, (optV (fun u546 => PV.tup [PV.int u546.1, PV.tup (u546.2.map (fun u547 => PV.tup [PV.int u547.1, PV.int u547.2]))]) a444, ()))).bind fun z567 => M_law_same 6 z567).bind fun x568 => some (!x568)).bind fun x576 => bif x576 then some false else (((M_quotient (a.1, a.2.1, ())).bind fun x569 => some (optV (fun u570 => PV.tup [PV.int u570.1, PV.tup (u570.2.map (fun u571 => PV.tup [PV.int u571.1, PV.int u571.2]))]) x569)).bind fun x574 => some (x574, (optV (fun u572 => PV.tup [PV.int u572.1, PV.tup (u572.2.map (fun u573 => PV.tup [PV.int u573.1, PV.int u573.2]))]) a444, ()))).bind fun z575 => M_law_same 6 z575
theorem ok_law_right (T : Tx P K mg) : FnOk P w K mg base CX0 8 T.a__law_right T.d__law_right ["order", "labels"] (spP (fun a : (Int × (List (Int × Int))) × ((List Int) × Unit) => [(prS intS (tupS (prS intS intS))) a.1, (tupS intS) a.2.1]) M_law_right (fun x => sh (boolS x))) :=
 fnd_pure (Δ := nonC 3) T.F__law_right sc__law_right (fun _ => rfl) (by decide) fun a => JB.cong (
 jb_cons (js_set 2 sc__law_right.nd (jn_call (ok_law_quotient T) T.g__law_quotient T.F__law_quotient.kp T.b__law_quotient (Nat.le_of_ble_eq_true rfl) (ja_cons (jn_var (E := (prS intS (tupS (prS intS intS)))) (a := a.1) 0) (ja_cons (JN.frz (fz_lst (fun _ => fz_sh)) (jn_call (ok_law_classes T) T.g__law_classes T.F__law_classes.kp T.b__law_classes (Nat.le_of_ble_eq_true rfl) (ja_cons (jn_var (E := (tupS intS)) (a := a.2.1) 1) ja_nil))) ja_nil)))) fun a444 =>
 jb_ifr (jt_not (jt_val (jn_call (ok_law_same T 6) T.g__law_same T.F__law_same.kp T.b__law_same (Nat.le_of_ble_eq_true rfl) (ja_cons (jn_any (ao_opt (ao_pr ao_int (ao_tup (ao_pr ao_int ao_int)))) (jn_call (ok_quotient T) T.g_quotient T.F_quotient.kp T.b_quotient (Nat.le_of_ble_eq_true rfl) (ja_cons (jn_var (E := (prS intS (tupS (prS intS intS)))) (a := a.1) 0) (ja_cons (jn_var (E := (tupS intS)) (a := a.2.1) 1) ja_nil)))) (ja_cons (jn_any (ao_opt (ao_pr ao_int (ao_tup (ao_pr ao_int ao_int)))) (jn_var (E := (optS (prS intS (tupS (prS intS intS))))) (a := a444) 2)) ja_nil))))) (jb_ret (weak_none _) jn_bl) (fun _ => trivial)
 (jb_ret (weak_none _) (jn_call (ok_law_same T 6) T.g__law_same T.F__law_same.kp T.b__law_same (Nat.le_of_ble_eq_true rfl) (ja_cons (jn_any (ao_opt (ao_pr ao_int (ao_tup (ao_pr ao_int ao_int)))) (jn_call0N (fun z => (z.2.1, z.1, ())) (ok_quotient T) T.g_quotient T.F_quotient.kp T.q0_quotient (by intro z B zs h; exact hets_s (vs := []) (ps := []) trivial h rfl) (by intro _; rfl) (Nat.le_of_ble_eq_true rfl) (jk_cons (jn_var (E := (tupS intS)) (a := a.2.1) 1) (jk_cons (jn_var (E := (prS intS (tupS (prS intS intS)))) (a := a.1) 0) jk_nil)))) (ja_cons (jn_any (ao_opt (ao_pr ao_int (ao_tup (ao_pr ao_int ao_int)))) (jn_var (E := (optS (prS intS (tupS (prS intS intS))))) (a := a444) 2)) ja_nil))))) (by unfold M_law_right; first | (dsimp only [CC.sb]; done) | (dsimp only [CC.sb]; rfl) | rfl)
def M_law_order (a : Int × (Int × Unit)) (s : ((List Int) × Int × Int × Int × Int × Int)) : Option (((Int × (List (Int × Int))) × (List Int)) × ((List Int) × Int × Int × Int × Int × Int)) :=
 ((M_law_turned (a.1, ()) s).bind fun r601 => some (r601.1, r601.2)).bind fun a602 => ((rng 0 a.1).bind fun x604 => mapM (fun x603 => some []) x604).bind fun a605 => ((rng 0 a.1).bind fun x658 => foldGo (fun x607 s608 => ((rng 0 x607).bind fun x654 => foldGo (fun x630 s631 => (atI a602.1 ((x607 - (1 : Int)) - x630)).bind fun a632 => ((bif !decide (a632 ∈ s631.2) then ((M_law_draw (a.2.1, ()) s631.1).bind fun r635 => some (r635.1, r635.2)).bind fun q637 => some (decide (q637.1 = (0 : Int)), q637.2) else some (false, s631.1)).bind fun q652 => bif q652.1 then ((((atI s608.2 a632).bind fun x647 => catM [a632] x647).bind fun x649 => compM (fun x648 => some (!decide (x648 ∈ s631.2))) (fun x648 => some x648) x649).bind fun x650 => catM s631.2 x650).bind fun a651 => some (q652.2, a651) else some (q652.2, s631.2)).bind fun a653 => some (a653.1, a653.2)) x654 (s608.1, [])).bind fun a655 => ((atI a602.1 x607).bind fun x656 => setAt s608.2 x656 a655.2).bind fun a657 => some (a655.1, a657)) x658 (a602.2, a605)).bind fun a659 => ((rng 0 a.1).bind fun x676 => foldGo (fun x670 s671 => (((atI a659.2 x670).bind fun x673 => mapM (fun x672 => some (x672, x670)) x673).bind fun x674 => catM s671 x674).bind fun a675 => some a675) x676 []).bind fun a677 => some (((a.1, sortP a677), a602.1), a659.1)
theorem ok_law_order (T : Tx P K mg) : FnOk P w K mg base CX0 4 T.a__law_order T.d__law_order ["st", "n", "thin"] (spS h0O (fun a : Int × (Int × Unit) => [intS a.1, intS a.2.1]) M_law_order (fun x => sh ((prS (prS intS (tupS (prS intS intS))) (lstS intS)) x))) :=
 fnd_state T.F__law_order sc__law_order (fun _ => rfl) (by decide) fun a s => JB.cong (
 jb_cons (js_setE (Γ := fun s600 : ((List Int) × Int × Int × Int × Int × Int) => [some (h0O s600), some (sh (intS a.1)), some (sh (intS a.2.1)), none, none, none, none, none, none, none, none, none]) (s := s) 3 sc__law_order.nd (je_callS (O := h0O) 0 (fun s => s) (fun s u => u) (ok_law_turned T) T.g__law_turned T.F__law_turned.kp T.b__law_turned (Nat.le_of_ble_eq_true rfl) (jea_of (ja_cons (jn_var (E := intS) (a := a.1) 1) ja_nil)))) fun a602 =>
 jb_cons (js_setLc 4 sc__law_order.nd (jc_map [("x", 10)] (jic_of (ji_rng1 T.m_range (jn_var (E := intS) (a := a.1) 1))) (show blkC ["st", "n", "thin", "row", "lows", "j", "pairs", "y", "low", "k", "x", "z"] (defScope s__law_order) _ [("x", 10)] = true by decide +kernel) (jg_name (E := intS) 10 sc__law_order.nd) (by decide) (all_lt rfl) fun x603 => (JN.frz (fz_lst (fun _ => fz_sh)) (jn_nilLO (E := (fun x => sh (intS x))))))) fun a605 =>
 jb_cons (js_forS (Γl := fun s606 : ((List Int) × Int × Int × Int × Int × Int) × (List (List Int)) => [some (h0O s606.1), some (sh (intS a.1)), some (sh (intS a.2.1)), some ((lstO (fun x => sh (intS x))) a602.1), some ((lstO (fun x => sh ((lstS intS) x))) s606.2), none, none, none, none, none, none, none]) (a602.2, a605) (ji_rng1 T.m_range (jn_var (E := intS) (a := a.1) 1)) (jg_name (E := intS) 5 sc__law_order.nd) (weak_mask [true, true, true, true, true, false, false, false, false, false, false, false] _) (fun _ => all_lt rfl) fun x607 s608 =>
 jb_cons (js_set 8 sc__law_order.nd (jn_nilLO (E := (fun x => sh (intS x))))) fun a609 =>
 JB.frz (i := 8) (o := (lstO (fun x => sh (intS x))) a609) (p := (lstS intS) a609) rfl ((fz_lst (fun _ => fz_sh)) _) (jb_cons (js_forS (Γl := fun s629 : ((List Int) × Int × Int × Int × Int × Int) × (List Int) => [some (h0O s629.1), some (sh (intS a.1)), some (sh (intS a.2.1)), some ((lstO (fun x => sh (intS x))) a602.1), some ((lstO (fun x => sh ((lstS intS) x))) s608.2), some (sh (intS x607)), none, none, some (sh ((lstS intS) s629.2)), none, none, none]) (s608.1, a609) (ji_rng1 T.m_range (jn_var (E := intS) (a := x607) 5)) (jg_name (E := intS) 9 sc__law_order.nd) (weak_mask [true, true, true, true, true, true, false, false, true, false, false, false] _) (fun _ => all_lt rfl) fun x630 s631 =>
 jb_cons (js_set 10 sc__law_order.nd (jn_of (jr_ix oIxL iv_lstO (jr_var (R := (lstO (fun x => sh (intS x)))) (a := a602.1) 3) (jn_bin oSub ov_sub (jn_bin oSub ov_sub (jn_var (E := intS) (a := x607) 5) jn_int) (jn_var (E := intS) (a := x630) 9))))) fun a632 =>
 jb_cons (js_ifE (Γ := fun s633 : ((List Int) × Int × Int × Int × Int × Int) => [some (h0O s633), some (sh (intS a.1)), some (sh (intS a.2.1)), some ((lstO (fun x => sh (intS x))) a602.1), some ((lstO (fun x => sh ((lstS intS) x))) s608.2), some (sh (intS x607)), none, none, some (sh ((lstS intS) s631.2)), some (sh (intS x630)), some (sh (intS a632)), none]) (s := s631.1) (jte_w (jwe_and (jte_of (jt_cmp oNotIn (ov_ninL fl_int) (jn_var (E := intS) (a := a632) 10) (jn_var (E := (lstS intS)) (a := s631.2) 8))) fun s634 => (jwe_and1 (jte_cmp oEq ov_eqI (je_callS (O := h0O) 0 (fun s => s) (fun s u => u) (ok_law_draw T) T.g__law_draw T.F__law_draw.kp T.b__law_draw (Nat.le_of_ble_eq_true rfl) (jea_of (ja_cons (jn_var (E := intS) (a := a.2.1) 2) ja_nil))) fun s636 => (je_of jn_int))))) (D := fun v => Kd.nx ((fun v645 : ((List Int) × Int × Int × Int × Int × Int) × (List Int) => [some (h0O v645.1), some (sh (intS a.1)), some (sh (intS a.2.1)), some ((lstO (fun x => sh (intS x))) a602.1), some ((lstO (fun x => sh ((lstS intS) x))) s608.2), some (sh (intS x607)), none, none, some (sh ((lstS intS) v645.2)), some (sh (intS x630)), some (sh (intS a632)), none]) v)) (fun s638 => jb_cons (js_set 8 sc__law_order.nd (jn_bin oCat ov_cat (jn_var (E := (lstS intS)) (a := s631.2) 8) (JN.frz (fz_lst (fun _ => fz_sh)) (jn_lc sc__law_order.nd (jc_of [("z", 11)] (jic_of (ji_lst (JN.frz (fz_lst (fun _ => fz_sh)) (jn_bin oCat ov_cat (JN.frz (fz_lst (fun _ => fz_sh)) (jn_dispL (E := intS) (g := fun z => [z.1]) (ja_cons (jn_var (E := intS) (a := a632) 10) ja_nil))) (jn_of (jr_ix oIxL iv_lstO (jr_var (R := (lstO (fun x => sh ((lstS intS) x)))) (a := s608.2) 4) (jn_var (E := intS) (a := a632) 10))))))) (show blkC ["st", "n", "thin", "row", "lows", "j", "pairs", "y", "low", "k", "x", "z"] (defScope s__law_order) _ [("z", 11)] = true by decide +kernel) (jg_name (E := intS) 11 sc__law_order.nd) (by decide) (all_lt rfl) (fun x648 => jts_one (jt_cmp oNotIn (ov_ninL fl_int) (jn_var (E := intS) (a := x648) 11) (jn_var (E := (lstS intS)) (a := s631.2) 8))) fun x648 => (jn_var (E := intS) (a := x648) 11)))))) fun a651 =>
 JB.frz (i := 8) (o := (lstO (fun x => sh (intS x))) a651) (p := (lstS intS) a651) rfl ((fz_lst (fun _ => fz_sh)) _) (jb_nil (x := (s638, a651)) rfl (weak_mask [true, true, true, true, true, true, false, false, true, true, true, false] _))) fun s638 => jb_nil (x := (s638, s631.2)) rfl (weak_mask [true, true, true, true, true, true, false, false, true, true, true, false] _)) fun a653 =>
 jb_nil (x := (a653.1, a653.2)) rfl (weak_mask [true, true, true, true, true, true, false, false, true, false, false, false] _)) fun a655 =>
 jb_cons (js_setI (E := (fun x => sh ((lstS intS) x))) 4 (jn_var (E := (lstS intS)) (a := a655.2) 8) (jn_of (jr_ix oIxL iv_lstO (jr_var (R := (lstO (fun x => sh (intS x)))) (a := a602.1) 3) (jn_var (E := intS) (a := x607) 5)))) fun a657 =>
 jb_nil (x := (a655.1, a657)) rfl (weak_mask [true, true, true, true, true, false, false, false, false, false, false, false] _))) fun a659 =>
 jb_cons (js_set 6 sc__law_order.nd (jn_nilLO (E := (fun x => sh ((prS intS intS) x))))) fun a660 =>
 JB.frz (i := 6) (o := (lstO (fun x => sh ((prS intS intS) x))) a660) (p := (lstS (prS intS intS)) a660) rfl ((fz_lst (fun _ => fz_sh)) _) (jb_cons (js_forS (Γl := fun s669 : (List (Int × Int)) => [some (h0O a659.1), some (sh (intS a.1)), some (sh (intS a.2.1)), some ((lstO (fun x => sh (intS x))) a602.1), some ((lstO (fun x => sh ((lstS intS) x))) a659.2), none, some (sh ((lstS (prS intS intS)) s669)), none, none, none, none, none]) a660 (ji_rng1 T.m_range (jn_var (E := intS) (a := a.1) 1)) (jg_name (E := intS) 7 sc__law_order.nd) (weak_mask [true, true, true, true, true, false, true, false, false, false, false, false] _) (fun _ => all_lt rfl) fun x670 s671 =>
 jb_cons (js_set 6 sc__law_order.nd (jn_bin oCat ov_cat (jn_var (E := (lstS (prS intS intS))) (a := s671) 6) (JN.frz (fz_lst (fun _ => fz_sh)) (jn_lc sc__law_order.nd (jc_map [("x", 10)] (jic_of (ji_lst (jn_of (jr_ix oIxL iv_lstO (jr_var (R := (lstO (fun x => sh ((lstS intS) x)))) (a := a659.2) 4) (jn_var (E := intS) (a := x670) 7))))) (show blkC ["st", "n", "thin", "row", "lows", "j", "pairs", "y", "low", "k", "x", "z"] (defScope s__law_order) _ [("x", 10)] = true by decide +kernel) (jg_name (E := intS) 10 sc__law_order.nd) (by decide) (all_lt rfl) fun x672 => (jn_tupG (P := (prS intS intS)) (g := fun z => (z.1, z.2.1)) (ja_cons (jn_var (E := intS) (a := x672) 10) (ja_cons (jn_var (E := intS) (a := x670) 7) ja_nil)))))))) fun a675 =>
 JB.frz (i := 6) (o := (lstO (fun x => sh ((prS intS intS) x))) a675) (p := (lstS (prS intS intS)) a675) rfl ((fz_lst (fun _ => fz_sh)) _) (jb_nil (x := a675) rfl (weak_mask [true, true, true, true, true, false, true, false, false, false, false, false] _))) fun a677 =>
 JB.frz (i := 3) (o := (lstO (fun x => sh (intS x))) a602.1) (p := (lstS intS) a602.1) rfl ((fz_lst (fun _ => fz_sh)) _) (jb_retS (R := (fun x => sh ((prS (prS intS (tupS (prS intS intS))) (lstS intS)) x))) (Δ := fun s => some (h0O s) :: nonC 11) (s := a659.1) (weak_mask [true, false, false, false, false, false, false, false, false, false, false, false] _) (jn_tupG (P := (prS (prS intS (tupS (prS intS intS))) (lstS intS))) (g := fun z => (z.1, z.2.1)) (ja_cons (jn_tupG (P := (prS intS (tupS (prS intS intS)))) (g := fun z => (z.1, z.2.1)) (ja_cons (jn_var (E := intS) (a := a.1) 1) (ja_cons (tup_lst T.m_tuple (JN.frz (fz_lst (fun _ => fz_sh)) (sorted_prs T.m_sorted (jn_var (E := (lstS (prS intS intS))) (a := a677) 6)))) ja_nil))) (ja_cons (jn_var (E := (lstS intS)) (a := a602.1) 3) ja_nil)))))) (by unfold M_law_order; first | (dsimp only [CC.sb]; done) | (dsimp only [CC.sb]; rfl) | rfl)
def M_law_ring_right (a : (Int × (List (Int × Int))) × Unit) (s : ((List Int) × Int × Int × Int × Int × Int)) : Option (Bool × ((List Int) × Int × Int × Int × Int × Int)) :=
 (((M_law_draw ((3 : Int), ()) s).bind fun r702 => some (r702.1, r702.2)).bind fun q703 => some ((2 : Int) + q703.1, q703.2)).bind fun a704 => ((((mulO (2 : Int) a704.1).bind fun x705 => some (a.1.1 + x705)).bind fun x716 => (((((rng 0 a704.1).bind fun x714 => mapM (fun x706 => (((mulO (2 : Int) x706).bind fun x707 => some (a.1.1 + x707)).bind fun x710 => ((((mulO (2 : Int) x706).bind fun x708 => some (a.1.1 + x708)).bind fun x709 => some (x709 + (1 : Int))).bind fun x711 => some (x711, ())).bind fun y712 => some (x710, y712)).bind fun z713 => some (z713.1, z713.2.1)) x714).bind fun x => some x).bind fun x715 => catM a.1.2 x715).bind fun x717 => some (x717, ())).bind fun y718 => some (x716, y718)).bind fun z719 => some (z719.1, z719.2.1)).bind fun a720 => (((((mulO (2 : Int) a704.1).bind fun x722 => some (a.1.1 + x722)).bind fun x723 => some (x723, ())).bind fun x725 => some (x725, a704.2)).bind fun q726 => (M_law_turned q726.1 q726.2).bind fun r727 => some (r727.1, r727.2)).bind fun a728 => (M_law_renamed (a720, (a728.1, ()))).bind fun a729 => (((mulO (2 : Int) a704.1).bind fun x730 => some (a.1.1 + x730)).bind fun x731 => rng 0 x731).bind fun a732 => ((rng 0 a704.1).bind fun x746 => foldGo (fun x734 s735 => ((((((modO (x734 + (1 : Int)) a704.1).bind fun x736 => mulO (2 : Int) x736).bind fun x737 => some (a.1.1 + x737)).bind fun x738 => atI a728.1 x738).bind fun x739 => atI s735 x739).bind fun x743 => ((((mulO (2 : Int) x734).bind fun x740 => some (a.1.1 + x740)).bind fun x741 => some (x741 + (1 : Int))).bind fun x742 => atI a728.1 x742).bind fun x744 => setAt s735 x744 x743).bind fun a745 => some a745) x746 a732).bind fun a747 => (((M_quotient (a729, (a747, ()))).bind fun x748 => some x748.isSome).bind fun x750 => bif x750 then some true else (M_quotient (a729, a747, ())).bind fun x749 => some x749.isSome).bind fun x771 => bif x771 then some (false, a728.2) else ((((mulO (2 : Int) a704.1).bind fun x752 => some (a.1.1 + x752)).bind fun x753 => some (x753, a728.2)).bind fun q766 => ((((((M_law_draw (a704.1, ()) q766.2).bind fun r758 => some (r758.1, r758.2)).bind fun q759 => (mulO (2 : Int) q759.1).bind fun z760 => some (z760, q759.2)).bind fun q761 => some (a.1.1 + q761.1, q761.2)).bind fun q763 => some (q763.1 + (1 : Int), q763.2)).bind fun q764 => (atI a728.1 q764.1).bind fun z765 => some (z765, q764.2)).bind fun q767 => (setAt a747 q767.1 q766.1).bind fun r768 => some (r768, q767.2)).bind fun a769 => (M_law_right (a729, (a769.1, ()))).bind fun x770 => some (x770, a769.2)
theorem ok_law_ring_right (T : Tx P K mg) : FnOk P w K mg base CX0 9 T.a__law_ring_right T.d__law_ring_right ["st", "order"] (spS h0O (fun a : (Int × (List (Int × Int))) × Unit => [(prS intS (tupS (prS intS intS))) a.1]) M_law_ring_right (fun x => sh (boolS x))) :=
 fnd_state T.F__law_ring_right sc__law_ring_right (fun _ => rfl) (by decide) fun a s => JB.cong (
 jb_cons (js_set 2 sc__law_ring_right.nd (jn_ixT (E := intS) (g := fun z => z.1) 0 (jn_var (E := (prS intS (tupS (prS intS intS)))) (a := a.1) 1))) fun a699 =>
 jb_cons (js_setE (Γ := fun s700 : ((List Int) × Int × Int × Int × Int × Int) => [some (h0O s700), some (sh ((prS intS (tupS (prS intS intS))) a.1)), some (sh (intS a699)), none, none, none, none, none]) (s := s) 3 sc__law_ring_right.nd (je_bin oAdd ov_add (je_of jn_int) fun s701 => (je_callS (O := h0O) 0 (fun s => s) (fun s u => u) (ok_law_draw T) T.g__law_draw T.F__law_draw.kp T.b__law_draw (Nat.le_of_ble_eq_true rfl) (jea_of (ja_cons jn_int ja_nil))))) fun a704 =>
 jb_cons (js_set 4 sc__law_ring_right.nd (jn_tupG (P := (prS intS (tupS (prS intS intS)))) (g := fun z => (z.1, z.2.1)) (ja_cons (jn_bin oAdd ov_add (jn_var (E := intS) (a := a699) 2) (jn_bin oMul ov_mul jn_int (jn_var (E := intS) (a := a704.1) 3))) (ja_cons (jn_bin oCatT ov_catT (jn_ixT (E := (tupS (prS intS intS))) (g := fun z => z.2) 1 (jn_var (E := (prS intS (tupS (prS intS intS)))) (a := a.1) 1)) (tup_lst T.m_tuple (JN.frz (fz_lst (fun _ => fz_sh)) (jn_lc sc__law_ring_right.nd (jc_map [("k", 7)] (jic_of (ji_rng1 T.m_range (jn_var (E := intS) (a := a704.1) 3))) (show blkC ["st", "order", "n", "many", "wide", "row", "labels", "k"] (defScope s__law_ring_right) _ [("k", 7)] = true by decide +kernel) (jg_name (E := intS) 7 sc__law_ring_right.nd) (by decide) (all_lt rfl) fun x706 => (jn_tupG (P := (prS intS intS)) (g := fun z => (z.1, z.2.1)) (ja_cons (jn_bin oAdd ov_add (jn_var (E := intS) (a := a699) 2) (jn_bin oMul ov_mul jn_int (jn_var (E := intS) (a := x706) 7))) (ja_cons (jn_bin oAdd ov_add (jn_bin oAdd ov_add (jn_var (E := intS) (a := a699) 2) (jn_bin oMul ov_mul jn_int (jn_var (E := intS) (a := x706) 7))) jn_int) ja_nil)))))))) ja_nil)))) fun a720 =>
 jb_cons (js_setE (Γ := fun s721 : ((List Int) × Int × Int × Int × Int × Int) => [some (h0O s721), some (sh ((prS intS (tupS (prS intS intS))) a.1)), some (sh (intS a699)), some (sh (intS a704.1)), some (sh ((prS intS (tupS (prS intS intS))) a720)), none, none, none]) (s := a704.2) 5 sc__law_ring_right.nd (je_callS (O := h0O) 0 (fun s => s) (fun s u => u) (ok_law_turned T) T.g__law_turned T.F__law_turned.kp T.b__law_turned (Nat.le_of_ble_eq_true rfl) (jea_of (ja_cons (jn_bin oAdd ov_add (jn_var (E := intS) (a := a699) 2) (jn_bin oMul ov_mul jn_int (jn_var (E := intS) (a := a704.1) 3))) ja_nil)))) fun a728 =>
 JB.frz (i := 5) (o := (lstO (fun x => sh (intS x))) a728.1) (p := (lstS intS) a728.1) rfl ((fz_lst (fun _ => fz_sh)) _) (jb_cons (js_set 4 sc__law_ring_right.nd (jn_call (ok_law_renamed T) T.g__law_renamed T.F__law_renamed.kp T.b__law_renamed (Nat.le_of_ble_eq_true rfl) (ja_cons (jn_var (E := (prS intS (tupS (prS intS intS)))) (a := a720) 4) (ja_cons (jn_var (E := (lstS intS)) (a := a728.1) 5) ja_nil)))) fun a729 =>
 jb_cons (js_set 6 sc__law_ring_right.nd (list_rng T.m_list T.m_range (jn_bin oAdd ov_add (jn_var (E := intS) (a := a699) 2) (jn_bin oMul ov_mul jn_int (jn_var (E := intS) (a := a704.1) 3))))) fun a732 =>
 jb_cons (js_forS (Γl := fun s733 : (List Int) => [some (h0O a728.2), some (sh ((prS intS (tupS (prS intS intS))) a.1)), some (sh (intS a699)), some (sh (intS a704.1)), some (sh ((prS intS (tupS (prS intS intS))) a729)), some (sh ((lstS intS) a728.1)), some ((lstO (fun x => sh (intS x))) s733), none]) a732 (ji_rng1 T.m_range (jn_var (E := intS) (a := a704.1) 3)) (jg_name (E := intS) 7 sc__law_ring_right.nd) (weak_mask [true, true, true, true, true, true, true, false] _) (fun _ => all_lt rfl) fun x734 s735 =>
 jb_cons (js_setI (E := (fun x => sh (intS x))) 6 (jn_of (jr_ix oIxL iv_lstO (jr_var (R := (lstO (fun x => sh (intS x)))) (a := s735) 6) (jn_of (jr_ix oIxL iv_lst (jr_of (jn_var (E := (lstS intS)) (a := a728.1) 5)) (jn_bin oAdd ov_add (jn_var (E := intS) (a := a699) 2) (jn_bin oMul ov_mul jn_int (jn_bin oMod ov_mod (int_int T.m_int (jn_bin oAdd ov_add (jn_var (E := intS) (a := x734) 7) jn_int)) (jn_var (E := intS) (a := a704.1) 3)))))))) (jn_of (jr_ix oIxL iv_lst (jr_of (jn_var (E := (lstS intS)) (a := a728.1) 5)) (jn_bin oAdd ov_add (jn_bin oAdd ov_add (jn_var (E := intS) (a := a699) 2) (jn_bin oMul ov_mul jn_int (jn_var (E := intS) (a := x734) 7))) jn_int)))) fun a745 =>
 jb_nil (x := a745) rfl (weak_mask [true, true, true, true, true, true, true, false] _)) fun a747 =>
 jb_ifr (jt_w (jw_or (jt_cmp oNotN ov_notNO (jn_call (ok_quotient T) T.g_quotient T.F_quotient.kp T.b_quotient (Nat.le_of_ble_eq_true rfl) (ja_cons (jn_var (E := (prS intS (tupS (prS intS intS)))) (a := a729) 4) (ja_cons (tup_own T.m_tuple (jr_var (R := (lstO (fun x => sh (intS x)))) (a := a747) 6)) ja_nil))) jn_non) (jw_or1 (jt_cmp oNotN ov_notNO (jn_call0N (fun z => (z.2.1, z.1, ())) (ok_quotient T) T.g_quotient T.F_quotient.kp T.q0_quotient (by intro z B zs h; exact hets_s (vs := []) (ps := []) trivial h rfl) (by intro _; rfl) (Nat.le_of_ble_eq_true rfl) (jk_cons (tup_own T.m_tuple (jr_var (R := (lstO (fun x => sh (intS x)))) (a := a747) 6)) (jk_cons (jn_var (E := (prS intS (tupS (prS intS intS)))) (a := a729) 4) jk_nil))) jn_non)))) (jb_retS (R := (fun x => sh (boolS x))) (Δ := fun s => some (h0O s) :: nonC 7) (s := a728.2) (weak_mask [true, false, false, false, false, false, false, false] _) jn_bl) (fun _ => trivial)
 (jb_cons (js_setIE (E := intS) (Γ := fun s751 : ((List Int) × Int × Int × Int × Int × Int) => [some (h0O s751), some (sh ((prS intS (tupS (prS intS intS))) a.1)), some (sh (intS a699)), some (sh (intS a704.1)), some (sh ((prS intS (tupS (prS intS intS))) a729)), some (sh ((lstS intS) a728.1)), some ((lstO (fun x => sh (intS x))) a747), none]) (s := a728.2) 6 (fun _ => a747) (je_of (jn_bin oAdd ov_add (jn_var (E := intS) (a := a699) 2) (jn_bin oMul ov_mul jn_int (jn_var (E := intS) (a := a704.1) 3)))) fun s754 => (je_ix oIxL iv_lst (je_of (jn_var (E := (lstS intS)) (a := a728.1) 5)) fun s755 => (je_bin oAdd ov_add (je_bin oAdd ov_add (je_of (jn_var (E := intS) (a := a699) 2)) fun s756 => (je_bin oMul ov_mul (je_of jn_int) fun s757 => (je_callS (O := h0O) 0 (fun s => s) (fun s u => u) (ok_law_draw T) T.g__law_draw T.F__law_draw.kp T.b__law_draw (Nat.le_of_ble_eq_true rfl) (jea_of (ja_cons (jn_var (E := intS) (a := a704.1) 3) ja_nil))))) fun s762 => (je_of jn_int)))) fun a769 =>
 jb_retS (R := (fun x => sh (boolS x))) (Δ := fun s => some (h0O s) :: nonC 7) (s := a769.2) (weak_mask [true, false, false, false, false, false, false, false] _) (jn_call (ok_law_right T) T.g__law_right T.F__law_right.kp T.b__law_right (Nat.le_of_ble_eq_true rfl) (ja_cons (jn_var (E := (prS intS (tupS (prS intS intS)))) (a := a729) 4) (ja_cons (tup_own T.m_tuple (jr_var (R := (lstO (fun x => sh (intS x)))) (a := a769.1) 6)) ja_nil)))))) (by unfold M_law_ring_right; first | (dsimp only [CC.sb]; done) | (dsimp only [CC.sb]; rfl) | rfl)
def M_law (a : (List Int) × Unit) : Option Bool :=
 (M_law_start (a.1, ())).bind fun a28 => (((M_law_draw ((6 : Int), ()) a28).bind fun r67 => some (r67.1, r67.2)).bind fun q69 => some (decide (q69.1 = (0 : Int)), q69.2)).bind fun q776 => bif q776.1 then ((((M_law_draw ((65 : Int), ()) q776.2).bind fun r72 => some (r72.1, r72.2)).bind fun q74 => some ((q74.1, ()), q74.2)).bind fun q152 => (M_law_large q152.1 q152.2).bind fun r153 => some (r153.1, r153.2)).bind fun a154 => ((M_law_one ([(8 : Int), (20 : Int), (64 : Int)], ()) a154.2).bind fun r164 => some (r164.1, r164.2)).bind fun a165 => ((((((M_law_labels (a154.1.2, (a165.1, ())) a165.2).bind fun r344 => some (r344.1, r344.2)).bind fun q346 => some ((q346.1, ()), q346.2)).bind fun q347 => some ((a154.1.1, q347.1), q347.2)).bind fun q577 => (M_law_right q577.1).bind fun r578 => some (r578, q577.2)).bind fun q587 => bif q587.1 then ((((M_law_labels (a154.1.2, ((3 : Int), ())) q587.2).bind fun r581 => some (r581.1, r581.2)).bind fun q583 => some ((q583.1, ()), q583.2)).bind fun q584 => some ((a154.1.1, q584.1), q584.2)).bind fun q585 => (M_law_right q585.1).bind fun r586 => some (r586, q585.2) else some (false, q587.2)).bind fun q588 => some q588.1 else ((M_law_draw ((11 : Int), ()) q776.2).bind fun r590 => some (r590.1, r590.2)).bind fun a591 => ((((((M_law_draw ((3 : Int), ()) a591.2).bind fun r595 => some (r595.1, r595.2)).bind fun q596 => some ((2 : Int) + q596.1, q596.2)).bind fun q598 => some ((q598.1, ()), q598.2)).bind fun q599 => some ((a591.1, q599.1), q599.2)).bind fun q678 => (M_law_order q678.1 q678.2).bind fun r679 => some (r679.1, r679.2)).bind fun a680 => ((rng 0 (3 : Int)).bind fun x696 => loopGo (fun x682 s683 => ((((((M_law_labels (a680.1.2, ((10 : Int), ())) s683).bind fun r686 => some (r686.1, r686.2)).bind fun q688 => some ((q688.1, ()), q688.2)).bind fun q689 => some ((a680.1.1, q689.1), q689.2)).bind fun q690 => (M_law_right q690.1).bind fun r691 => some (r691, q690.2)).bind fun q692 => some (!q692.1, q692.2)).bind fun q695 => bif q695.1 then (some false).bind fun y694 => some (Out.rt y694) else some (Out.nx q695.2)) x696 a680.2).bind fun o774 => o774.k (fun a697 => ((M_law_ring_right (a680.1.1, ()) a697).bind fun r772 => some (r772.1, r772.2)).bind fun q773 => some q773.1) fun r775 => some ((fun r => r) r775)
theorem ok_law (T : Tx P K mg) : FnOk P w K mg base CX0 10 T.a_law T.d_law ["script"] (spP (fun a : (List Int) × Unit => [(scrS K) a.1]) M_law (fun x => sh (boolS x))) :=
 fnd_pure (Δ := nonC 7) T.F_law sc_law (fun _ => rfl) (by decide) fun a => JB.cong (
 jb_cons (js_set 1 sc_law.nd (jn_call (ok_law_start T) T.g__law_start T.F__law_start.kp T.b__law_start (Nat.le_of_ble_eq_true rfl) (ja_cons (jn_var (E := (scrS K)) (a := a.1) 0) ja_nil))) fun a28 =>
 jb_ifrE (Γ := fun s29 : ((List Int) × Int × Int × Int × Int × Int) => [some (sh ((scrS K) a.1)), some (h0O s29), none, none, none, none, none]) (s := a28) (jte_cmp oEq ov_eqI (je_callS (O := h0O) 1 (fun s => s) (fun s u => u) (ok_law_draw T) T.g__law_draw T.F__law_draw.kp T.b__law_draw (Nat.le_of_ble_eq_true rfl) (jea_of (ja_cons jn_int ja_nil))) fun s68 => (je_of jn_int)) (fun s70 => jb_cons (js_asgE (Γ := fun s71 : ((List Int) × Int × Int × Int × Int × Int) => [some (sh ((scrS K) a.1)), some (h0O s71), none, none, none, none, none]) (s := s70) (je_callS (O := h0O) 1 (fun s => s) (fun s u => u) (ok_law_large T) T.g__law_large T.F__law_large.kp T.b__law_large (Nat.le_of_ble_eq_true rfl) (jea_cons (je_callS (O := h0O) 1 (fun s => s) (fun s u => u) (ok_law_draw T) T.g__law_draw T.F__law_draw.kp T.b__law_draw (Nat.le_of_ble_eq_true rfl) (jea_of (ja_cons jn_int ja_nil))) fun s73 => jea_nil)) (jg_pair (E := (prS intS (tupS (prS intS intS)))) (G := (lstS intS)) 5 6 sc_law.nd) (fun _ => all_lt rfl)) fun a154 =>
 jb_cons (js_setE (Γ := fun s155 : ((List Int) × Int × Int × Int × Int × Int) => [some (sh ((scrS K) a.1)), some (h0O s155), none, none, none, some (sh ((prS intS (tupS (prS intS intS))) a154.1.1)), some (sh ((lstS intS) a154.1.2))]) (s := a154.2) 4 sc_law.nd (je_callS (O := h0O) 1 (fun s => s) (fun s u => u) (ok_law_one T) T.g__law_one T.F__law_one.kp T.b__law_one (Nat.le_of_ble_eq_true rfl) (jea_of (ja_cons (JN.frz (fz_lst (fun _ => fz_sh)) (jn_dispL (E := intS) (g := fun z => [z.1, z.2.1, z.2.2.1]) (ja_cons jn_int (ja_cons jn_int (ja_cons jn_int ja_nil))))) ja_nil)))) fun a165 =>
 JB.map (g := fun q => q.1) (jb_retE (R := (fun x => sh (boolS x))) (Γ := fun s166 : ((List Int) × Int × Int × Int × Int × Int) => [some (sh ((scrS K) a.1)), some (h0O s166), none, none, some (sh (intS a165.1)), some (sh ((prS intS (tupS (prS intS intS))) a154.1.1)), some (sh ((lstS intS) a154.1.2))]) (s := a165.2) (Δ := fun _ => nonC 7) (fun _ => weak_none _) (je_and (je_call (ok_law_right T) T.g__law_right T.F__law_right.kp T.b__law_right (Nat.le_of_ble_eq_true rfl) (jea_cons (je_of (jn_var (E := (prS intS (tupS (prS intS intS)))) (a := a154.1.1) 5)) fun s167 => (jea_cons (je_callS (O := h0O) 1 (fun s => s) (fun s u => u) (ok_law_labels T) T.g__law_labels T.F__law_labels.kp T.b__law_labels (Nat.le_of_ble_eq_true rfl) (jea_of (ja_cons (jn_var (E := (lstS intS)) (a := a154.1.2) 6) (ja_cons (jn_var (E := intS) (a := a165.1) 4) ja_nil)))) fun s345 => jea_nil))) fun s579 => (je_one (je_call (ok_law_right T) T.g__law_right T.F__law_right.kp T.b__law_right (Nat.le_of_ble_eq_true rfl) (jea_cons (je_of (jn_var (E := (prS intS (tupS (prS intS intS)))) (a := a154.1.1) 5)) fun s580 => (jea_cons (je_callS (O := h0O) 1 (fun s => s) (fun s u => u) (ok_law_labels T) T.g__law_labels T.F__law_labels.kp T.b__law_labels (Nat.le_of_ble_eq_true rfl) (jea_of (ja_cons (jn_var (E := (lstS intS)) (a := a154.1.2) 6) (ja_cons jn_int ja_nil)))) fun s582 => jea_nil)))))) (fun _ => rfl)) (fun _ => trivial) fun s70 =>
 jb_cons (js_setE (Γ := fun s589 : ((List Int) × Int × Int × Int × Int × Int) => [some (sh ((scrS K) a.1)), some (h0O s589), none, none, none, none, none]) (s := s70) 2 sc_law.nd (je_callS (O := h0O) 1 (fun s => s) (fun s u => u) (ok_law_draw T) T.g__law_draw T.F__law_draw.kp T.b__law_draw (Nat.le_of_ble_eq_true rfl) (jea_of (ja_cons jn_int ja_nil)))) fun a591 =>
 jb_cons (js_asgE (Γ := fun s592 : ((List Int) × Int × Int × Int × Int × Int) => [some (sh ((scrS K) a.1)), some (h0O s592), some (sh (intS a591.1)), none, none, none, none]) (s := a591.2) (je_callS (O := h0O) 1 (fun s => s) (fun s u => u) (ok_law_order T) T.g__law_order T.F__law_order.kp T.b__law_order (Nat.le_of_ble_eq_true rfl) (jea_cons (je_of (jn_var (E := intS) (a := a591.1) 2)) fun s593 => (jea_cons (je_bin oAdd ov_add (je_of jn_int) fun s594 => (je_callS (O := h0O) 1 (fun s => s) (fun s u => u) (ok_law_draw T) T.g__law_draw T.F__law_draw.kp T.b__law_draw (Nat.le_of_ble_eq_true rfl) (jea_of (ja_cons jn_int ja_nil)))) fun s597 => jea_nil))) (jg_pair (E := (prS intS (tupS (prS intS intS)))) (G := (lstS intS)) 5 6 sc_law.nd) (fun _ => all_lt rfl)) fun a680 =>
 jb_consO (Γl := fun s681 : ((List Int) × Int × Int × Int × Int × Int) => [some (sh ((scrS K) a.1)), some (h0O s681), some (sh (intS a591.1)), none, none, some (sh ((prS intS (tupS (prS intS intS))) a680.1.1)), some (sh ((lstS intS) a680.1.2))]) (T := fun r : Bool => Kd.rt (nonC 7) ((fun x => sh (boolS x)) r)) (fun r => r) (js_for (Γl := fun s681 : ((List Int) × Int × Int × Int × Int × Int) => [some (sh ((scrS K) a.1)), some (h0O s681), some (sh (intS a591.1)), none, none, some (sh ((prS intS (tupS (prS intS intS))) a680.1.1)), some (sh ((lstS intS) a680.1.2))]) (T := fun r : Bool => Kd.rt (nonC 7) ((fun x => sh (boolS x)) r)) a680.2 (ji_rng1 T.m_range jn_int) (jg_name (E := intS) 3 sc_law.nd) (weak_mask [true, true, true, false, false, true, true] _) (fun _ => all_lt rfl) (fun _ => ⟨trivial, nofun, nofun⟩) fun x682 s683 =>
 jb_ifxE (Γ := fun s684 : ((List Int) × Int × Int × Int × Int × Int) => [some (sh ((scrS K) a.1)), some (h0O s684), some (sh (intS a591.1)), some (sh (intS x682)), none, some (sh ((prS intS (tupS (prS intS intS))) a680.1.1)), some (sh ((lstS intS) a680.1.2))]) (s := s683) (D' := (fun r : Bool => Kd.rt (nonC 7) ((fun x => sh (boolS x)) r))) Out.rt (jte_not (jte_val (je_call (ok_law_right T) T.g__law_right T.F__law_right.kp T.b__law_right (Nat.le_of_ble_eq_true rfl) (jea_cons (je_of (jn_var (E := (prS intS (tupS (prS intS intS)))) (a := a680.1.1) 5)) fun s685 => (jea_cons (je_callS (O := h0O) 1 (fun s => s) (fun s u => u) (ok_law_labels T) T.g__law_labels T.F__law_labels.kp T.b__law_labels (Nat.le_of_ble_eq_true rfl) (jea_of (ja_cons (jn_var (E := (lstS intS)) (a := a680.1.2) 6) (ja_cons jn_int ja_nil)))) fun s687 => jea_nil))))) (fun s693 => jb_ret (weak_none _) jn_bl) (fun _ => rfl) (fun _ => trivial) fun s693 =>
 jb_nil (x := Out.nx s693) rfl (weak_mask [true, true, true, false, false, true, true] _)) (fun _ => rfl) (fun _ => trivial) fun a697 =>
 JB.map (g := fun q => q.1) (jb_retE (R := (fun x => sh (boolS x))) (Γ := fun s698 : ((List Int) × Int × Int × Int × Int × Int) => [some (sh ((scrS K) a.1)), some (h0O s698), some (sh (intS a591.1)), none, none, some (sh ((prS intS (tupS (prS intS intS))) a680.1.1)), some (sh ((lstS intS) a680.1.2))]) (s := a697) (Δ := fun _ => nonC 7) (fun _ => weak_none _) (je_callS (O := h0O) 1 (fun s => s) (fun s u => u) (ok_law_ring_right T) T.g__law_ring_right T.F__law_ring_right.kp T.b__law_ring_right (Nat.le_of_ble_eq_true rfl) (jea_of (ja_cons (jn_var (E := (prS intS (tupS (prS intS intS)))) (a := a680.1.1) 5) ja_nil)))) (fun _ => rfl)) (by unfold M_law; first | (dsimp only [CC.sb]; done) | (dsimp only [CC.sb]; rfl) | rfl)
end
def dd__law_mixed : He.DefD := ⟨("_law_mixed", none), "_law_mixed", "_law_mixed", defArgs s__law_mixed, defBody s__law_mixed, defScope s__law_mixed, [], []⟩
def dd__law_start : He.DefD := ⟨("_law_start", none), "_law_start", "_law_start", defArgs s__law_start, defBody s__law_start, defScope s__law_start, [], []⟩
def dd__law_draw : He.DefD := ⟨("_law_draw", none), "_law_draw", "_law_draw", defArgs s__law_draw, defBody s__law_draw, defScope s__law_draw, [], []⟩
def dd__law_turned : He.DefD := ⟨("_law_turned", none), "_law_turned", "_law_turned", defArgs s__law_turned, defBody s__law_turned, defScope s__law_turned, [], []⟩
def dd__law_renamed : He.DefD := ⟨("_law_renamed", none), "_law_renamed", "_law_renamed", defArgs s__law_renamed, defBody s__law_renamed, defScope s__law_renamed, [], []⟩
def dd__law_large : He.DefD := ⟨("_law_large", none), "_law_large", "_law_large", defArgs s__law_large, defBody s__law_large, defScope s__law_large, [], []⟩
def dd__law_one : He.DefD := ⟨("_law_one", none), "_law_one", "_law_one", defArgs s__law_one, defBody s__law_one, defScope s__law_one, [], []⟩
def dd__law_labels : He.DefD := ⟨("_law_labels", none), "_law_labels", "_law_labels", defArgs s__law_labels, defBody s__law_labels, defScope s__law_labels, [], []⟩
def dd__law_classes : He.DefD := ⟨("_law_classes", none), "_law_classes", "_law_classes", defArgs s__law_classes, defBody s__law_classes, defScope s__law_classes, [], []⟩
def dd__law_quotient : He.DefD := ⟨("_law_quotient", none), "_law_quotient", "_law_quotient", defArgs s__law_quotient, defBody s__law_quotient, defScope s__law_quotient, [], []⟩
def dd__is_link : He.DefD := ⟨("_is_link", none), "_is_link", "_is_link", defArgs s__is_link, defBody s__is_link, defScope s__is_link, [], []⟩
def dd_high_masks : He.DefD := ⟨("high_masks", none), "high_masks", "high_masks", defArgs s_high_masks, defBody s_high_masks, defScope s_high_masks, [], []⟩
def dd__ways : He.DefD := ⟨("_ways", none), "_ways", "_ways", defArgs s__ways, defBody s__ways, defScope s__ways, [], []⟩
def dd_points_in : He.DefD := ⟨("points_in", none), "points_in", "points_in", defArgs s_points_in, defBody s_points_in, defScope s_points_in, [], []⟩
def dd_order_of : He.DefD := ⟨("order_of", none), "order_of", "order_of", defArgs s_order_of, defBody s_order_of, defScope s_order_of, [], []⟩
def dd_quotient : He.DefD := ⟨("quotient", none), "quotient", "quotient", defArgs s_quotient, defBody s_quotient, defScope s_quotient, [], []⟩
def dd__law_same : He.DefD := ⟨("_law_same", none), "_law_same", "_law_same", defArgs s__law_same, defBody s__law_same, defScope s__law_same, [], []⟩
def dd__law_right : He.DefD := ⟨("_law_right", none), "_law_right", "_law_right", defArgs s__law_right, defBody s__law_right, defScope s__law_right, [], []⟩
def dd__law_order : He.DefD := ⟨("_law_order", none), "_law_order", "_law_order", defArgs s__law_order, defBody s__law_order, defScope s__law_order, [], []⟩
def dd__law_ring_right : He.DefD := ⟨("_law_ring_right", none), "_law_ring_right", "_law_ring_right", defArgs s__law_ring_right, defBody s__law_ring_right, defScope s__law_ring_right, [], []⟩
def dd_law : He.DefD := ⟨("law", none), "law", "law", defArgs s_law, defBody s_law, defScope s_law, [], []⟩
def mo : List Tst := [tSup fl_ sd_RingFound]
def fn : List He.DefD := ([dd__law_mixed, dd__law_start, dd__law_draw, dd__law_turned, dd__law_renamed, dd__law_large, dd__law_one, dd__law_labels, dd__law_classes, dd__law_quotient, dd__is_link, dd_high_masks, dd__ways, dd_points_in, dd_order_of, dd_quotient, dd__law_same, dd__law_right, dd__law_order, dd__law_ring_right, dd_law] : List He.DefD)
def fa : List He.Fa := ([.glo "_law_mixed", .glo "_law_start", .glo "_law_draw", .glo "_law_turned", .glo "_law_renamed", .glo "_law_large", .glo "_law_one", .glo "_law_labels", .glo "_law_classes", .glo "_law_quotient", .glo "_is_link", .glo "high_masks", .glo "_ways", .glo "points_in", .glo "order_of", .glo "quotient", .glo "_law_same", .glo "_law_right", .glo "_law_order", .glo "_law_ring_right", .glo "law", .free "list", .free "len", .free "int", .free "abs", .free "range", .free "tuple", .free "sorted", .free "min", .free "max"] : List He.Fa) ++ ([.free "super", .free "enumerate", .free "isinstance", .free "bool", .glo "RingFound", .noat "RingFound" "points", .exm "RingFound" "RingFound" true] : List He.Fa)
abbrev rw_ : PySem.W.OpenRow := PySem.W.OpenLaw.row PySem.Challenge.rw_chaincore_k31_quotients
def sps : List SupD := [sd_RingFound]
abbrev hk : PySem.W.Hook := hookY 5 mo fa fn sps
def ob (s : PySem.W.SharedT) : AlY := obsYG 5 mo fa fn sps (HandSHeadRun.getT s)
theorem ob_eq (s : PySem.W.SharedT) : ob s = hk.obs s.abs := obsYG_eq (HandSHeadRun.getT_eq s)
def loose : List Str := (["StrikeError", "BadOrder", "RingFound", "points_in", "high_masks", "_is_link", "_ways", "order_of", "quotient", "_law_mixed", "_law_start", "_law_draw", "_law_one", "_law_turned", "_law_same", "_law_order", "_law_renamed", "_law_large", "_law_classes", "_law_quotient", "_law_labels", "_law_right", "_law_ring_right"] : List Str)
theorem run (w : World) : HandSHeadRun.RunEq rw_ (PySem.W.view rw_.prog [27]) hk ob 3180 loose w := by
  intro os
  kernel_rfl
theorem facts {P : Program} {w : World} {K : PySem.W.Frag} {h : Heap} {mg : Str → Option Value} {f : Addr} (X : K.In h) (G : h.Ns mainGlobals mg) (hfa : mg ("law" : Str) = some (.ref f)) (hPF : PF P fl_) (c0y : SaysY mo fa fn sps K) :
    ∃ fd : FuncData, (∀ (s : Shared) (v : Value), BindsTo s fd ⟨[v], []⟩ [("script", v)]) ∧ ∀ base : Heap, K.In base → base.Ns mainGlobals mg → FnOk P w K mg base CX0 10 f fd ["script"] (spP (fun a : List Int × Unit => [scrS K a.1]) M_law fun b => sh (boolS b)) := by
  have c0 := c0y.x
  have c : He.SaysD fa fn K := c0.d
  obtain ⟨fd__law_mixed, F__law_mixed⟩ := c.def_ 0 (d := dd__law_mixed) rfl
  obtain ⟨fd__law_start, F__law_start⟩ := c.def_ 1 (d := dd__law_start) rfl
  obtain ⟨fd__law_draw, F__law_draw⟩ := c.def_ 2 (d := dd__law_draw) rfl
  obtain ⟨fd__law_turned, F__law_turned⟩ := c.def_ 3 (d := dd__law_turned) rfl
  obtain ⟨fd__law_renamed, F__law_renamed⟩ := c.def_ 4 (d := dd__law_renamed) rfl
  obtain ⟨fd__law_large, F__law_large⟩ := c.def_ 5 (d := dd__law_large) rfl
  obtain ⟨fd__law_one, F__law_one⟩ := c.def_ 6 (d := dd__law_one) rfl
  obtain ⟨fd__law_labels, F__law_labels⟩ := c.def_ 7 (d := dd__law_labels) rfl
  obtain ⟨fd__law_classes, F__law_classes⟩ := c.def_ 8 (d := dd__law_classes) rfl
  obtain ⟨fd__law_quotient, F__law_quotient⟩ := c.def_ 9 (d := dd__law_quotient) rfl
  obtain ⟨fd__is_link, F__is_link⟩ := c.def_ 10 (d := dd__is_link) rfl
  obtain ⟨fd_high_masks, F_high_masks⟩ := c.def_ 11 (d := dd_high_masks) rfl
  obtain ⟨fd__ways, F__ways⟩ := c.def_ 12 (d := dd__ways) rfl
  obtain ⟨fd_points_in, F_points_in⟩ := c.def_ 13 (d := dd_points_in) rfl
  obtain ⟨fd_order_of, F_order_of⟩ := c.def_ 14 (d := dd_order_of) rfl
  obtain ⟨fd_quotient, F_quotient⟩ := c.def_ 15 (d := dd_quotient) rfl
  obtain ⟨fd__law_same, F__law_same⟩ := c.def_ 16 (d := dd__law_same) rfl
  obtain ⟨fd__law_right, F__law_right⟩ := c.def_ 17 (d := dd__law_right) rfl
  obtain ⟨fd__law_order, F__law_order⟩ := c.def_ 18 (d := dd__law_order) rfl
  obtain ⟨fd__law_ring_right, F__law_ring_right⟩ := c.def_ 19 (d := dd__law_ring_right) rfl
  obtain ⟨fd_law, F_law⟩ := c.def_ 20 (d := dd_law) rfl
  have T : Tx P K mg := { a__law_mixed := _, d__law_mixed := fd__law_mixed, F__law_mixed := F__law_mixed, b__law_mixed := FunD.bindsN F__law_mixed (fun _ _ _ _ _ _ us hl => match us, hl with | [_, _], _ => rfl), g__law_mixed := He.glo_ok X G (c.fact 0 (f := .glo "_law_mixed") rfl), a__law_start := _, d__law_start := fd__law_start, F__law_start := F__law_start, b__law_start := FunD.bindsN F__law_start (fun _ _ _ _ _ _ us hl => match us, hl with | [_], _ => rfl), g__law_start := He.glo_ok X G (c.fact 1 (f := .glo "_law_start") rfl), a__law_draw := _, d__law_draw := fd__law_draw, F__law_draw := F__law_draw, b__law_draw := FunD.bindsN F__law_draw (fun _ _ _ _ _ _ us hl => match us, hl with | [_, _], _ => rfl), g__law_draw := He.glo_ok X G (c.fact 2 (f := .glo "_law_draw") rfl), a__law_turned := _, d__law_turned := fd__law_turned, F__law_turned := F__law_turned, b__law_turned := FunD.bindsN F__law_turned (fun _ _ _ _ _ _ us hl => match us, hl with | [_, _], _ => rfl), g__law_turned := He.glo_ok X G (c.fact 3 (f := .glo "_law_turned") rfl), a__law_renamed := _, d__law_renamed := fd__law_renamed, F__law_renamed := F__law_renamed, b__law_renamed := FunD.bindsN F__law_renamed (fun _ _ _ _ _ _ us hl => match us, hl with | [_, _], _ => rfl), g__law_renamed := He.glo_ok X G (c.fact 4 (f := .glo "_law_renamed") rfl), a__law_large := _, d__law_large := fd__law_large, F__law_large := F__law_large, b__law_large := FunD.bindsN F__law_large (fun _ _ _ _ _ _ us hl => match us, hl with | [_, _], _ => rfl), g__law_large := He.glo_ok X G (c.fact 5 (f := .glo "_law_large") rfl), a__law_one := _, d__law_one := fd__law_one, F__law_one := F__law_one, b__law_one := FunD.bindsN F__law_one (fun _ _ _ _ _ _ us hl => match us, hl with | [_, _], _ => rfl), g__law_one := He.glo_ok X G (c.fact 6 (f := .glo "_law_one") rfl), a__law_labels := _, d__law_labels := fd__law_labels, F__law_labels := F__law_labels, b__law_labels := FunD.bindsN F__law_labels (fun _ _ _ _ _ _ us hl => match us, hl with | [_, _, _], _ => rfl), g__law_labels := He.glo_ok X G (c.fact 7 (f := .glo "_law_labels") rfl), a__law_classes := _, d__law_classes := fd__law_classes, F__law_classes := F__law_classes, b__law_classes := FunD.bindsN F__law_classes (fun _ _ _ _ _ _ us hl => match us, hl with | [_], _ => rfl), g__law_classes := He.glo_ok X G (c.fact 8 (f := .glo "_law_classes") rfl), a__law_quotient := _, d__law_quotient := fd__law_quotient, F__law_quotient := F__law_quotient, b__law_quotient := FunD.bindsN F__law_quotient (fun _ _ _ _ _ _ us hl => match us, hl with | [_, _], _ => rfl), g__law_quotient := He.glo_ok X G (c.fact 9 (f := .glo "_law_quotient") rfl), a__is_link := _, d__is_link := fd__is_link, F__is_link := F__is_link, b__is_link := FunD.bindsN F__is_link (fun _ _ _ _ _ _ us hl => match us, hl with | [_, _], _ => rfl), g__is_link := He.glo_ok X G (c.fact 10 (f := .glo "_is_link") rfl), a_high_masks := _, d_high_masks := fd_high_masks, F_high_masks := F_high_masks, b_high_masks := FunD.bindsN F_high_masks (fun _ _ _ _ _ _ us hl => match us, hl with | [_], _ => rfl), g_high_masks := He.glo_ok X G (c.fact 11 (f := .glo "high_masks") rfl), a__ways := _, d__ways := fd__ways, F__ways := F__ways, b__ways := FunD.bindsN F__ways (fun _ _ _ _ _ _ us hl => match us, hl with | [_, _], _ => rfl), g__ways := He.glo_ok X G (c.fact 12 (f := .glo "_ways") rfl), a_points_in := _, d_points_in := fd_points_in, F_points_in := F_points_in, b_points_in := FunD.bindsN F_points_in (fun _ _ _ _ _ _ us hl => match us, hl with | [_], _ => rfl), g_points_in := He.glo_ok X G (c.fact 13 (f := .glo "points_in") rfl), a_order_of := _, d_order_of := fd_order_of, F_order_of := F_order_of, b_order_of := FunD.bindsN F_order_of (fun _ _ _ _ _ _ us hl => match us, hl with | [_, _], _ => rfl), g_order_of := He.glo_ok X G (c.fact 14 (f := .glo "order_of") rfl), a_quotient := _, d_quotient := fd_quotient, F_quotient := F_quotient, b_quotient := FunD.bindsN F_quotient (fun _ _ _ _ _ _ us hl => match us, hl with | [_, _], _ => rfl), q0_quotient := kb_plain F_quotient 0 ["labels", "order"] [1, 0] (fun _ _ _ _ _ _ us ws l1 l2 => match us, l1, ws, l2 with | [], _, [_, _], _ => rfl), g_quotient := He.glo_ok X G (c.fact 15 (f := .glo "quotient") rfl), a__law_same := _, d__law_same := fd__law_same, F__law_same := F__law_same, b__law_same := FunD.bindsN F__law_same (fun _ _ _ _ _ _ us hl => match us, hl with | [_, _], _ => rfl), g__law_same := He.glo_ok X G (c.fact 16 (f := .glo "_law_same") rfl), a__law_right := _, d__law_right := fd__law_right, F__law_right := F__law_right, b__law_right := FunD.bindsN F__law_right (fun _ _ _ _ _ _ us hl => match us, hl with | [_, _], _ => rfl), g__law_right := He.glo_ok X G (c.fact 17 (f := .glo "_law_right") rfl), a__law_order := _, d__law_order := fd__law_order, F__law_order := F__law_order, b__law_order := FunD.bindsN F__law_order (fun _ _ _ _ _ _ us hl => match us, hl with | [_, _, _], _ => rfl), g__law_order := He.glo_ok X G (c.fact 18 (f := .glo "_law_order") rfl), a__law_ring_right := _, d__law_ring_right := fd__law_ring_right, F__law_ring_right := F__law_ring_right, b__law_ring_right := FunD.bindsN F__law_ring_right (fun _ _ _ _ _ _ us hl => match us, hl with | [_, _], _ => rfl), g__law_ring_right := He.glo_ok X G (c.fact 19 (f := .glo "_law_ring_right") rfl), a_law := _, d_law := fd_law, F_law := F_law, b_law := FunD.bindsN F_law (fun _ _ _ _ _ _ us hl => match us, hl with | [_], _ => rfl), g_law := He.glo_ok X G (c.fact 20 (f := .glo "law") rfl), m_list := He.free_ok X G (c.fact 21 (f := .free "list") rfl), m_len := He.free_ok X G (c.fact 22 (f := .free "len") rfl), m_int := He.free_ok X G (c.fact 23 (f := .free "int") rfl), m_abs := He.free_ok X G (c.fact 24 (f := .free "abs") rfl), m_range := He.free_ok X G (c.fact 25 (f := .free "range") rfl), m_tuple := He.free_ok X G (c.fact 26 (f := .free "tuple") rfl), m_sorted := He.free_ok X G (c.fact 27 (f := .free "sorted") rfl), m_min := He.free_ok X G (c.fact 28 (f := .free "min") rfl), m_max := He.free_ok X G (c.fact 29 (f := .free "max") rfl), m_super := He.free_ok X G (c.fact 30 (f := .free "super") rfl), m_enumerate := He.free_ok X G (c.fact 31 (f := .free "enumerate") rfl), m_isinstance := He.free_ok X G (c.fact 32 (f := .free "isinstance") rfl), m_bool := He.free_ok X G (c.fact 33 (f := .free "bool") rfl), g_RingFound := He.glo_ok X G (c.fact 34 (f := .glo "RingFound") rfl), no_RingFound_points := He.eqO_ok (c.fact 35 (f := .noat "RingFound" "points") rfl), s_RingFound := supF_ok (c0y.s 0 (d := sd_RingFound)) (c0.t 0 (f := tSup fl_ sd_RingFound)), pf := hPF, h_RingFound_RingFound := He.exm_ok (c.fact 36 (f := .exm "RingFound" "RingFound" true) rfl) }
  have e := hfa.symm.trans T.g_law
  cases e
  have b := FunD.bindsA (ps := ["script"]) T.F_law fun _ _ _ _ _ _ us hl => match us, hl with | [_], _ => rfl
  exact ⟨T.d_law, fun s v => b s [v] rfl, fun base _ _ => ok_law T⟩
end K31
set_option maxHeartbeats 1000000
namespace K31
open PySem PySem.Spec L2 CC
open PyProof.Rows hiding St
theorem points_ok {n m : Nat} (hn : n ≤ 1000) (hm : ∀ y, m.testBit y = true → y < n) : M_points_in ((m : Int), ()) = some (bitsL n m) := by
  unfold M_points_in
  refine Ok.eq_some (.bind (whileF_ok (P := fun s => s.2 = bitsL n m) (fun s => ∃ k : Nat, s.1 = (k : Int) ∧ (∀ y, k.testBit y = true → y < n) ∧ s.2 ++ bitsL n k = bitsL n m) (fun s => (bitsL n s.1.toNat).length) (fun s ⟨k, hk, hb, hs⟩ => ?_) ⟨m, rfl, hm, rfl⟩ ?_) fun s hs => .one hs)
  · have := bitsL_len n ((m : Int)).toNat
    show (bitsL n ((m : Int)).toNat).length < _
    omega
  · refine .one ⟨fun hb' => ?_, fun hb' => ?_⟩
    · have hpos : 0 < k := by
        rw [hk] at hb'
        simp only [bne_iff_ne, ne_eq] at hb'
        omega
      obtain ⟨j, a, e⟩ := low_form k hpos
      have hj : j < n := hb j (by rw [e, low_bit]; simp)
      have hl := bitsL_low (a := a) hj
      have hsl : s.2.length + (bitsL n k).length ≤ n := by
        rw [← List.length_append, hs]
        exact bitsL_len n m
      rw [hk, e, bAnd_low, bitLen_pow]
      rw [e, hl, List.length_cons] at hsl
      rw [appM_eq (by omega)]
      have e3 : ((2 ^ j * (2 * a + 1) : Nat) : Int) - ((2 ^ j : Nat) : Int) = ((2 ^ j * (2 * a + 1) - 2 ^ j : Nat) : Int) := by
        have : 2 ^ j ≤ 2 ^ j * (2 * a + 1) := Nat.le_mul_of_pos_right _ (by omega)
        omega
      rw [sb, e3]
      refine .one ⟨⟨_, rfl, fun y hy => hb y ?_, ?_⟩, ?_⟩
      · rw [e, low_bit]
        rw [low_rest, Bool.and_eq_true, decide_eq_true_eq] at hy
        simp [show j ≤ y by omega, hy.2]
      · rw [← hs, e, hl, List.append_assoc]
        congr 1
        show [((j : Int) + 1 - 1)] ++ _ = _
        rw [show ((j : Int) + 1 - 1) = j by omega]
        rfl
      · show (bitsL n ((2 ^ j * (2 * a + 1) - 2 ^ j : Nat) : Int).toNat).length < (bitsL n ((2 ^ j * (2 * a + 1) : Nat) : Int).toNat).length
        rw [Int.toNat_natCast, Int.toNat_natCast, hl, List.length_cons]
        exact Nat.lt_succ_self _
    · have : k = 0 := by
        rw [hk] at hb'
        have h0 : (k : Int) = 0 := by simpa using hb'
        omega
      subst this
      rw [bitsL_zero, List.append_nil] at hs
      exact hs
theorem high_ok {n : Nat} {ps : List (Int × Int)} {r : Nat → Nat → Bool} (hn : n ≤ 64) (hb : ∀ p ∈ ps, ∃ x y : Nat, p = ((x : Int), (y : Int)) ∧ x < n ∧ y < n) (hr : ∀ x y : Nat, ((x : Int), (y : Int)) ∈ ps ↔ r x y = true) : Ok (M_high_masks (((n : Int), ps), ())) fun L => Msk n L r := by
  unfold M_high_masks
  rw [show repM [(0 : Int)] ((((n : Int), ps), ()).1.1 : Int) = some (List.replicate n 0) from repM_one (by omega), sb, bind_id]
  refine (fold_ok (fun pre (L : List Int) => Msk n L fun x y => decide (((x : Int), (y : Int)) ∈ pre)) ?_ fun pre p L hp hL => ?_).mono fun L hL => hL.congr fun x y _ => ?_
  · exact (Msk.zero n).congr fun x y _ => by simp
  · obtain ⟨x, y, rfl, hx, hy⟩ := hb p hp
    obtain ⟨m, h1, h2⟩ := hL.look x hx
    simp only [h1, sb, shl_one (show y ≤ 1000000 by omega), bOr_nat, bind_id]
    obtain ⟨k1, k2⟩ := hL.set (m := m ||| 2 ^ y) hx
    refine .of_eq k1 (k2.congr fun i j _ => ?_)
    by_cases e : i = x
    · subst e
      rw [if_pos rfl, Nat.testBit_or, h2, Nat.testBit_two_pow]
      simp only [List.mem_append, List.mem_singleton, Prod.mk.injEq, true_and]
      by_cases q : y = j
      · subst q; simp
      · have : ¬ ((j : Int) = (y : Int)) := by omega
        simp [this, q]
    · rw [if_neg e]
      have : ¬ ((i : Int) = (x : Int)) := by omega
      simp [this]
  · have := hr x y
    cases e : r x y with
    | true => exact decide_eq_true (this.mpr e)
    | false => exact decide_eq_false fun h => by rw [this.mp h] at e; cases e
/-! ### tables -/
structure T2 (n : Nat) (t : List (List Bool)) (r : Nat → Nat → Bool) : Prop where
  sq : Sq n t
  gt : ∀ x y, x < n → y < n → gt t x y = r x y
theorem T2.congr {n : Nat} {t : List (List Bool)} {r r' : Nat → Nat → Bool} (h : T2 n t r) (e : ∀ x y, x < n → y < n → r x y = r' x y) : T2 n t r' := ⟨h.sq, fun x y hx hy => by rw [h.gt x y hx hy, e x y hx hy]⟩
theorem T2.look {n : Nat} {t : List (List Bool)} {r : Nat → Nat → Bool} (h : T2 n t r) {x : Nat} (hx : x < n) : ∃ row, atI t (x : Int) = some row ∧ row.length = n ∧ ∀ y : Nat, y < n → atI row (y : Int) = some (r x y) := by
  obtain ⟨q, q1, q0, q2⟩ := h.sq.look hx
  exact ⟨q, q1, q0, fun y hy => by rw [q2 y hy, h.gt x y hx hy]⟩
theorem gt_of {t : List (List Bool)} {x y : Nat} {row : List Bool} {b : Bool} (h1 : t[x]? = some row) (h2 : row[y]? = some b) : gt t x y = b := by
  unfold CC.gt
  rw [h1]
  show (row[y]?).getD false = b
  rw [h2]
  rfl
theorem T2.mk' {n : Nat} {t : List (List Bool)} {r : Nat → Nat → Bool} (hl : t.length = n) (h : ∀ x row, t[x]? = some row → row.length = n ∧ ∀ y, y < n → row[y]? = some (r x y)) : T2 n t r := by
  refine ⟨⟨hl, fun row hr => ?_⟩, fun x y hx hy => ?_⟩
  · obtain ⟨x, hx⟩ := List.mem_iff_getElem?.mp hr
    exact (h x row hx).1
  · have hx' : x < t.length := by omega
    exact gt_of (List.getElem?_eq_getElem hx') ((h x _ (List.getElem?_eq_getElem hx')).2 y hy)
theorem T2.setRow {n : Nat} {t : List (List Bool)} {r : Nat → Nat → Bool} (h : T2 n t r) {x : Nat} (hx : x < n) {f : Nat → Bool} {row : List Bool} (hl : row.length = n) (hr : ∀ y, y < n → row[y]? = some (f y)) : setAt t (x : Int) row = some (t.set x row) ∧ T2 n (t.set x row) fun a b => if a = x then f b else r a b := by
  obtain ⟨s1, s2⟩ := h.sq.setRow hx hl
  refine ⟨s1, s2, fun a b ha hb => ?_⟩
  have hx' : x < t.length := by rw [h.sq.len]; exact hx
  by_cases e : a = x
  · subst e
    rw [if_pos rfl]
    exact gt_of (List.getElem?_set_self hx') (hr b hb)
  · rw [if_neg e, ← h.gt a b ha hb]
    unfold CC.gt
    rw [List.getElem?_set_ne (fun q => e q.symm)]
theorem T2.new {n : Nat} (hn : n ≤ 1000000) : Ok (mapM (fun _ : Int => repM [false] (n : Int)) (rl n)) fun t => T2 n t fun _ _ => false := by
  rw [mapM_is (g := fun _ => List.replicate n false) (by rw [rl_len]; exact hn) fun x _ => repM_one hn]
  refine .one (T2.mk' (by rw [List.length_map, rl_len]) fun x row hx => ?_)
  rw [List.getElem?_map] at hx
  have e : row = List.replicate n false := by
    cases q : (rl n)[x]? with
    | none => rw [q] at hx; cases hx
    | some z => rw [q] at hx; exact (Option.some.inj hx).symm
  subst e
  exact ⟨List.length_replicate, fun y hy => by rw [List.getElem?_replicate, if_pos hy]⟩
/-! ### one middle after the other -/
def stp (m : Nat) (R : Nat → Nat → Bool) (x y : Nat) : Bool := R x y || (R x m && R m y)
def fw : Nat → (Nat → Nat → Bool) → Nat → Nat → Bool
  | 0, R => R
  | m + 1, R => stp m (fw m R)
theorem fw_sub {R : Nat → Nat → Bool} {x y : Nat} (h : R x y = true) : ∀ k, fw k R x y = true
  | 0 => h
  | k + 1 => by
    show (fw k R x y || _) = true
    rw [fw_sub h k]
    rfl
theorem fw_tr {R : Nat → Nat → Bool} : ∀ (k z : Nat), z < k → ∀ x y, fw k R x z = true → fw k R z y = true → fw k R x y = true
  | 0, z, hz, _, _, _, _ => absurd hz (Nat.not_lt_zero _)
  | k + 1, z, hz, x, y, e1, e2 => by
    have ih := fw_tr (R := R) k
    show stp k (fw k R) x y = true
    have e1 : stp k (fw k R) x z = true := e1
    have e2 : stp k (fw k R) z y = true := e2
    unfold stp at e1 e2 ⊢
    simp only [Bool.or_eq_true, Bool.and_eq_true] at e1 e2 ⊢
    by_cases ew : z = k
    · subst ew
      have g1 : fw z R x z = true := by
        rcases e1 with e1 | e1
        · exact e1
        · exact e1.1
      have g2 : fw z R z y = true := by
        rcases e2 with e2 | e2
        · exact e2
        · exact e2.2
      exact .inr ⟨g1, g2⟩
    · have hw : z < k := by omega
      rcases e1 with e1 | ⟨e1, f1⟩ <;> rcases e2 with e2 | ⟨e2, f2⟩
      · exact .inl (ih z hw x y e1 e2)
      · exact .inr ⟨ih z hw x k e1 e2, f2⟩
      · exact .inr ⟨e1, ih z hw k y f1 e2⟩
      · exact .inr ⟨e1, f2⟩
theorem fw_lo {n : Nat} {R : Nat → Nat → Bool} (h : ∀ x y, R x y = true → x < n ∧ y < n) : ∀ (k : Nat) x y, fw k R x y = true → x < n ∧ y < n
  | 0, x, y, e => h x y e
  | k + 1, x, y, e => by
    have e : stp k (fw k R) x y = true := e
    unfold stp at e
    simp only [Bool.or_eq_true, Bool.and_eq_true] at e
    rcases e with e | ⟨e1, e2⟩
    · exact fw_lo h k x y e
    · exact ⟨(fw_lo h k _ _ e1).1, (fw_lo h k _ _ e2).2⟩
/-! ### numbers by first sight -/
def dd (l : List Int) : List Int := l.foldl (fun F y => if y ∈ F then F else F ++ [y]) []
theorem dd_snoc (l : List Int) (x : Int) : dd (l ++ [x]) = if x ∈ dd l then dd l else dd l ++ [x] := by
  unfold dd
  rw [List.foldl_append]
  rfl
theorem snoc_ind {P : List Int → Prop} (h0 : P []) (hs : ∀ l x, P l → P (l ++ [x])) (l : List Int) : P l := by
  have : ∀ m : List Int, P m.reverse := by
    intro m
    induction m with
    | nil => exact h0
    | cons a m ih => rw [List.reverse_cons]; exact hs _ _ ih
  have := this l.reverse
  rwa [List.reverse_reverse] at this
theorem dd_mem (l : List Int) : ∀ y, y ∈ dd l ↔ y ∈ l := by
  refine snoc_ind (P := fun l => ∀ y, y ∈ dd l ↔ y ∈ l) (fun y => by simp [dd]) (fun l x ih y => ?_) l
  rw [dd_snoc, List.mem_append, List.mem_singleton]
  split
  · rename_i h
    rw [ih]
    constructor
    · exact .inl
    · rintro (q | q)
      · exact q
      · rw [q, ← ih]; exact h
  · rw [List.mem_append, List.mem_singleton, ih]
theorem dd_len (l : List Int) : (dd l).length ≤ l.length := by
  refine snoc_ind (P := fun l => (dd l).length ≤ l.length) (Nat.le_refl _) (fun l x ih => ?_) l
  rw [dd_snoc, List.length_append, List.length_singleton]
  split
  · omega
  · rw [List.length_append, List.length_singleton]; omega
theorem idx_app {F G : List Int} {y : Int} : y ∈ F → (F ++ G).idxOf y = F.idxOf y := by
  induction F with
  | nil => intro h; cases h
  | cons a F ih =>
    intro h
    rw [List.cons_append, List.idxOf_cons, List.idxOf_cons]
    by_cases e : a = y
    · subst e
      rw [beq_self_eq_true]
      rfl
    · rw [beq_eq_false_iff_ne.mpr e]
      show (F ++ G).idxOf y + 1 = F.idxOf y + 1
      rw [ih ((List.mem_cons.mp h).resolve_left fun z => e z.symm)]
theorem idx_new {F : List Int} {y : Int} : y ∉ F → (F ++ [y]).idxOf y = F.length := by
  induction F with
  | nil => intro _; simp
  | cons a F ih =>
    intro h
    rw [List.cons_append, List.idxOf_cons]
    have e : ¬ a = y := fun z => h (by rw [z]; exact List.mem_cons_self)
    rw [beq_eq_false_iff_ne.mpr e]
    show (F ++ [y]).idxOf y + 1 = F.length + 1
    rw [ih fun z => h (List.mem_cons_of_mem _ z)]
/-- the classes of the labels -/
def cls (l : List Int) : List Int := l.map fun y => ((dd l).idxOf y : Int)
theorem cls_snoc (l : List Int) (x : Int) : cls (l ++ [x]) = cls l ++ [((dd (l ++ [x])).idxOf x : Int)] := by
  unfold cls
  rw [List.map_append]
  congr 1
  refine List.map_congr_left fun y hy => ?_
  rw [dd_snoc]
  split
  · rfl
  · rw [idx_app ((dd_mem l y).mpr hy)]
end K31
set_option maxHeartbeats 1000000
namespace K31
open PySem PySem.Spec L2 CC
open PyProof.Rows hiding St
def Bd (n : Nat) (p : Int × Int) : Prop := ∃ x y : Nat, p = ((x : Int), (y : Int)) ∧ x < n ∧ y < n
/-- the class of a point -/
def cl (l : List Int) (x : Nat) : Nat := (dd l).idxOf (l[x]?.getD 0)
theorem cl_at {l : List Int} {x : Nat} (h : x < l.length) : atI (cls l) (x : Int) = some (cl l x : Int) := by
  refine atI_nat? ?_
  unfold cls cl
  rw [List.getElem?_map, List.getElem?_eq_getElem h]
  rfl
theorem cl_lt {l : List Int} {x : Nat} (h : x < l.length) : cl l x < (dd l).length := by
  unfold cl
  rw [List.getElem?_eq_getElem h]
  exact List.idxOf_lt_length_iff.mpr ((dd_mem l _).mpr (List.getElem_mem h))
theorem cl_eq {l : List Int} {x y : Nat} (hx : x < l.length) (hy : y < l.length) (h : l[x] = l[y]) : cl l x = cl l y := by
  unfold cl
  rw [List.getElem?_eq_getElem hx, List.getElem?_eq_getElem hy, Option.getD_some, Option.getD_some, h]
theorem cl_ne {l : List Int} {x y : Nat} (hx : x < l.length) (hy : y < l.length) (h : l[x] ≠ l[y]) : cl l x ≠ cl l y := by
  unfold cl
  rw [List.getElem?_eq_getElem hx, List.getElem?_eq_getElem hy, Option.getD_some, Option.getD_some]
  intro e
  have h1 := List.idxOf_lt_length_iff.mpr ((dd_mem l _).mpr (List.getElem_mem hx))
  have h2 := List.idxOf_lt_length_iff.mpr ((dd_mem l _).mpr (List.getElem_mem hy))
  have e1 := List.getElem_idxOf h1
  have e2 := List.getElem_idxOf h2
  refine h (e1.symm.trans (Eq.trans ?_ e2))
  congr 1
/-- links between classes -/
def R0 (ps : List (Int × Int)) (l : List Int) (a b : Nat) : Bool := ps.any fun p => decide (cl l p.1.toNat = a ∧ cl l p.2.toNat = b ∧ a ≠ b)
theorem R0_snoc (ps : List (Int × Int)) (l : List Int) (x y a b : Nat) : R0 (ps ++ [((x : Int), (y : Int))]) l a b = (R0 ps l a b || decide (cl l x = a ∧ cl l y = b ∧ a ≠ b)) := by
  unfold R0
  rw [List.any_append]
  simp only [List.any_cons, List.any_nil, Bool.or_false, Int.toNat_natCast]
theorem R0_lo {n : Nat} {ps : List (Int × Int)} {l : List Int} (hl : l.length = n) (hp : ∀ p ∈ ps, Bd n p) (a b : Nat) (h : R0 ps l a b = true) : a < (dd l).length ∧ b < (dd l).length := by
  unfold R0 at h
  rw [List.any_eq_true] at h
  obtain ⟨p, hm, e⟩ := h
  obtain ⟨x, y, rfl, hx, hy⟩ := hp p hm
  have e := of_decide_eq_true e
  simp only [Int.toNat_natCast] at e
  rw [← e.1, ← e.2.1]
  exact ⟨cl_lt (by omega), cl_lt (by omega)⟩
def prsOf (k : Nat) (R : Nat → Nat → Bool) : List (Int × Int) := (rl k).flatMap fun x => ((rl k).filter fun y => R x.toNat y.toNat).map fun y => (x, y)
def res (k : Nat) (R : Nat → Nat → Bool) : Option (Int × List (Int × Int)) := if (rl k).any (fun x => R x.toNat x.toNat) then none else some ((k : Int), prsOf k R)
theorem foldGo_app {α τ : Type} {f : α → τ → Option τ} : ∀ (xs ys : List α) (s : τ), foldGo f (xs ++ ys) s = (foldGo f xs s).bind fun s' => foldGo f ys s'
  | [], ys, s => rfl
  | x :: xs, ys, s => by
    show (f x s).bind _ = ((f x s).bind _).bind _
    cases f x s with
    | none => rfl
    | some s' => exact foldGo_app xs ys s'
/-! ### the law's side -/
theorem classes_ok {l : List Int} (hl : l.length ≤ 1000) : M_law_classes (l, ()) = some (cls l) := by
  unfold M_law_classes
  refine Ok.eq_some (.bind (foldG_ok (Inv := fun k (s : List Int × List Int) => s = (dd (l.take k), cls (l.take k))) l 0 rfl fun k x s hk hs => ?_) fun s hs => .one ?_)
  · rw [Nat.zero_add] at hs ⊢
    subst hs
    have ht : l.take (k + 1) = l.take k ++ [x] := by
      rw [List.take_succ, hk]
      rfl
    have hkl := (List.getElem?_eq_some_iff.mp hk).1
    have h1 := dd_len (l.take k)
    rw [List.length_take] at h1
    have h2 : (cls (l.take k)).length ≤ 1000 := by
      unfold cls
      rw [List.length_map, List.length_take]
      omega
    have hm : x ∈ dd (l.take (k + 1)) := by
      rw [dd_mem, ht]
      exact List.mem_append_right _ (List.mem_singleton.mpr rfl)
    refine .bind (P := fun F => F = dd (l.take (k + 1))) (.bif (fun e => ?_) fun e => .one ?_) fun F hF => ?_
    · have e : x ∉ dd (l.take k) := by simpa using e
      rw [appM_eq (show (dd (l.take k)).length < 1000000 by omega)]
      exact .one (by rw [ht, dd_snoc, if_neg e])
    · have e : x ∈ dd (l.take k) := by simpa using e
      rw [ht, dd_snoc, if_pos e]
    · subst hF
      rw [show idxM (dd (l.take (k + 1))) x = some (((dd (l.take (k + 1))).idxOf x : Nat) : Int) from if_pos hm, sb, appM_eq (show (cls (l.take k)).length < 1000000 by omega), sb]
      refine .one ?_
      rw [ht, cls_snoc]
  · rw [hs, Nat.zero_add, List.take_length]
theorem many_ok (l : List Int) : foldGo (fun x (s : Int) => (some (if (x + (1 : Int)) > s then (x + (1 : Int)) else s)).bind fun a => some a) (cls l) (0 : Int) = some ((dd l).length : Int) := by
  refine snoc_ind (P := fun l => foldGo (fun x (s : Int) => (some (if (x + (1 : Int)) > s then (x + (1 : Int)) else s)).bind fun a => some a) (cls l) (0 : Int) = some ((dd l).length : Int)) rfl (fun l x ih => ?_) l
  rw [cls_snoc, foldGo_app, ih, sb]
  show some (if (((dd (l ++ [x])).idxOf x : Nat) : Int) + 1 > ((dd l).length : Int) then (((dd (l ++ [x])).idxOf x : Nat) : Int) + 1 else ((dd l).length : Int)) = _
  congr 1
  rw [dd_snoc]
  split
  · rename_i hm
    have := List.idxOf_lt_length_iff.mpr hm
    rw [if_neg (by omega)]
  · rename_i hm
    rw [idx_new hm, if_pos (by omega), List.length_append]
    rfl
theorem T2.set2 {n : Nat} {t : List (List Bool)} {r : Nat → Nat → Bool} (h : T2 n t r) {x y : Nat} (b : Bool) (hx : x < n) (hy : y < n) : ∃ t', setAt2 t (x : Int) (y : Int) b = some t' ∧ T2 n t' fun i j => if i = x ∧ j = y then b else r i j := by
  obtain ⟨t', e, s, g⟩ := h.sq.set2 b hx hy
  refine ⟨t', e, s, fun i j hi hj => ?_⟩
  rw [g]
  split
  · rfl
  · exact h.gt i j hi hj
theorem loopI_ok {τ ρ : Type} {f : Int → τ → Option (Out τ ρ)} (Inv : Nat → τ → Prop) (R : ρ → Prop) {n : Nat} {s : τ} (h0 : Inv 0 s) (hs : ∀ k s, k < n → Inv k s → Ok (f (k : Int) s) fun o => (∃ s', (o = .nx s' ∨ o = .ct s') ∧ Inv (k + 1) s') ∨ ∃ r, o = .rt r ∧ R r) : Ok (loopGo f (rl n) s) fun o => (∃ s', o = .nx s' ∧ Inv n s') ∨ ∃ r, o = .rt r ∧ R r := by
  have key : ∀ (m j : Nat) (s : τ), j + m = n → Inv j s → Ok (loopGo f ((List.range' j m).map fun i : Nat => (i : Int)) s) fun o => (∃ s', o = .nx s' ∧ Inv n s') ∨ ∃ r, o = .rt r ∧ R r := by
    intro m
    induction m with
    | zero =>
      intro j s e h
      have : j = n := by omega
      subst this
      exact .one (.inl ⟨s, rfl, h⟩)
    | succ m ih =>
      intro j s e h
      rw [List.range'_succ, List.map_cons]
      refine .bind (hs j s (by omega) h) fun o ho => ?_
      rcases ho with ⟨s', rfl | rfl, h'⟩ | ⟨r, rfl, hr⟩
      · exact ih (j + 1) s' (by omega) h'
      · exact ih (j + 1) s' (by omega) h'
      · exact .one (.inr ⟨r, rfl, hr⟩)
  have := key n 0 s (by omega) h0
  rwa [← List.range_eq_range'] at this
theorem prs_len {k : Nat} {R : Nat → Nat → Bool} (j : Nat) : ((rl j).flatMap fun x => ((rl k).filter fun y => R x.toNat y.toNat).map fun y => (x, y)).length ≤ j * k := by
  have key : ∀ l : List Int, (l.flatMap fun x => ((rl k).filter fun y => R x.toNat y.toNat).map fun y => (x, y)).length ≤ l.length * k := by
    intro l
    induction l with
    | nil => exact Nat.zero_le _
    | cons x l ih =>
      rw [List.flatMap_cons, List.length_append, List.length_map, List.length_cons, Nat.succ_mul]
      have := List.length_filter_le (fun y : Int => R x.toNat y.toNat) (rl k)
      rw [rl_len] at this
      omega
  have := key (rl j)
  rwa [rl_len] at this
theorem any_rl {k : Nat} {p : Nat → Bool} : (rl k).any (fun x => p x.toNat) = true ↔ ∃ x, x < k ∧ p x = true := by
  rw [List.any_eq_true]
  constructor
  · rintro ⟨x, hx, e⟩
    obtain ⟨j, hj, rfl⟩ := rl_mem.mp hx
    rw [Int.toNat_natCast] at e
    exact ⟨j, hj, e⟩
  · rintro ⟨x, hx, e⟩
    exact ⟨_, rl_mem.mpr ⟨x, hx, rfl⟩, by rw [Int.toNat_natCast]; exact e⟩
theorem law_quotient_ok {n : Nat} {ps : List (Int × Int)} {l : List Int} (hn : n ≤ 64) (hl : l.length = n) (hp : ∀ p ∈ ps, Bd n p) : M_law_quotient (((n : Int), ps), cls l, ()) = some (res (dd l).length (fw (dd l).length (R0 ps l))) := by
  unfold M_law_quotient
  have hk := dd_len l
  rw [many_ok, sb]
  generalize hK : (dd l).length = k at hk ⊢
  have hr := rng_nat (n := k) (show k ≤ 1000000 by omega)
  simp only [hr, sb]
  have hnew : Ok (mapM (fun _ : Int => mapM (fun _ : Int => some false) (rl k)) (rl k)) fun t => T2 k t fun _ _ => false := by
    rw [mapM_is (g := fun _ => (rl k).map fun _ => false) (by rw [rl_len]; omega) fun _ _ => mapM_is (by rw [rl_len]; omega) fun _ _ => rfl]
    refine .one (T2.mk' (by rw [List.length_map, rl_len]) fun x row hx => ?_)
    have hx' := (List.getElem?_eq_some_iff.mp hx).1
    rw [List.length_map, rl_len] at hx'
    rw [List.getElem?_map, rl_get hx'] at hx
    have e : row = (rl k).map fun _ => false := (Option.some.inj hx).symm
    subst e
    exact ⟨by rw [List.length_map, rl_len], fun y hy => by rw [List.getElem?_map, rl_get hy]; rfl⟩
  refine Ok.eq_some (.bind hnew fun t ht => ?_)
  refine .bind (P := fun t => T2 k t (R0 ps l)) (fold_ok (fun pre t => T2 k t (R0 pre l)) (ht.congr fun _ _ _ _ => rfl) fun pre p s hm hs => ?_) fun t ht => ?_
  · obtain ⟨x, y, rfl, hx, hy⟩ := hp p hm
    have c1 := cl_at (l := l) (x := x) (by omega)
    have c2 := cl_at (l := l) (x := y) (by omega)
    have k1 := cl_lt (l := l) (x := x) (by omega)
    have k2 := cl_lt (l := l) (x := y) (by omega)
    rw [hK] at k1 k2
    simp only [c1, c2, sb]
    refine .bind (P := fun t => T2 k t (R0 (pre ++ [((x : Int), (y : Int))]) l)) (.bif (fun e => ?_) fun e => .one (hs.congr fun a b _ _ => ?_)) fun t ht => .one ht
    · have e : cl l x ≠ cl l y := by
        intro q
        rw [q] at e
        simp at e
      obtain ⟨t', e1, h1⟩ := hs.set2 true k1 k2
      refine .bind (Ok.eq e1) fun u hu => .one ?_
      subst hu
      refine h1.congr fun a b _ _ => ?_
      rw [R0_snoc]
      by_cases q : a = cl l x ∧ b = cl l y
      · rw [if_pos q, decide_eq_true ⟨q.1.symm, q.2.symm, by rw [q.1, q.2]; exact e⟩, Bool.or_true]
      · rw [if_neg q, decide_eq_false fun z => q ⟨z.1.symm, z.2.1.symm⟩, Bool.or_false]
    · have e : cl l x = cl l y := by
        simp at e
        omega
      rw [R0_snoc, decide_eq_false fun z => z.2.2 (by rw [← z.1, ← z.2.1, e]), Bool.or_false]
  · refine .bind (P := fun t => T2 k t (fw k (R0 ps l))) ((foldR_ok (fun m t => T2 k t (fw m (R0 ps l))) ht fun z s hz hs => ?_)) fun t ht => ?_
    · show Ok _ (fun t => T2 k t (stp z (fw z (R0 ps l))))
      generalize fw z (R0 ps l) = r at hs ⊢
      have absb : ∀ (j y : Nat), (r z y || (decide (z < j) && (r z z && r z y))) = r z y := fun j y => by cases r z y <;> cases r z z <;> cases decide (z < j) <;> rfl
      refine .bind ((foldR_ok (fun j t => T2 k t fun x y => r x y || (decide (x < j) && (r x z && r z y))) (hs.congr fun x y _ _ => by simp) fun x s hx hs => ?_)) fun t ht => .one (ht.congr fun x y hx hy => by rw [decide_eq_true hx, Bool.true_and]; rfl)
      obtain ⟨row, q1, q0, q2⟩ := hs.look hx
      obtain ⟨roz, u1, u0, u2⟩ := hs.look hz
      have cur : ∀ y, (r x y || (decide (x < x) && (r x z && r z y))) = r x y := fun y => by simp
      simp only [q1, u1, sb, q2 z hz, cur]
      refine .bind (P := fun t => T2 k t fun a b => r a b || (decide (a < x + 1) && (r a z && r z b))) (.bif (fun exz => ?_) fun exz => .one (hs.congr fun a b ha hb => ?_)) fun t ht => .one ht
      · rw [mapM_is (g := fun y => r x y.toNat || r z y.toNat) (by rw [rl_len]; omega) fun y hy => by
          obtain ⟨j, hj, rfl⟩ := rl_mem.mp hy
          rw [q2 j hj, sb, u2 j hj, cur, absb, Int.toNat_natCast]
          cases r x j <;> rfl, sb]
        obtain ⟨s1, s2⟩ := hs.setRow (x := x) hx (row := (rl k).map fun y => r x y.toNat || r z y.toNat) (f := fun y => r x y || r z y) (by rw [List.length_map, rl_len]) fun y hy => by
          rw [List.getElem?_map, rl_get hy]
          show some (r x (y : Int).toNat || r z (y : Int).toNat) = _
          rw [Int.toNat_natCast]
        refine .bind (Ok.eq s1) fun u hu => .one ?_
        subst hu
        refine s2.congr fun a b ha hb => ?_
        by_cases e : a = x
        · subst e
          rw [if_pos rfl, exz, Bool.true_and, decide_eq_true (Nat.lt_succ_self _), Bool.true_and]
        · rw [if_neg e]
          congr 2
          exact decide_eq_decide.mpr (by omega)
      · by_cases e : a = x
        · subst e
          rw [exz]
          simp
        · congr 2
          exact decide_eq_decide.mpr (by omega)
    · generalize hR : fw k (R0 ps l) = R at ht ⊢
      refine .bind (loopI_ok (fun j (s : List (Int × Int)) => (∀ x, x < j → R x x = false) ∧ s = (rl j).flatMap fun x => ((rl k).filter fun y => R x.toNat y.toNat).map fun y => (x, y)) (fun o => o = none ∧ ∃ x, x < k ∧ R x x = true) ⟨fun x hx => absurd hx (Nat.not_lt_zero _), rfl⟩ fun j s hj hs => ?_) fun o ho => ?_
      · obtain ⟨row, q1, _, q2⟩ := ht.look hj
        simp only [q1, sb, q2 j hj]
        refine .bif (fun e => .one (.inr ⟨_, rfl, rfl, j, hj, e⟩)) fun e => ?_
        rw [compM_eq (p := fun y => R j y.toNat) (g := fun y => ((j : Int), y)) (by rw [rl_len]; omega) (fun y hy => by
          obtain ⟨i, hi, rfl⟩ := rl_mem.mp hy
          rw [q2 i hi, Int.toNat_natCast]) fun _ _ _ => rfl, sb]
        have h1 := prs_len (k := k) (R := R) j
        have h2 := List.length_filter_le (fun y : Int => R j y.toNat) (rl k)
        rw [rl_len] at h2
        have h3 : j * k ≤ 64 * 64 := Nat.mul_le_mul (by omega) (by omega)
        rw [hs.2, catM_eq (by rw [List.length_map]; omega), sb]
        refine .one (.inl ⟨_, .inl rfl, fun x hx => ?_, ?_⟩)
        · by_cases q : x = j
          · rw [q]; exact e
          · exact hs.1 x (by omega)
        · rw [rl_succ, List.flatMap_append, List.flatMap_cons, List.flatMap_nil, List.append_nil, Int.toNat_natCast]
      · unfold res
        rcases ho with ⟨s', rfl, h1, h2⟩ | ⟨r, rfl, rfl, hx⟩
        · refine .one ?_
          rw [if_neg fun e => ?_, h2]
          · rfl
          · obtain ⟨x, hx, e⟩ := (any_rl (p := fun x => R x x)).mp e
            rw [h1 x hx] at e
            cases e
        · refine .one ?_
          rw [if_pos ((any_rl (p := fun x => R x x)).mpr hx)]
end K31
set_option maxHeartbeats 1000000
namespace K31
open PySem PySem.Spec L2 CC
open PyProof.Rows hiding St
theorem get_snoc {k j x : Int} : ∀ {s : List (Int × Int)}, getM s k = none → getM (s ++ [(k, x)]) j = if j = k then some x else getM s j
  | [], _ => by
    show (if k = j then some x else none) = _
    by_cases e : j = k
    · rw [if_pos e, if_pos e.symm]
    · rw [if_neg e, if_neg fun z => e z.symm]
      rfl
  | q :: s, h => by
    unfold getM at h
    by_cases e : q.1 = k
    · rw [if_pos e] at h; cases h
    · rw [if_neg e] at h
      show (if q.1 = j then some q.2 else getM (s ++ [(k, x)]) j) = if j = k then some x else if q.1 = j then some q.2 else getM s j
      rw [get_snoc h]
      by_cases ej : j = k
      · subst ej
        rw [if_neg e, if_pos rfl, if_pos rfl]
      · rw [if_neg ej, if_neg ej]
theorem put_new {s : List (Int × Int)} {k x : Int} (hl : s.length < 1000000) (h : getM s k = none) : putMO s k x = some (s ++ [(k, x)]) := by
  unfold putMO
  rw [if_pos (show s.length < LIM from hl)]
  unfold putM
  rw [h]
  rfl
/-- a dict of the numbers by first sight -/
def Nm (F : List Int) (s : List (Int × Int)) : Prop := s.length = F.length ∧ ∀ y, getM s y = if y ∈ F then some (F.idxOf y : Int) else none
def links (ps : List (Int × Int)) (l : List Int) : List (Int × Int) := (ps.filter fun p => !decide (cl l p.1.toNat = cl l p.2.toNat)).map fun p => ((cl l p.1.toNat : Int), (cl l p.2.toNat : Int))
theorem links_mem {n : Nat} {ps : List (Int × Int)} {l : List Int} (hp : ∀ p ∈ ps, Bd n p) (a b : Nat) : ((a : Int), (b : Int)) ∈ links ps l ↔ R0 ps l a b = true := by
  unfold links R0
  rw [List.mem_map, List.any_eq_true]
  constructor
  · rintro ⟨p, hm, e⟩
    obtain ⟨m1, m2⟩ := List.mem_filter.mp hm
    have e1 := (Prod.mk.inj e).1
    have e2 := (Prod.mk.inj e).2
    refine ⟨p, m1, decide_eq_true ⟨by omega, by omega, fun q => ?_⟩⟩
    simp at m2
    omega
  · rintro ⟨p, hm, e⟩
    have e := of_decide_eq_true e
    refine ⟨p, List.mem_filter.mpr ⟨hm, ?_⟩, by rw [e.1, e.2.1]⟩
    simp
    omega
theorem bit_test (a m : Nat) : (bAnd ((a / 2 ^ m : Nat) : Int) 1 != 0) = a.testBit m := by
  have := bAnd_nat (a / 2 ^ m) 1
  rw [show ((1 : Nat) : Int) = 1 from rfl] at this
  rw [this]
  unfold Nat.testBit
  rw [Nat.shiftRight_eq_div_pow, Nat.and_comm]
  cases h : 1 &&& a / 2 ^ m with
  | zero => rfl
  | succ k =>
    rw [Bool.eq_iff_iff]
    simp only [bne_iff_ne, ne_eq]
    omega
theorem enumL_rows {k : Nat} {L : List Int} (h : L.length = k) : enumL 0 L = (rl k).map fun x => (x, L[x.toNat]?.getD 0) := by
  refine List.ext_getElem? fun i => ?_
  rw [enumL_get, List.getElem?_map]
  by_cases hi : i < k
  · rw [rl_get hi, List.getElem?_eq_getElem (by omega)]
    show some (((0 + i : Nat) : Int), L[i]) = some ((i : Int), L[(i : Int).toNat]?.getD 0)
    rw [Nat.zero_add, Int.toNat_natCast, List.getElem?_eq_getElem (by omega)]
    rfl
  · rw [List.getElem?_eq_none (by omega), List.getElem?_eq_none (by rw [rl_len]; omega)]
    rfl
theorem flatMap_cong {α β : Type} {f g : α → List β} : ∀ {l : List α}, (∀ x ∈ l, f x = g x) → l.flatMap f = l.flatMap g
  | [], _ => rfl
  | a :: l, h => by
    rw [List.flatMap_cons, List.flatMap_cons, h a List.mem_cons_self, flatMap_cong fun x hx => h x (List.mem_cons_of_mem _ hx)]
theorem ways_ok {n k : Nat} {ps : List (Int × Int)} {l : List Int} (hk : (dd l).length = k) (hk2 : k ≤ 64) (hl : l.length = n) (hp : ∀ p ∈ ps, Bd n p) : Ok (M_ways ((k : Int), links ps l, ())) fun L => Msk k L (fw k (R0 ps l)) := by
  unfold M_ways
  simp only [bind_id, rng_nat (n := k) (show k ≤ 1000000 by omega), sb]
  have hlo := R0_lo hl hp
  rw [hk] at hlo
  refine .bind (high_ok hk2 (fun p hm => ?_) (links_mem hp)) fun L hL => ?_
  · obtain ⟨q, hq, rfl⟩ := List.mem_map.mp hm
    obtain ⟨q1, q2⟩ := List.mem_filter.mp hq
    obtain ⟨x, y, rfl, hx, hy⟩ := hp q q1
    have k1 := cl_lt (l := l) (x := x) (by omega)
    have k2 := cl_lt (l := l) (x := y) (by omega)
    exact ⟨_, _, rfl, by rw [Int.toNat_natCast]; omega, by rw [Int.toNat_natCast]; omega⟩
  · refine (foldR_ok (fun m L => Msk k L (fw m (R0 ps l))) hL fun z s hz hs => ?_)
    show Ok _ (fun t => Msk k t (stp z (fw z (R0 ps l))))
    generalize fw z (R0 ps l) = r at hs ⊢
    have absb : ∀ (j y : Nat), (r z y || (decide (z < j) && (r z z && r z y))) = r z y := fun j y => by cases r z y <;> cases r z z <;> cases decide (z < j) <;> rfl
    refine (foldR_ok (fun j L => Msk k L fun x y => r x y || (decide (x < j) && (r x z && r z y))) (hs.congr fun x y _ => by simp) fun x s hx hs => ?_).mono fun t ht => ht.congr fun x y hx => by
      show _ = (r x y || (r x z && r z y))
      rw [decide_eq_true hx, Bool.true_and]
    obtain ⟨mx, q1, q2⟩ := hs.look x hx
    obtain ⟨mz, u1, u2⟩ := hs.look z hz
    have cur : ∀ y, (r x y || (decide (x < x) && (r x z && r z y))) = r x y := fun y => by simp
    simp only [q1, u1, sb, shr_nat, bit_test, q2 z, cur, bOr_nat]
    refine .bif (fun exz => ?_) fun exz => .one (hs.congr fun a b ha => ?_)
    · obtain ⟨s1, s2⟩ := hs.set (x := x) (m := mx ||| mz) hx
      refine .of_eq s1 (s2.congr fun a b ha => ?_)
      by_cases e : a = x
      · subst e
        rw [if_pos rfl, Nat.testBit_or, q2 b, u2 b, cur, absb, exz, Bool.true_and, decide_eq_true (Nat.lt_succ_self _), Bool.true_and]
      · rw [if_neg e]
        congr 2
        exact decide_eq_decide.mpr (by omega)
    · by_cases e : a = x
      · subst e
        rw [exz]
        simp
      · congr 2
        exact decide_eq_decide.mpr (by omega)
theorem order_of_ok {n k : Nat} {ps : List (Int × Int)} {l : List Int} (hk : (dd l).length = k) (hk2 : k ≤ 64) (hl : l.length = n) (hp : ∀ p ∈ ps, Bd n p) :
    Ok (M_order_of ((k : Int), links ps l, ())) fun r => (∃ z, r = .er (.RingFound z) ∧ res k (fw k (R0 ps l)) = none) ∨ ∃ w, r = .ok w ∧ res k (fw k (R0 ps l)) = some w := by
  unfold M_order_of
  have hlo := fw_lo (R0_lo hl hp) k
  rw [hk] at hlo
  refine .bind (P := fun _ => True) (fold_ok (fun _ _ => True) trivial fun pre p s hm _ => ?_) fun _ _ => ?_
  · obtain ⟨q, hq, rfl⟩ := List.mem_map.mp hm
    obtain ⟨q1, q2⟩ := List.mem_filter.mp hq
    obtain ⟨x, y, rfl, hx, hy⟩ := hp q q1
    have k1 := cl_lt (l := l) (x := x) (by omega)
    have k2 := cl_lt (l := l) (x := y) (by omega)
    have e : M_is_link ((k : Int), ((cl l ((x : Int), (y : Int)).1.toNat : Int), (cl l ((x : Int), (y : Int)).2.toNat : Int)), ()) = some true := by
      unfold M_is_link
      simp only [Int.toNat_natCast]
      rw [decide_eq_true (show (0 : Int) ≤ (cl l x : Int) by omega), decide_eq_true (show (cl l x : Int) < (k : Int) by omega), decide_eq_true (show (0 : Int) ≤ (cl l y : Int) by omega), decide_eq_true (show (cl l y : Int) < (k : Int) by omega)]
      rfl
    rw [e]
    exact .one trivial
  · refine .bind (ways_ok hk hk2 hl hp) fun L hL => ?_
    generalize hR : fw k (R0 ps l) = R at hL hlo ⊢
    rw [rng_nat (n := k) (show k ≤ 1000000 by omega), sb, compM_eq (p := fun x => R x.toNat x.toNat) (g := fun x => x) (by rw [rl_len]; omega) (fun x hx => by
      obtain ⟨j, hj, rfl⟩ := rl_mem.mp hx
      obtain ⟨m, m1, m2⟩ := hL.look j hj
      simp only [m1, sb, shr_nat, bit_test, m2, Int.toNat_natCast]) fun _ _ _ => rfl, sb, List.map_id', sb]
    have hany : ∀ l : List Int, ∀ p : Int → Bool, (!(l.filter p).isEmpty) = l.any p := fun l p => by
      induction l with
      | nil => rfl
      | cons a l ih =>
        rw [List.filter_cons, List.any_cons]
        cases h : p a with
        | true => rfl
        | false =>
          rw [if_neg (fun z => nomatch z)]
          exact ih
    rw [hany]
    refine .bif (fun e => ?_) fun e => ?_
    · refine .one (.inl ⟨_, rfl, ?_⟩)
      unfold res
      rw [if_pos e]
    · rw [enumL_rows hL.len]
      have hmask : ∀ x, x < k → ∃ m : Nat, L[x]?.getD 0 = (m : Int) ∧ ∀ y, m.testBit y = R x y := fun x hx => by
        obtain ⟨m, m1, m2⟩ := hL.look x hx
        rw [atI_nat (k := x) (by rw [hL.len]; exact hx)] at m1
        refine ⟨m, ?_, m2⟩
        rw [List.getElem?_eq_getElem (by rw [hL.len]; exact hx)]
        exact Option.some.inj m1
      have hflat : ((rl k).map fun x => (x, L[x.toNat]?.getD 0)).flatMap (fun p : Int × Int => ((bitsL k p.2.toNat).filter fun _ => true).map fun y => (p.1, y)) = prsOf k R := by
        unfold prsOf
        rw [List.flatMap_map]
        refine flatMap_cong fun x hx => ?_
        obtain ⟨j, hj, rfl⟩ := rl_mem.mp hx
        obtain ⟨m, m1, m2⟩ := hmask j hj
        simp only [Int.toNat_natCast, m1]
        congr 1
        rw [List.filter_eq_self.mpr (fun _ _ => rfl)]
        unfold bitsL
        exact List.filter_congr fun y _ => m2 _
      have h1 := prs_len (k := k) (R := R) k
      have h3 : k * k ≤ 64 * 64 := Nat.mul_le_mul hk2 hk2
      rw [comp2M_eq (it := fun p : Int × Int => bitsL k p.2.toNat) (p := fun _ _ => true) (g := fun p y => (p.1, y)) (fun _ _ => rfl) (fun p hm => by
        obtain ⟨x, hx, rfl⟩ := List.mem_map.mp hm
        obtain ⟨j, hj, rfl⟩ := rl_mem.mp hx
        obtain ⟨m, m1, m2⟩ := hmask j hj
        simp only [Int.toNat_natCast, m1]
        exact points_ok (by omega) fun y hy => (hlo j y (by rw [← m2]; exact hy)).2) (fun _ _ _ _ => rfl) (fun _ _ _ _ _ => rfl) (by rw [hflat]; unfold prsOf; omega), hflat]
      refine .one (.inr ⟨_, rfl, ?_⟩)
      unfold res
      rw [if_neg (by rw [e]; exact fun z => nomatch z)]
theorem quotient_ok {n : Nat} {ps : List (Int × Int)} {l : List Int} (hn : n ≤ 64) (hl : l.length = n) (hps : ps.length ≤ 1000000) (hp : ∀ p ∈ ps, Bd n p) : M_quotient (((n : Int), ps), l, ()) = some (res (dd l).length (fw (dd l).length (R0 ps l))) := by
  unfold M_quotient
  refine Ok.eq_some (.bind (foldG_ok (Inv := fun k (s : List (Int × Int)) => Nm (dd (l.take k)) s) l 0 ⟨rfl, fun y => by simp [getM, dd]⟩ fun k x s hk hs => ?_) fun s hs => ?_)
  · rw [Nat.zero_add] at hs ⊢
    have ht : l.take (k + 1) = l.take k ++ [x] := by
      rw [List.take_succ, hk]
      rfl
    have h1 := dd_len (l.take k)
    rw [List.length_take] at h1
    have hkl := (List.getElem?_eq_some_iff.mp hk).1
    refine .bind (P := fun s => Nm (dd (l.take (k + 1))) s) (.bif (fun e => ?_) fun e => .one ?_) fun s hs => .one hs
    · have hg := hs.2 x
      by_cases hm : x ∈ dd (l.take k)
      · rw [if_pos hm] at hg
        rw [hg] at e
        cases e
      · rw [if_neg hm] at hg
        rw [put_new (by rw [hs.1]; omega) hg, sb]
        refine .one ?_
        rw [ht, dd_snoc, if_neg hm]
        refine ⟨by rw [List.length_append, List.length_append, hs.1]; rfl, fun y => ?_⟩
        rw [get_snoc hg, hs.2]
        by_cases q : y = x
        · subst q
          rw [if_pos rfl, if_pos (List.mem_append_right _ (List.mem_singleton.mpr rfl)), idx_new hm, hs.1]
        · rw [if_neg q]
          by_cases m : y ∈ dd (l.take k)
          · rw [if_pos m, if_pos (List.mem_append_left _ m), idx_app m]
          · rw [if_neg m, if_neg fun z => (List.mem_append.mp z).elim m fun z => q (List.mem_singleton.mp z)]
    · have hm : x ∈ dd (l.take k) := by
        by_cases hm : x ∈ dd (l.take k)
        · exact hm
        · rw [hs.2 x, if_neg hm] at e
          cases e
      rw [ht, dd_snoc, if_pos hm]
      exact hs
  · rw [Nat.zero_add, List.take_length] at hs
    rw [mapM_is (g := fun y => ((dd l).idxOf y : Int)) (show l.length ≤ 1000000 by omega) fun y hy => by rw [hs.2, if_pos ((dd_mem l y).mpr hy)]]
    show Ok (Option.bind (some (cls l)) _) _
    rw [sb, compM_eq (p := fun p => !decide (cl l p.1.toNat = cl l p.2.toNat)) (g := fun p => ((cl l p.1.toNat : Int), (cl l p.2.toNat : Int))) hps (fun p hm => by
      obtain ⟨x, y, rfl, hx, hy⟩ := hp p hm
      simp only [cl_at (l := l) (x := x) (by omega), cl_at (l := l) (x := y) (by omega), sb, Int.toNat_natCast]
      congr 2
      exact decide_eq_decide.mpr (by omega)) (fun p hm _ => by
      obtain ⟨x, y, rfl, hx, hy⟩ := hp p hm
      simp only [cl_at (l := l) (x := x) (by omega), cl_at (l := l) (x := y) (by omega), sb, Int.toNat_natCast]), sb, sb]
    have hk := dd_len l
    have hlen : (s.length : Int) = ((dd l).length : Int) := by rw [hs.1]
    rw [hlen]
    show Ok (tryM ((M_order_of (((dd l).length : Int), links ps l, ())).bind _) _) _
    obtain ⟨r, e, hr⟩ := order_of_ok (k := (dd l).length) rfl (by omega) hl hp
    rw [e, sb]
    rcases hr with ⟨z, rfl, h⟩ | ⟨w, rfl, h⟩
    · rw [h]
      exact .one rfl
    · rw [h]
      exact .one rfl
end K31
set_option maxHeartbeats 1000000
namespace K31
open PySem PySem.Spec L2 CC
open PyProof.Rows hiding St
abbrev Rd := (List Int) × Int × Int × Int × Int × Int
def RI (s : Rd) : Prop := 0 ≤ s.2.1
theorem mixed_ok (x c : Int) : Ok (M_law_mixed (x, c, ())) fun _ => True := by
  unfold M_law_mixed
  rw [mulO_r (by omega) (by omega), sb, mulO_r (by omega) (by omega), sb, sb, sb, sb, modO_eq (by omega), sb]
  generalize hf : (x * 48271 + c * 69621 + 13) % 2147483647 = f
  have f1 : 0 ≤ f := by rw [← hf]; exact mod_lo _ (by omega)
  have f2 : f < 2147483647 := by rw [← hf]; exact mod_hi _ (by omega)
  rw [mulO_r (by omega) (by omega), sb, mulO_r (by omega) (by omega), sb, sb, sb, sb, modO_eq (by omega), sb]
  generalize hg : (f * f + c * 40692 + 5) % 2147483399 = g
  have g1 : 0 ≤ g := by rw [← hg]; exact mod_lo _ (by omega)
  have g2 : g < 2147483399 := by rw [← hg]; exact mod_hi _ (by omega)
  rw [mulO_r (by omega) (by omega), sb, sb, sb, sb, modO_eq (by omega), sb, mulO_r (by omega) (by omega), sb, sb, mulO_r (by omega) (by omega), sb]
  exact .one trivial
theorem start_ok (ns : List Int) : Ok (M_law_start (ns, ())) RI := by
  unfold M_law_start
  refine .bind (fold_ok (fun _ _ => True) trivial fun pre x s _ _ => .bind (mixed_ok _ _) fun z _ => .one trivial) fun z _ => .one (show (0 : Int) ≤ 0 from Int.le_refl _)
theorem draw_ok {m : Int} {s : Rd} (hm : 0 < m) (h2 : m < 1073741824) (h : RI s) : Ok (M_law_draw (m, ()) s) fun r => (0 ≤ r.1 ∧ r.1 < m) ∧ RI r.2 := by
  have h : 0 ≤ s.2.1 := h
  unfold M_law_draw
  refine .bind (P := fun o : Out Rd (Int × Rd) => (∃ s', o = .nx s' ∧ RI s') ∨ ∃ r : Int × Rd, o = .rt r ∧ (0 ≤ r.1 ∧ r.1 < m) ∧ RI r.2) ?_ fun o ho => ?_
  · refine Ok.bind (P := fun _ => True) (.bif (fun _ => .one trivial) fun _ => .one trivial) fun b _ => .bif (fun _ => ?_) fun _ => .one (.inl ⟨_, rfl, h⟩)
    refine .bif (fun _ => ?_) fun e => ?_
    · simp only [bassoc, sb]
      refine .bind (mixed_ok _ _) fun z _ => ?_
      rw [modO_eq hm, sb]
      exact .one (.inr ⟨_, rfl, ⟨mod_lo _ hm, mod_hi _ hm⟩, h⟩)
    · have e := of_decide_eq_false e
      refine .bind (atI_mem h (by omega)) fun c _ => ?_
      rw [modO_eq (by omega), sb, sb]
      refine .bif (fun _ => ?_) fun _ => ?_
      · simp only [bassoc, sb]
        refine .bind (mixed_ok _ _) fun z _ => ?_
        rw [modO_eq hm, sb]
        exact .one (.inr ⟨_, rfl, ⟨mod_lo _ hm, mod_hi _ hm⟩, show (0 : Int) ≤ s.2.1 + 1 by omega⟩)
      · rw [divO_eq (by omega) (by omega), sb]
        exact .one (.inl ⟨_, rfl, show (0 : Int) ≤ s.2.1 + 1 by omega⟩)
  · rcases ho with ⟨s', rfl, hs⟩ | ⟨r, rfl, hr⟩
    · show Ok (Option.bind _ _) _
      rw [modO_eq hm, sb, divO_eq hm h2, sb]
      exact .one ⟨⟨mod_lo _ hm, mod_hi _ hm⟩, hs⟩
    · exact .one hr
theorem draw_nat {m : Nat} {s : Rd} (hm : 0 < m) (h2 : m < 1073741824) (h : RI s) : Ok (M_law_draw ((m : Int), ()) s) fun r => (∃ k : Nat, r.1 = (k : Int) ∧ k < m) ∧ RI r.2 :=
  (draw_ok (by omega) (by omega) h).mono fun r hr => ⟨⟨r.1.toNat, by omega, by omega⟩, hr.2⟩
theorem one_ok {xs : List Int} {s : Rd} (h0 : 0 < xs.length) (h1 : xs.length ≤ 1000000) (h : RI s) : Ok (M_law_one (xs, ()) s) fun r => r.1 ∈ xs ∧ RI r.2 := by
  unfold M_law_one
  simp only [bassoc, sb]
  exact .bind (draw_ok (by omega) (by omega) h) fun q hq => .bind (atI_mem hq.1.1 hq.1.2) fun z hz => .one ⟨hz, hq.2⟩
theorem turned_ok {n : Nat} {s : Rd} (hn : n ≤ 1000) (h : RI s) : Ok (M_law_turned ((n : Int), ()) s) fun r => r.1.Perm (rl n) ∧ RI r.2 := by
  unfold M_law_turned
  simp only [bassoc, sb, bind_id, rng_nat (n := n) (show n ≤ 1000000 by omega)]
  refine .bind (foldR_ok (fun k (s : Rd × List Int × List Int) => RI s.1 ∧ s.2.1.length + k = n ∧ (s.2.2 ++ s.2.1).Perm (rl n)) ⟨h, by rw [rl_len]; rfl, .refl _⟩ fun k s hk ⟨h1, h2, h3⟩ => ?_) fun s hs => .one ⟨?_, hs.1⟩
  · refine .bind (draw_ok (by omega) (by omega) h1) fun r hr => ?_
    refine .bind (popAt_ok hr.1.1 hr.1.2 (by omega)) fun q hq => ?_
    have hl : s.2.2.length + s.2.1.length = n := by rw [← List.length_append, h3.length_eq, rl_len]
    rw [appM_eq (by omega)]
    refine .one ⟨hr.2, by show q.2.length + (k + 1) = n; omega, ?_⟩
    refine List.Perm.trans ?_ h3
    rw [List.append_assoc]
    exact List.Perm.append_left _ hq.1.symm
  · have : s.2.1 = [] := List.eq_nil_of_length_eq_zero (by have := hs.2.1; omega)
    have h4 := hs.2.2
    rwa [this, List.append_nil] at h4
theorem renamed_ok {n : Nat} {ps : List (Int × Int)} {row : List Int} (hl : ps.length ≤ 1000000) (hp : ∀ p ∈ ps, Bd n p) (hr : row.Perm (rl n)) : Ok (M_law_renamed (((n : Int), ps), row, ())) fun w => w.1 = (n : Int) ∧ w.2.length = ps.length ∧ (∀ p ∈ w.2, Bd n p) ∧ ∀ x y : Nat, ((x : Int), (y : Int)) ∈ ps → ((rwv row x : Int), (rwv row y : Int)) ∈ w.2 := by
  unfold M_law_renamed
  have R := Rw.perm hr
  rw [mapM_is (g := fun p => ((rwv row p.1.toNat : Int), (rwv row p.2.toNat : Int))) hl fun p hm => by
    obtain ⟨x, y, rfl, hx, hy⟩ := hp p hm
    simp only [(R.at hx).1, (R.at hy).1, sb, Int.toNat_natCast]]
  simp only [sb]
  have pp := isort_perm leP (ps.map fun p => ((rwv row p.1.toNat : Int), (rwv row p.2.toNat : Int)))
  refine .one ⟨rfl, ?_, fun p hm => ?_, fun x y hm => ?_⟩
  · show (isort leP _).length = _
    rw [pp.length_eq, List.length_map]
  · obtain ⟨q, hq, rfl⟩ := List.mem_map.mp (pp.mem_iff.mp hm)
    obtain ⟨x, y, rfl, hx, hy⟩ := hp q hq
    exact ⟨_, _, rfl, by rw [Int.toNat_natCast]; exact (R.at hx).2, by rw [Int.toNat_natCast]; exact (R.at hy).2⟩
  · refine pp.mem_iff.mpr (List.mem_map.mpr ⟨_, hm, ?_⟩)
    simp only [Int.toNat_natCast]
/-- an order and a row of its points -/
def Or1 (w : (Int × List (Int × Int)) × List Int) (n : Nat) : Prop := w.1.1 = (n : Int) ∧ w.1.2.length ≤ 10000 ∧ (∀ p ∈ w.1.2, Bd n p) ∧ w.2.Perm (rl n)
theorem emod_nat {z : Int} {m : Nat} (hm : 0 < m) : ∃ k : Nat, z % (m : Int) = (k : Int) ∧ k < m := by
  have h1 := Int.emod_nonneg z (b := (m : Int)) (by omega)
  have h2 := Int.emod_lt_of_pos z (b := (m : Int)) (by omega)
  exact ⟨(z % (m : Int)).toNat, by omega, by omega⟩
theorem rng3_up {lo hi c : Nat} (h1 : lo ≤ 1000) (h2 : hi ≤ 1000) (hc : 0 < c) (h3 : c ≤ 1000) : ∃ l, rng3 (lo : Int) (hi : Int) (c : Int) = some l ∧ l.length ≤ hi ∧ ∀ y ∈ l, ∃ k : Nat, y = (k : Int) ∧ lo ≤ k ∧ k < hi := by
  have hL : (LIM : Int) = 1000000 := rfl
  unfold rng3
  rw [if_pos (by rw [hL]; omega)]
  refine ⟨_, rfl, ?_, fun y hy => ?_⟩
  · rw [List.length_map, List.length_range]
    unfold Builtin.Range.rangeSize
    rw [if_pos (by omega)]
    split
    · have := Int.ediv_le_self (a := (hi : Int) - (lo : Int) - 1) (b := (c : Int)) (by omega)
      omega
    · omega
  · obtain ⟨i, hi', rfl⟩ := List.mem_map.mp hy
    have hi' := List.mem_range.mp hi'
    unfold Builtin.Range.rangeSize at hi'
    rw [if_pos (by omega)] at hi'
    split at hi'
    · have e0 : 0 ≤ ((hi : Int) - (lo : Int) - 1) / (c : Int) := Int.ediv_nonneg (by omega) (by omega)
      have e1 : (i : Int) ≤ ((hi : Int) - (lo : Int) - 1) / (c : Int) := by omega
      have e2 : (i : Int) * (c : Int) ≤ (hi : Int) - (lo : Int) - 1 := by
        have := Int.mul_le_mul_of_nonneg_right e1 (show (0 : Int) ≤ (c : Int) by omega)
        have h4 := Int.ediv_mul_le ((hi : Int) - (lo : Int) - 1) (show (c : Int) ≠ 0 by omega)
        omega
      have e3 : 0 ≤ (i : Int) * (c : Int) := Int.mul_nonneg (by omega) (by omega)
      exact ⟨((lo : Int) + (i : Int) * (c : Int)).toNat, by omega, by omega, by omega⟩
    · exact absurd hi' (by simp)
theorem large_ok {n : Nat} {s : Rd} (hn : n ≤ 64) (h : RI s) : Ok (M_law_large ((n : Int), ()) s) fun w => Or1 w.1 n ∧ RI w.2 := by
  unfold M_law_large
  simp only [bassoc, sb, bind_id, bind_eta, rng_nat (n := n) (show n ≤ 1000000 by omega)]
  refine .bind (draw_nat (m := 8) (by omega) (by omega) h) fun w hw => ?_
  obtain ⟨⟨d, ed, hd⟩, hs⟩ := hw
  refine .bind (draw_nat (m := 2) (by omega) (by omega) hs) fun b hb => ?_
  obtain ⟨_, hs⟩ := hb
  rw [ed]
  refine .bind (foldR_ok (fun k (l : List (Int × Int)) => l.length ≤ k * 64 ∧ ∀ p ∈ l, Bd n p) ⟨Nat.zero_le _, by simp⟩ fun k l hk hl => ?_) fun l hl => ?_
  · have e1 : (1 : Int) + (d : Int) = ((d + 1 : Nat) : Int) := by omega
    rw [e1]
    have key : ∀ ys : List Int, ys.length ≤ n → (∀ y ∈ ys, ∃ j : Nat, y = (j : Int) ∧ j < n) → Ok ((mapM (fun y => some ((k : Int), y)) ys).bind fun x => catM l x) fun l' => l'.length ≤ (k + 1) * 64 ∧ ∀ p ∈ l', Bd n p := fun ys h1 h2 => by
      rw [mapM_is (g := fun y => ((k : Int), y)) (by omega) fun _ _ => rfl, sb, catM_eq (by rw [List.length_map]; have := hl.1; omega)]
      refine .one ⟨by rw [List.length_append, List.length_map]; have := hl.1; omega, fun p hp => ?_⟩
      rcases List.mem_append.mp hp with hp | hp
      · exact hl.2 p hp
      · obtain ⟨y, hy, rfl⟩ := List.mem_map.mp hp
        obtain ⟨j, rfl, hj⟩ := h2 y hy
        exact ⟨k, j, rfl, hk, hj⟩
    refine .bif (fun _ => ?_) fun _ => ?_
    · obtain ⟨ys, e2, h1, h2⟩ := rng3_up (lo := k + (d + 1)) (hi := n) (c := d + 1) (by omega) (by omega) (by omega) (by omega)
      rw [show (k : Int) + ((d + 1 : Nat) : Int) = ((k + (d + 1) : Nat) : Int) by omega, e2, sb]
      exact key ys h1 fun y hy => by obtain ⟨j, e, _, hj⟩ := h2 y hy; exact ⟨j, e, hj⟩
    · rw [modO_eq (by omega), sb]
      obtain ⟨j, ej, hj⟩ := emod_nat (z := (k : Int)) (m := d + 1) (by omega)
      rw [ej, show (k : Int) + ((d + 1 : Nat) : Int) - (j : Int) = ((k + (d + 1) - j : Nat) : Int) by omega, rng_lo (by omega) (by omega), sb]
      refine key _ (by rw [rlo_len]; omega) fun y hy => ?_
      obtain ⟨i, hi, rfl⟩ := rlo_mem.mp hy
      exact ⟨_, rfl, by omega⟩
  · have hl1 : l.length ≤ 64 * 64 := Nat.le_trans hl.1 (Nat.mul_le_mul_right _ hn)
    refine .bind (turned_ok (by omega) hs) fun row hrow => ?_
    refine .bind (renamed_ok (by omega) hl.2 hrow.1) fun w hw => .one ⟨⟨hw.1, by rw [hw.2.1]; omega, hw.2.2.1, hrow.1⟩, hrow.2⟩
theorem order_ok {n t : Nat} {s : Rd} (hn : n ≤ 10) (ht : 0 < t) (ht2 : t < 1000) (h : RI s) : Ok (M_law_order ((n : Int), (t : Int), ()) s) fun w => Or1 w.1 n ∧ RI w.2 := by
  unfold M_law_order
  simp only [bassoc, sb, bind_id, bind_eta, rng_nat (n := n) (show n ≤ 1000000 by omega)]
  refine .bind (turned_ok (by omega) h) fun row hrow => ?_
  obtain ⟨hN, hs⟩ := hrow
  have R := Rw.perm hN
  have inj : ∀ i j, i < n → j < n → rwv row.1 i = rwv row.1 j → i = j := fun i j hi hj e => by
    have nd : row.1.Nodup := hN.nodup_iff.mpr (rl_nodup n)
    have hl : row.1.length = n := by rw [hN.length_eq, rl_len]
    have a1 := (R.at hi).1
    have a2 := (R.at hj).1
    rw [CC.atI_nat (by omega)] at a1 a2
    have q : row.1[i]'(by omega) = row.1[j]'(by omega) := by rw [Option.some.inj a1, Option.some.inj a2, e]
    exact (List.getElem_inj nd).mp q
  -- what stands below the i-th of the row: some of those ahead, each once
  let Lw : Nat → List Int → Prop := fun i l => l.Nodup ∧ ∀ z ∈ l, ∃ k : Nat, k < i ∧ z = (rwv row.1 k : Int)
  have hlen : ∀ i l, i ≤ n → Lw i l → l.length ≤ i := fun i l hi h => by
    have := nodup_len (m := (List.range i).map fun k => (rwv row.1 k : Int)) h.1 fun z hz => by
      obtain ⟨k, hk, rfl⟩ := h.2 z hz
      exact List.mem_map.mpr ⟨k, List.mem_range.mpr hk, rfl⟩
    rwa [List.length_map, List.length_range] at this
  rw [mapM_is (g := fun _ => ([] : List Int)) (by rw [rl_len]; omega) fun _ _ => rfl, sb]
  refine .bind (foldR_ok (fun j (w : Rd × List (List Int)) => RI w.1 ∧ w.2.length = n ∧ ∀ i, i < n → ∃ l, atI w.2 (rwv row.1 i : Int) = some l ∧ Lw i l) ⟨hs, by rw [List.length_map, rl_len], fun i hi => ⟨[], atI_nat? (by rw [List.getElem?_map, rl_get (R.at hi).2]; rfl), List.nodup_nil, by simp⟩⟩ fun j w hj hw => ?_) fun w hw => ?_
  · obtain ⟨w1, w2, w3⟩ := hw
    rw [rng_nat (n := j) (show j ≤ 1000000 by omega), sb]
    refine .bind (foldR_ok (fun _ (u : Rd × List Int) => RI u.1 ∧ Lw j u.2) ⟨w1, List.nodup_nil, by simp⟩ fun k u hk hu => ?_) fun u hu => ?_
    · rw [show (j : Int) - 1 - (k : Int) = ((j - 1 - k : Nat) : Int) by omega, (R.at (x := j - 1 - k) (by omega)).1, sb]
      obtain ⟨l, l1, l2⟩ := w3 (j - 1 - k) (by omega)
      refine .bind (P := fun q : Bool × Rd => RI q.2 ∧ (q.1 = true → (rwv row.1 (j - 1 - k) : Int) ∉ u.2)) (.bif (fun e => ?_) fun _ => .one ⟨hu.1, fun e => nomatch e⟩) fun q hq => ?_
      · refine .bind (draw_nat ht (by omega) hu.1) fun r hr => .one ⟨hr.2, fun _ => by simpa using e⟩
      · refine .bif (fun e => ?_) fun _ => .one ⟨hq.1, hu.2⟩
        have hx := hq.2 e
        have hl1 := hlen _ _ (by omega) l2
        have hl2 := hlen _ _ (by omega) hu.2
        rw [l1, sb, catM_eq (by simp only [List.length_cons, List.length_nil]; omega), sb, compM_eq (p := fun z => !decide (z ∈ u.2)) (g := fun z => z) (by simp only [List.length_append, List.length_cons, List.length_nil]; omega) (fun _ _ => rfl) fun _ _ _ => rfl, sb, List.map_id']
        have hf := List.length_filter_le (fun z => !decide (z ∈ u.2)) ([(rwv row.1 (j - 1 - k) : Int)] ++ l)
        simp only [List.length_append, List.length_cons, List.length_nil] at hf
        rw [catM_eq (by omega), sb]
        refine .one ⟨hq.1, ?_, fun z hz => ?_⟩
        · refine List.nodup_append.mpr ⟨hu.2.1, List.Pairwise.filter _ (?_ : List.Nodup ([(rwv row.1 (j - 1 - k) : Int)] ++ l)), fun a ha b hb e => ?_⟩
          · refine List.nodup_append.mpr ⟨List.nodup_cons.mpr ⟨List.not_mem_nil, List.nodup_nil⟩, l2.1, fun a ha b hb e => ?_⟩
            obtain ⟨i, hi, rfl⟩ := l2.2 b hb
            rw [List.mem_singleton.mp ha] at e
            have := inj (j - 1 - k) i (by omega) (by omega) (by omega)
            omega
          · have := (List.mem_filter.mp hb).2
            rw [← e] at this
            simp [ha] at this
        · rcases List.mem_append.mp hz with hz | hz
          · exact hu.2.2 z hz
          · rcases List.mem_append.mp (List.mem_filter.mp hz).1 with hz | hz
            · exact ⟨j - 1 - k, by omega, List.mem_singleton.mp hz⟩
            · obtain ⟨i, hi, e⟩ := l2.2 z hz
              exact ⟨i, by omega, e⟩
    · have hlt : rwv row.1 j < w.2.length := by rw [w2]; exact (R.at hj).2
      rw [(R.at hj).1, sb, setAt_nat hlt, sb]
      refine .one ⟨hu.1, by rw [List.length_set]; exact w2, fun i hi => ?_⟩
      by_cases e : i = j
      · subst e
        exact ⟨u.2, by rw [CC.atI_nat (k := rwv row.1 i) (by rw [List.length_set]; exact hlt), List.getElem_set_self], hu.2⟩
      · obtain ⟨l, l1, l2⟩ := w3 i hi
        refine ⟨l, ?_, l2⟩
        have hli : rwv row.1 i < w.2.length := by rw [w2]; exact (R.at hi).2
        rw [CC.atI_nat hli] at l1
        rw [CC.atI_nat (k := rwv row.1 i) (by rw [List.length_set]; exact hli), List.getElem_set_ne (fun q => e (inj i j hi hj q.symm))]
        exact l1
  · obtain ⟨w1, w2, w3⟩ := hw
    refine .bind (foldR_ok (fun k (l : List (Int × Int)) => l.length ≤ k * 10 ∧ ∀ p ∈ l, Bd n p) ⟨Nat.zero_le _, by simp⟩ fun k l hk hl => ?_) fun l hl => .one ⟨⟨rfl, ?_, fun p hm => hl.2 p ((isort_perm leP l).mem_iff.mp hm), hN⟩, w1⟩
    · have hm : (k : Int) ∈ row.1 := hN.mem_iff.mpr (rl_mem.mpr ⟨k, hk, rfl⟩)
      obtain ⟨i, hi1, hi2⟩ := List.mem_iff_getElem.mp hm
      have hi : i < n := by rwa [hN.length_eq, rl_len] at hi1
      have ei := (R.at hi).1
      rw [CC.atI_nat hi1, hi2] at ei
      have ei := Option.some.inj ei
      obtain ⟨q, q1, q2⟩ := w3 i hi
      rw [← ei] at q1
      have hq := hlen _ _ (by omega) q2
      rw [q1, sb, mapM_is (g := fun y => (y, (k : Int))) (by omega) fun _ _ => rfl, sb, catM_eq (by rw [List.length_map]; have := hl.1; omega)]
      refine .one ⟨by rw [List.length_append, List.length_map]; have := hl.1; omega, fun p hp => ?_⟩
      rcases List.mem_append.mp hp with hp | hp
      · exact hl.2 p hp
      · obtain ⟨y, hy, rfl⟩ := List.mem_map.mp hp
        obtain ⟨c, hc, rfl⟩ := q2.2 y hy
        exact ⟨_, _, rfl, (R.at (x := c) (by omega)).2, hk⟩
    · show (isort leP l).length ≤ _
      rw [(isort_perm leP l).length_eq]
      have := hl.1
      omega
end K31
set_option maxHeartbeats 1000000
namespace K31
open PySem PySem.Spec L2 CC
open PyProof.Rows hiding St
theorem pow_ok {x j : Int} (h : 0 ≤ j ∧ j ≤ 1000000 ∧ x.natAbs < 2 ^ 64) : ∃ v, powO x j = some v := ⟨_, if_pos h⟩
/-- values below 64 -/
def Lo (n : Nat) (l : List Int) : Prop := l.length = n ∧ ∀ z ∈ l, 0 ≤ z ∧ z < 64
theorem Lo.set {n : Nat} {l : List Int} {x : Nat} {z : Int} (h : Lo n l) (hx : x < n) (hz : 0 ≤ z ∧ z < 64) : setAt l (x : Int) z = some (l.set x z) ∧ Lo n (l.set x z) := ⟨setAt_nat (by rw [h.1]; exact hx), by rw [List.length_set]; exact h.1, fun y hy => by
  rcases List.mem_or_eq_of_mem_set hy with q | rfl
  · exact h.2 y q
  · exact hz⟩
theorem labels_ok {n most : Nat} {line : List Int} {s : Rd} (hn : n ≤ 64) (h1 : 0 < most) (h2 : most ≤ 64) (hL : line.Perm (rl n)) (h : RI s) : Ok (M_law_labels (line, (most : Int), ()) s) fun w => w.1.length = n ∧ RI w.2 := by
  unfold M_law_labels
  have hll : line.length = n := by rw [hL.length_eq, rl_len]
  simp only [bassoc, sb, bind_id, bind_eta, hll, rng_nat (n := n) (show n ≤ 1000000 by omega)]
  refine .bind (draw_nat (m := 6) (by omega) (by omega) h) fun way hway => ?_
  obtain ⟨_, hs⟩ := hway
  refine .bind (mapRE_ok (fun _ s => RI s) (fun _ z => 0 ≤ z ∧ z < 64) (by omega) hs fun k s hk hs => ?_) fun c0 hc0 => ?_
  · refine .bind (draw_nat h1 (by omega) hs) fun d hd => ?_
    obtain ⟨⟨d', ed, hd'⟩, hs⟩ := hd
    rw [ed, show (1 : Int) + (d' : Int) = ((d' + 1 : Nat) : Int) by omega]
    refine (draw_nat (m := d' + 1) (by omega) (by omega) hs).mono fun r hr => ?_
    obtain ⟨⟨k, ek, hk⟩, hs⟩ := hr
    exact ⟨by omega, hs⟩
  have hc : Lo n c0.1 := ⟨hc0.1, fun z hz => by
    obtain ⟨k, hk⟩ := List.mem_iff_getElem?.mp hz
    exact hc0.2.1 k z hk⟩
  refine .bind (P := fun w : Rd × List Int => RI w.1 ∧ Lo n w.2) (.bif (fun _ => ?_) fun _ => .one ⟨hc0.2.2, hc⟩) fun a ha => ?_
  · refine .bind (fold_ok (fun _ (w : Rd × List Int × Int) => RI w.1 ∧ Lo n w.2.1 ∧ 0 ≤ w.2.2 ∧ w.2.2 < 64) ⟨hc0.2.2, hc, (show (0 : Int) ≤ 0 by decide), (show (0 : Int) < 64 by decide)⟩ fun pre x w hx hw => ?_) fun w hw => .one ⟨hw.1, hw.2.1⟩
    obtain ⟨w1, w2, w3, w4⟩ := hw
    obtain ⟨i, hi, rfl⟩ := rl_mem.mp (hL.mem_iff.mp hx)
    refine .bind (draw_nat (m := 3) (by omega) (by omega) w1) fun d hd => ?_
    have hb : ∀ b : Bool, 0 ≤ CC.b2i b ∧ CC.b2i b ≤ 1 := fun b => by cases b <;> decide
    have hb' := hb (decide (d.1 = 0))
    generalize hv : (if w.2.2 + CC.b2i (decide (d.1 = 0)) < (most : Int) - 1 then w.2.2 + CC.b2i (decide (d.1 = 0)) else (most : Int) - 1) = v
    have hv' : 0 ≤ v ∧ v < 64 := by
      rw [← hv]
      split <;> omega
    obtain ⟨s1, s2⟩ := w2.set hi hv'
    rw [s1, sb]
    exact .one ⟨hd.2, s2, hv'.1, hv'.2⟩
  · refine .bind (P := fun l => Lo n l) (.bif (fun _ => ?_) fun _ => .one ha.2) fun l hl => ?_
    · rw [mapM_is (g := fun _ => (0 : Int)) (by rw [rl_len]; omega) fun _ _ => rfl]
      exact .one ⟨by rw [List.length_map, rl_len], fun z hz => by
        obtain ⟨_, _, rfl⟩ := List.mem_map.mp hz
        omega⟩
    refine .bind (P := fun b : Bool => b = true → n ≤ most) (.bif (fun _ => .one fun e => by have := of_decide_eq_true e; omega) fun _ => .one fun e => nomatch e) fun b hb => ?_
    refine .bind (P := fun w : Rd × List Int => RI w.1 ∧ Lo n w.2) (.bif (fun e => ?_) fun _ => .one ⟨ha.1, hl⟩) fun w hw => ?_
    · have hnm := hb e
      have hrl : Lo n (rl n) := ⟨rl_len n, fun z hz => by
        obtain ⟨k, hk, rfl⟩ := rl_mem.mp hz
        omega⟩
      refine .bind (P := fun b : Bool => b = true → 0 < n) (.bif (fun _ => .one fun e => by have := of_decide_eq_true e; omega) fun _ => .one fun e => nomatch e) fun b hb2 => ?_
      refine .bif (fun e2 => ?_) fun _ => .one ⟨ha.1, hrl⟩
      have hn0 := hb2 e2
      refine .bind (draw_nat hn0 (by omega) ha.1) fun x hx => ?_
      obtain ⟨⟨x', ex, hx'⟩, hs⟩ := hx
      refine .bind (draw_nat hn0 (by omega) hs) fun y hy => ?_
      obtain ⟨⟨y', ey, hy'⟩, hs⟩ := hy
      obtain ⟨s1, s2⟩ := hrl.set (x := y') (z := x.1) hy' (by omega)
      rw [ey, s1, sb]
      exact .one ⟨hs, s2⟩
    · obtain ⟨v57, e57⟩ := pow_ok (x := 10) (j := 57) (by decide)
      obtain ⟨v59, e59⟩ := pow_ok (x := 10) (j := 59) (by decide)
      rw [e57, sb]
      refine .bind (one_ok (by simp) (by simp) hw.1) fun st hst => ?_
      refine .bind (turned_ok (n := 64) (by omega) hst.2) fun nums hnums => ?_
      refine .bind (draw_nat (m := 100) (by omega) (by omega) hnums.2) fun q hq => ?_
      obtain ⟨⟨q', eq, hq'⟩, hs⟩ := hq
      rw [mulO_l (by omega) (by omega), sb]
      refine .bind (P := fun w : Rd × Int => RI w.1) (.bif (fun _ => ?_) fun _ => .one hs) fun z hz => ?_
      · rw [e59, sb, sb]
        exact .bind (one_ok (by simp) (by simp) hs) fun r hr => .one hr.2
      · have hR := Rw.perm hnums.1
        rw [mapM_is (g := fun c => (rwv nums.1 c.toNat : Int) * st.1 - z.2) (by rw [hw.2.1]; omega) fun c hc => by
          obtain ⟨c1, c2⟩ := hw.2.2 c hc
          obtain ⟨k, rfl⟩ := Int.eq_ofNat_of_zero_le c1
          obtain ⟨r1, r2⟩ := hR.at (x := k) (by omega)
          rw [r1, sb, mulO_l (by omega) (by omega), sb, Int.toNat_natCast], sb]
        exact .one ⟨by rw [List.length_map]; exact hw.2.1, hz⟩
/-! ### alike -/
theorem same_non (d : Nat) : M_law_same (d + 1) (.non, .non, ()) = some true := by
  show N_law_same (M_law_same d) _ = _
  unfold N_law_same
  simp [pN]
theorem same_int (d : Nat) (i : Int) : M_law_same (d + 1) (.int i, .int i, ()) = some true := by
  show N_law_same (M_law_same d) _ = _
  unfold N_law_same
  simp [pT, pL, pN, pS, pI, pB, eqA]
theorem same_tup {d : Nat} {xs : List PV} (hl : xs.length ≤ 1000000) (h : ∀ x ∈ xs, M_law_same d (x, x, ()) = some true) : M_law_same (d + 1) (.tup xs, .tup xs, ()) = some true := by
  show N_law_same (M_law_same d) _ = _
  unfold N_law_same
  simp only [pN, pT, pL, cond_true, Bool.not_true, cond_false, lenA, bassoc, sb, decide_true, rng_nat (n := xs.length) hl]
  rw [mapM_is (g := fun _ => true) (by rw [rl_len]; exact hl) fun x hx => ?_, sb]
  · have : ¬ (false ∈ (rl xs.length).map fun _ => true) := by simp
    rw [decide_eq_false this]
    rfl
  · obtain ⟨j, hj, rfl⟩ := rl_mem.mp hx
    simp only [ixA, CC.atI_nat hj, sb, h _ (List.getElem_mem hj)]
abbrev toV (u : Int × List (Int × Int)) : PV := PV.tup [PV.int u.1, PV.tup (u.2.map (fun u => PV.tup [PV.int u.1, PV.int u.2]))]
theorem same_res {o : Option (Int × List (Int × Int))} (h : ∀ w, o = some w → w.2.length ≤ 1000000) : M_law_same 6 (optV toV o, optV toV o, ()) = some true := by
  cases o with
  | none => exact same_non 5
  | some w =>
    refine same_tup (by simp) fun x hx => ?_
    simp only [List.mem_cons, List.not_mem_nil, or_false] at hx
    rcases hx with rfl | rfl
    · exact same_int 4 _
    · refine same_tup (by rw [List.length_map]; exact h w rfl) fun x hx => ?_
      obtain ⟨r, hr, rfl⟩ := List.mem_map.mp hx
      refine same_tup (by simp) fun x hx => ?_
      simp only [List.mem_cons, List.not_mem_nil, or_false] at hx
      rcases hx with rfl | rfl
      · exact same_int 2 _
      · exact same_int 2 _
theorem right_ok {n : Nat} {ps : List (Int × Int)} {l : List Int} (hn : n ≤ 64) (hl : l.length = n) (hps : ps.length ≤ 1000000) (hp : ∀ p ∈ ps, Bd n p) : M_law_right (((n : Int), ps), l, ()) = some true := by
  unfold M_law_right
  have hs : M_law_same 6 (optV toV (res (dd l).length (fw (dd l).length (R0 ps l))), optV toV (res (dd l).length (fw (dd l).length (R0 ps l))), ()) = some true := same_res fun w hw => by
    unfold res at hw
    split at hw
    · cases hw
    · have hw := (Option.some.inj hw).symm
      subst hw
      have h1 := prs_len (k := (dd l).length) (R := fw (dd l).length (R0 ps l)) (dd l).length
      have h2 := dd_len l
      have h3 : (dd l).length * (dd l).length ≤ 64 * 64 := Nat.mul_le_mul (by omega) (by omega)
      show (prsOf _ _).length ≤ _
      unfold prsOf
      omega
  refine Ok.eq_some ?_
  rw [classes_ok (show l.length ≤ 1000 by omega), sb, sb, sb, law_quotient_ok hn hl hp, sb, quotient_ok hn hl hps hp, sb, sb, sb, hs, sb]
  show Ok (some true) _
  exact .one rfl
/-! ### a ring of classes -/
theorem ring_none {k c : Nat} {R : Nat → Nat → Bool} {f : Nat → Nat} (hc : 0 < c) (hlo : ∀ j, j < c → f j < k) (h : ∀ j, j < c → R (f j) (f ((j + 1) % c)) = true) : res k (fw k R) = none := by
  have step : ∀ j, j + 1 < c → fw k R (f 0) (f (j + 1)) = true := by
    intro j
    induction j with
    | zero =>
      intro hj
      have := h 0 hc
      rw [Nat.mod_eq_of_lt hj] at this
      exact fw_sub this k
    | succ j ih =>
      intro hj
      have h1 := ih (by omega)
      have h2 := h (j + 1) (by omega)
      rw [Nat.mod_eq_of_lt (show j + 1 + 1 < c by omega)] at h2
      exact fw_tr k (f (j + 1)) (hlo _ (by omega)) _ _ h1 (fw_sub h2 k)
  unfold res
  rw [if_pos ((any_rl (p := fun x => fw k R x x)).mpr ⟨f 0, hlo 0 hc, ?_⟩)]
  by_cases e : c = 1
  · subst e
    exact fw_sub (h 0 hc) k
  · have h1 := step (c - 2) (by omega)
    have h2 := h (c - 1) (by omega)
    rw [show c - 1 + 1 = c by omega, Nat.mod_self] at h2
    rw [show c - 2 + 1 = c - 1 by omega] at h1
    exact fw_tr k _ (hlo _ (by omega)) _ _ h1 (fw_sub h2 k)
theorem ring_ok {n : Nat} {ps : List (Int × Int)} {s : Rd} (hn : n ≤ 10) (hps : ps.length ≤ 10000) (hp : ∀ p ∈ ps, Bd n p) (h : RI s) : Ok (M_law_ring_right (((n : Int), ps), ()) s) fun w => w.1 = true ∧ RI w.2 := by
  unfold M_law_ring_right
  simp only [bassoc, sb, bind_id, bind_eta]
  refine .bind (draw_nat (m := 3) (by omega) (by omega) h) fun d hd => ?_
  obtain ⟨⟨d', ed, hd'⟩, hs⟩ := hd
  rw [ed]
  obtain ⟨c, ec, hc1, hc2⟩ : ∃ c : Nat, (2 : Int) + (d' : Int) = (c : Int) ∧ 2 ≤ c ∧ c ≤ 4 := ⟨d' + 2, by omega, by omega, by omega⟩
  have e2 : ∀ k : Nat, k ≤ 100 → mulO (2 : Int) (k : Int) = some (((2 * k : Nat) : Int)) := fun k hk => by
    rw [mulO_l (by omega) (by omega)]
    exact congrArg some (by omega)
  have eN : (n : Int) + ((2 * c : Nat) : Int) = ((n + 2 * c : Nat) : Int) := by omega
  rw [ec]
  simp only [e2 c (by omega), sb, eN, rng_nat (n := c) (show c ≤ 1000000 by omega), rng_nat (n := n + 2 * c) (show n + 2 * c ≤ 1000000 by omega)]
  rw [mapM_is (g := fun k : Int => ((n : Int) + 2 * k, (n : Int) + 2 * k + 1)) (by rw [rl_len]; omega) fun x hx => by
    obtain ⟨k, hk, rfl⟩ := rl_mem.mp hx
    rw [e2 k (by omega), sb, sb]
    exact congrArg some (Prod.ext (by simp only; omega) (by simp only; omega)), sb, catM_eq (by rw [List.length_map, rl_len]; omega), sb]
  refine .bind (turned_ok (n := n + 2 * c) (by omega) hs) fun row hrow => ?_
  obtain ⟨hN, hs⟩ := hrow
  have R := Rw.perm hN
  generalize hN' : n + 2 * c = N at hN R
  have inj : ∀ i j, i < N → j < N → rwv row.1 i = rwv row.1 j → i = j := fun i j hi hj e => by
    have nd : row.1.Nodup := hN.nodup_iff.mpr (rl_nodup N)
    have hl : row.1.length = N := by rw [hN.length_eq, rl_len]
    have a1 := (R.at hi).1
    have a2 := (R.at hj).1
    rw [CC.atI_nat (by omega)] at a1 a2
    have q : row.1[i]'(by omega) = row.1[j]'(by omega) := by rw [Option.some.inj a1, Option.some.inj a2, e]
    exact (List.getElem_inj nd).mp q
  have hB : ∀ p ∈ ps ++ (rl c).map (fun k : Int => ((n : Int) + 2 * k, (n : Int) + 2 * k + 1)), Bd N p := fun p hm => by
    rcases List.mem_append.mp hm with hm | hm
    · obtain ⟨x, y, rfl, hx, hy⟩ := hp p hm
      exact ⟨x, y, rfl, by omega, by omega⟩
    · obtain ⟨z, hz, rfl⟩ := List.mem_map.mp hm
      obtain ⟨k, hk, rfl⟩ := rl_mem.mp hz
      exact ⟨n + 2 * k, n + 2 * k + 1, by simp only [Prod.mk.injEq]; omega, by omega, by omega⟩
  refine .bind (renamed_ok (n := N) (by rw [List.length_append, List.length_map, rl_len]; omega) hB hN) fun wide hw => ?_
  obtain ⟨w1, w2⟩ := wide
  obtain ⟨e1, hwl, hwB, hwM⟩ := hw
  simp only at e1 hwl hwB hwM
  subst e1
  rw [List.length_append, List.length_map, rl_len] at hwl
  have hmodlt : ∀ j, (j + 1) % c < c := fun j => Nat.mod_lt _ (by omega)
  -- the labels
  refine .bind (foldR_ok (fun k (l : List Int) => l.length = N ∧ (∀ j, j < c → atI l (rwv row.1 (n + 2 * j) : Int) = some (rwv row.1 (n + 2 * j) : Int)) ∧ ∀ j, j < k → atI l (rwv row.1 (n + 2 * j + 1) : Int) = some (rwv row.1 (n + 2 * ((j + 1) % c)) : Int)) ⟨rl_len N, fun j hj => atI_nat? (rl_get (R.at (by omega)).2), fun j hj => absurd hj (Nat.not_lt_zero _)⟩ fun k l hk hl => ?_) fun l hl => ?_
  · obtain ⟨l1, l2, l3⟩ := hl
    have em : ((k : Int) + 1) % (c : Int) = (((k + 1) % c : Nat) : Int) := by
      rw [Int.natCast_emod]
      rfl
    have hm := hmodlt k
    rw [modO_eq (by omega), sb, em, e2 _ (by omega), sb, show (n : Int) + ((2 * ((k + 1) % c) : Nat) : Int) = ((n + 2 * ((k + 1) % c) : Nat) : Int) by omega, (R.at (x := n + 2 * ((k + 1) % c)) (by omega)).1, sb, l2 _ hm, sb, e2 k (by omega), sb, show (n : Int) + ((2 * k : Nat) : Int) + 1 = ((n + 2 * k + 1 : Nat) : Int) by omega, (R.at (x := n + 2 * k + 1) (by omega)).1, sb]
    have hlt : rwv row.1 (n + 2 * k + 1) < l.length := by rw [l1]; exact (R.at (by omega)).2
    rw [setAt_nat hlt]
    have ne : ∀ (i : Nat) (v : Int), i < N → i ≠ n + 2 * k + 1 → atI (l.set (rwv row.1 (n + 2 * k + 1)) v) (rwv row.1 i : Int) = atI l (rwv row.1 i : Int) := fun i v hi hne => by
      have hli : rwv row.1 i < l.length := by rw [l1]; exact (R.at hi).2
      rw [CC.atI_nat (k := rwv row.1 i) (by rw [List.length_set]; exact hli), CC.atI_nat hli, List.getElem_set_ne (fun q => hne (inj _ _ hi (by omega) q.symm))]
    refine .one ⟨by rw [List.length_set]; exact l1, fun j hj => by rw [ne _ _ (by omega) (by omega)]; exact l2 j hj, fun j hj => ?_⟩
    by_cases e : j = k
    · subst e
      rw [CC.atI_nat (k := rwv row.1 (n + 2 * j + 1)) (by rw [List.length_set]; exact hlt), List.getElem_set_self]
    · rw [ne _ _ (by omega) (by omega)]
      exact l3 j (by omega)
  · obtain ⟨l1, l2, l3⟩ := hl
    have hq : M_quotient (((N : Int), w2), l, ()) = some none := by
      rw [quotient_ok (by omega) l1 (by omega) hwB]
      congr 1
      have hlt : ∀ i, i < N → rwv row.1 i < l.length := fun i hi => by rw [l1]; exact (R.at hi).2
      refine ring_none (c := c) (f := fun j => cl l (rwv row.1 (n + 2 * j))) (by omega) (fun j hj => cl_lt (hlt _ (by omega))) fun j hj => ?_
      have hm := hmodlt j
      have b1 := hlt (n + 2 * j) (by omega)
      have b2 := hlt (n + 2 * j + 1) (by omega)
      have b3 := hlt (n + 2 * ((j + 1) % c)) (by omega)
      have v1 := l2 j hj
      have v2 := l3 j hj
      have v3 := l2 ((j + 1) % c) hm
      rw [CC.atI_nat b1] at v1
      rw [CC.atI_nat b2] at v2
      rw [CC.atI_nat b3] at v3
      have v1 := Option.some.inj v1
      have v2 := Option.some.inj v2
      have v3 := Option.some.inj v3
      have ec : cl l (rwv row.1 (n + 2 * j + 1)) = cl l (rwv row.1 (n + 2 * ((j + 1) % c))) := cl_eq b2 b3 (v2.trans v3.symm)
      unfold R0
      rw [List.any_eq_true]
      refine ⟨_, hwM (n + 2 * j) (n + 2 * j + 1) (List.mem_append_right _ (List.mem_map.mpr ⟨(j : Int), rl_mem.mpr ⟨j, hj, rfl⟩, by simp only [Prod.mk.injEq]; omega⟩)), decide_eq_true ⟨by rw [Int.toNat_natCast], by rw [Int.toNat_natCast]; exact ec, ?_⟩⟩
      rw [← ec]
      refine cl_ne b1 b2 ?_
      rw [v1, v2]
      intro q
      have q' : rwv row.1 (n + 2 * j) = rwv row.1 (n + 2 * ((j + 1) % c)) := by omega
      have := inj _ _ (by omega) (by omega) q'
      have h3 : j = (j + 1) % c := by omega
      by_cases hj2 : j + 1 < c
      · rw [Nat.mod_eq_of_lt hj2] at h3
        omega
      · have : j + 1 = c := by omega
        rw [this, Nat.mod_self] at h3
        omega
    rw [hq, sb]
    refine Ok.bind (P := fun b => b = false) (.bif (fun e => by cases e) fun _ => ?_) fun b hb => ?_
    · rw [sb]
      exact .one rfl
    rw [hb]
    refine .bif (fun e => by cases e) fun _ => ?_
    refine .bind (draw_nat (m := c) (by omega) (by omega) hs) fun q hq => ?_
    obtain ⟨⟨q', eq, hq'⟩, hs⟩ := hq
    rw [eq, e2 q' (by omega), sb, show (n : Int) + ((2 * q' : Nat) : Int) + 1 = ((n + 2 * q' + 1 : Nat) : Int) by omega, (R.at (x := n + 2 * q' + 1) (by omega)).1, sb, setAt_nat (by rw [l1]; exact (R.at (by omega)).2), sb]
    rw [right_ok (by omega) (by rw [List.length_set]; exact l1) (by omega) hwB, sb]
    exact .one ⟨rfl, hs⟩
theorem law_ok (ns : List Int) (h : ns.length ≤ 63) : M_law (ns, ()) = some true := by
  refine Ok.eq_some ?_
  unfold M_law
  simp only [bassoc, sb, bind_id, bind_eta]
  refine .bind (start_ok ns) fun s hs => ?_
  refine .bind (draw_nat (m := 6) (by omega) (by omega) hs) fun d hd => .bif (fun _ => ?_) fun _ => ?_
  · refine .bind (draw_nat (m := 65) (by omega) (by omega) hd.2) fun n hn => ?_
    obtain ⟨⟨n', en, hn'⟩, hs⟩ := hn
    rw [en]
    refine .bind (large_ok (by omega) hs) fun o ho => ?_
    obtain ⟨⟨⟨o1, ops⟩, oline⟩, os⟩ := o
    obtain ⟨⟨e1, h2, h3, h4⟩, hs⟩ := ho
    simp only at e1 h2 h3 h4 hs
    subst e1
    have l3 : ∀ x ∈ ([(8 : Int), 20, 64] : List Int), ∃ m : Nat, x = (m : Int) ∧ 0 < m ∧ m ≤ 64 := fun x hx => by
      simp only [List.mem_cons, List.not_mem_nil, or_false] at hx
      rcases hx with rfl | rfl | rfl
      · exact ⟨8, rfl, by omega, by omega⟩
      · exact ⟨20, rfl, by omega, by omega⟩
      · exact ⟨64, rfl, by omega, by omega⟩
    refine .bind (one_ok (by simp) (by simp) hs) fun m hm => ?_
    obtain ⟨m', em, m1, m2⟩ := l3 _ hm.1
    rw [em]
    refine .bind (labels_ok (by omega) m1 m2 h4 hm.2) fun l hl => ?_
    rw [right_ok (by omega) hl.1 (by omega) h3, sb]
    refine Ok.bind (P := fun q : Bool × Rd => q.1 = true) (.bif (fun _ => ?_) fun e => by cases e) fun q hq => .one hq
    refine .bind (labels_ok (most := 3) (by omega) (by omega) (by omega) h4 hl.2) fun l hl => ?_
    rw [right_ok (by omega) hl.1 (by omega) h3, sb]
    exact .one rfl
  · refine .bind (draw_nat (m := 11) (by omega) (by omega) hd.2) fun n hn => ?_
    obtain ⟨⟨n', en, hn'⟩, hs⟩ := hn
    rw [en]
    refine .bind (draw_nat (m := 3) (by omega) (by omega) hs) fun t ht => ?_
    obtain ⟨⟨t', et, ht'⟩, hs⟩ := ht
    rw [et, show (2 : Int) + (t' : Int) = ((t' + 2 : Nat) : Int) by omega]
    refine .bind (order_ok (by omega) (by omega) (by omega) hs) fun o ho => ?_
    obtain ⟨⟨⟨o1, ops⟩, oline⟩, os⟩ := o
    obtain ⟨⟨e1, h2, h3, h4⟩, hs⟩ := ho
    simp only at e1 h2 h3 h4 hs
    subst e1
    rw [show rng 0 (3 : Int) = some (rl 3) from rng_nat (n := 3) (show 3 ≤ 1000000 by decide), sb]
    refine .bind (loopR_ok (fun _ s => RI s) hs fun k s _ hs => ?_) fun w hw => ?_
    · refine .bind (labels_ok (most := 10) (by omega) (by omega) (by omega) h4 hs) fun l hl => ?_
      rw [right_ok (by omega) hl.1 (by omega) h3, sb]
      refine .bif (fun e => by cases e) fun _ => ?_
      exact .one ⟨_, .inl rfl, hl.2⟩
    · obtain ⟨s', rfl, hs⟩ := hw
      show Ok (Option.bind _ _) _
      exact .bind (ring_ok (by omega) h2 h3 hs) fun q hq => .one hq.1
end K31
open PySem PySem.W PySem.Calls PyProof.Rows in
set_option maxHeartbeats 0 in
theorem PySem.Challenge.cw_chaincore_k31_quotients_holds : PySem.Challenge.rw_chaincore_k31_quotients.Holds := by
  w_on; o_law
  refine HandSHeadRun.head_any (r := OpenLaw.row PySem.Challenge.rw_chaincore_k31_quotients) (q := view (OpenLaw.row PySem.Challenge.rw_chaincore_k31_quotients).prog [27]) (H := K31.hk) (ob := K31.ob) (M := 3180) (loose := K31.loose) (d := HandSHeadRun.topDef (OpenLaw.row PySem.Challenge.rw_chaincore_k31_quotients).prog 27) (kwd := []) K31.ob_eq
    (by kernel_rfl) (fun s => by kernel_rfl) K31.run (by kernel_rfl) (by kernel_rfl) (by kernel_rfl) (by rfl) (by first | assumption | decide +kernel) (by decide +kernel) ⟨rfl, rfl, rfl, rfl, rfl, by decide +kernel⟩ ?hw ?hc
  case hw => w_witness2
  case hc =>
    refine L2.walk_ofE (l := PySem.Challenge.rw_chaincore_k31_quotients) (n := 63) (k := 10) (x := "script") (CX := L2.CX0) rfl (by decide) (by kernel_rfl) ⟨rfl, by decide, by decide⟩ ?F (fun _ _ _ _ z => z)
    intro w mg fa h Y G hmg0
    obtain ⟨K, KX, c⟩ := Y
    have hmg : mg ("law" : PySem.Str) = some (.ref fa) := by
      have e : (HandSHeadRun.topDef (OpenLaw.row PySem.Challenge.rw_chaincore_k31_quotients).prog 27).name = ("law" : PySem.Str) := by kernel_rfl
      rw [← e]
      exact hmg0
    obtain ⟨fd, hb, hF⟩ := K31.facts (P := (PySem.Challenge.rw_chaincore_k31_quotients).prog) (w := w) KX G hmg ⟨by decide +kernel, by decide +kernel⟩ c
    exact ⟨K, fd, _, KX, hb, fun H a ns hl _ hS => CC.law_in hS (K31.law_ok ns hl), hF⟩
