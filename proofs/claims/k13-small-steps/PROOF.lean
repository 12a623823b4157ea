import PyProof.Rows.All
import Wide.All
import OpenK.AllK
import Wide.FinOn
import HandS.ForMost
import HandS.Wide
import HandS.Exc
import HandS.ExcOwn
import HandS.TryOnly
import HandS.Dict
import HandS.IsInst
import HandS.SortRule
import HandS.Conv
import HandS.Style
import HandS.Defaults
import HandS.Small
import HandS.HeadHook1
import HandS.TupAny
import HandS.WordsDict
import HandS.MakeKwOnly
import HandS.SortInts
import HandS.HeadHook2
import HandS.Head2
import HandS.HeadEnd
import HandS.ExcIs
import KE.KExcIs
import KE.GoesMore
import KE.GoesEnum
import HandS.Iter
import HandS.WideBits
import HandS.More
import HandS.TupLe
import HandS.SetFor
import PyProof.AutoSeq1
import KE.KRevSl
import HandS.ExcInit
import HandS.Nested
import KE.KExcSuper
import KE.KSuper
import HandS.ExcField
import KE.KBits
import PySem.Challenge.RW_chaincore_k13_small_steps
set_option Elab.async false
set_option linter.all false
set_option maxRecDepth 100000
set_option maxHeartbeats 4000000
/-! A logic over the hand layer: worlds, what is shared, what is owned, and how a piece of Python follows its mirror. -/
namespace CC
open PySem PySem.Spec L2
open PyProof.Rows hiding St
/-! ### worlds -/
/-- the tracked heap, and the part of it that nobody changes any more -/
structure Wd where
  H : Hp
  B : Hp
def Ex (H H' : Hp) : Prop := ∀ a o, H a = some o → H' a = some o
theorem Ex.refl (H : Hp) : Ex H H := fun _ _ h => h
theorem Ex.trans {H H1 H2 : Hp} (a : Ex H H1) (b : Ex H1 H2) : Ex H H2 := fun x o h => b x o (a x o h)
theorem Ex.new {H : Hp} {p : Addr} {o : HO} (h : H p = none) : Ex H (upd H p o) := fun a u e => by
  rw [upd_ne (ne_of_none e h)]
  exact e
theorem Ex.ne {H H' : Hp} {a : Addr} (e : Ex H H') (h : H a ≠ none) : H' a ≠ none := by
  cases q : H a with
  | none => exact absurd q h
  | some o =>
    rw [e a o q]
    exact fun z => nomatch z
theorem Ex.eq {H H' : Hp} {a : Addr} (e : Ex H H') (h : H a ≠ none) : H' a = H a := by
  cases q : H a with
  | none => exact absurd q h
  | some o => exact e a o q
theorem Ex.back {H H' : Hp} {p : Addr} (e : Ex H H') (h : H' p = none) : H p = none := by
  cases h1 : H p with
  | none => rfl
  | some o =>
    rw [e p o h1] at h
    cases h
/-- things are added, nothing changes -/
structure Ext (W W' : Wd) : Prop where
  ok : Ex W'.B W'.H
  h : Ex W.H W'.H
  b : Ex W.B W'.B
  fr : ∀ a, W.H a ≠ none → W.B a = none → W'.B a = none
theorem Ext.refl {W : Wd} (ok : Ex W.B W.H) : Ext W W := ⟨ok, Ex.refl _, Ex.refl _, fun _ _ h => h⟩
theorem Ext.trans {W W1 W2 : Wd} (a : Ext W W1) (b : Ext W1 W2) : Ext W W2 :=
  ⟨b.ok, a.h.trans b.h, a.b.trans b.b, fun x h1 h2 => b.fr x (a.h.ne h1) (a.fr x h1 h2)⟩
/-- a new object, owned -/
theorem Ext.new {W : Wd} (ok : Ex W.B W.H) {p : Addr} {o : HO} (h : W.H p = none) : Ext W ⟨upd W.H p o, W.B⟩ :=
  ⟨ok.trans (Ex.new h), Ex.new h, Ex.refl _, fun _ _ h => h⟩
/-- a new object, shared -/
theorem Ext.newB {W : Wd} (ok : Ex W.B W.H) {p : Addr} {o : HO} (h : W.H p = none) : Ext W ⟨upd W.H p o, upd W.B p o⟩ := by
  refine ⟨fun a u e => ?_, Ex.new h, Ex.new (ok.back h), fun a h1 h2 => ?_⟩
  · by_cases z : a = p
    · subst z
      have e1 : upd W.B a o a = some u := e
      show upd W.H a o a = some u
      rw [upd_same] at e1 ⊢
      exact e1
    · have e' : W.B a = some u := by rw [← e]; exact (upd_ne z).symm
      show upd W.H p o a = some u
      rw [upd_ne z]
      exact ok a u e'
  · have z : a ≠ p := fun z => h1 (z ▸ h)
    show upd W.B p o a = none
    rw [upd_ne z]
    exact h2
/-- what is owned at F may change; F' is owned behind -/
structure Stp (W : Wd) (F : List Addr) (W' : Wd) (F' : List Addr) : Prop where
  ok : Ex W'.B W'.H
  b : Ex W.B W'.B
  h : ∀ a o, W.H a = some o → a ∉ F → W'.H a = some o
  al : ∀ a, W.H a ≠ none → W'.H a ≠ none
  fr : ∀ a, W.H a ≠ none → W.B a = none → a ∉ F → W'.B a = none
  fp : ∀ a ∈ F', a ∈ F ∨ W.H a = none
theorem Stp.refl {W : Wd} {F : List Addr} (ok : Ex W.B W.H) : Stp W F W F :=
  ⟨ok, Ex.refl _, fun _ _ h _ => h, fun _ h => h, fun _ _ h _ => h, fun _ h => .inl h⟩
theorem Stp.trans {W W1 W2 : Wd} {F F1 F2 : List Addr} (a : Stp W F W1 F1) (b : Stp W1 F1 W2 F2) : Stp W F W2 F2 where
  ok := b.ok
  b := a.b.trans b.b
  h := fun x o h n => b.h x o (a.h x o h n) fun z => by
    rcases a.fp x z with z | z
    · exact n z
    · rw [h] at z; cases z
  al := fun x h => b.al x (a.al x h)
  fr := fun x h1 h2 n => b.fr x (a.al x h1) (a.fr x h1 h2 n) fun z => by
    rcases a.fp x z with z | z
    · exact n z
    · exact h1 z
  fp := fun x hx => by
    rcases b.fp x hx with z | z
    · exact a.fp x z
    · refine .inr ?_
      cases q : W.H x with
      | none => rfl
      | some o => exact absurd z (a.al x (by rw [q]; exact fun z => nomatch z))
theorem Stp.perm {W W1 : Wd} {F F1 F2 : List Addr} (a : Stp W F W1 F1) (p : ∀ x ∈ F2, x ∈ F1) : Stp W F W1 F2 :=
  ⟨a.ok, a.b, a.h, a.al, a.fr, fun x h => a.fp x (p x h)⟩
theorem Stp.permL {W W1 : Wd} {F F0 F1 : List Addr} (a : Stp W F W1 F1) (p : ∀ x ∈ F, x ∈ F0) : Stp W F0 W1 F1 :=
  ⟨a.ok, a.b, fun x o h n => a.h x o h fun z => n (p x z), a.al, fun x h1 h2 n => a.fr x h1 h2 fun z => n (p x z), fun x h => (a.fp x h).imp (p x) id⟩
theorem Ext.stp {W W' : Wd} {F Fv : List Addr} (e : Ext W W') (fresh : ∀ a ∈ Fv, W.H a = none) : Stp W F W' (F ++ Fv) :=
  ⟨e.ok, e.b, fun x o h _ => e.h x o h, fun x h => e.h.ne h, fun x h1 h2 _ => e.fr x h1 h2, fun x hx => (List.mem_append.mp hx).imp id (fresh x)⟩
/-- with nothing owned a step only adds -/
theorem Stp.ext {W W' : Wd} {F' : List Addr} (s : Stp W [] W' F') : Ext W W' ∧ ∀ a ∈ F', W.H a = none :=
  ⟨⟨s.ok, fun a o h => s.h a o h (by simp), s.b, fun a h1 h2 => s.fr a h1 h2 (by simp)⟩, fun a ha => (s.fp a ha).resolve_left (by simp)⟩
/-! ### footprints -/
structure FpOk (W : Wd) (F : List Addr) : Prop where
  nd : F.Nodup
  al : ∀ a ∈ F, W.H a ≠ none
  fr : ∀ a ∈ F, W.B a = none
theorem FpOk.nil {W : Wd} : FpOk W [] := ⟨List.nodup_nil, fun _ h => (List.not_mem_nil h).elim, fun _ h => (List.not_mem_nil h).elim⟩
theorem FpOk.perm {W : Wd} {F F' : List Addr} (f : FpOk W F) (p : F.Perm F') : FpOk W F' :=
  ⟨p.nodup_iff.mp f.nd, fun a h => f.al a (p.mem_iff.mpr h), fun a h => f.fr a (p.mem_iff.mpr h)⟩
theorem FpOk.ext {W W' : Wd} {F : List Addr} (f : FpOk W F) (e : Ext W W') : FpOk W' F :=
  ⟨f.nd, fun a h => e.h.ne (f.al a h), fun a h => e.fr a (f.al a h) (f.fr a h)⟩
theorem FpOk.left {W : Wd} {F F' : List Addr} (f : FpOk W (F ++ F')) : FpOk W F :=
  ⟨(List.nodup_append.mp f.nd).1, fun a h => f.al a (List.mem_append_left _ h), fun a h => f.fr a (List.mem_append_left _ h)⟩
theorem FpOk.right {W : Wd} {F F' : List Addr} (f : FpOk W (F ++ F')) : FpOk W F' :=
  ⟨(List.nodup_append.mp f.nd).2.1, fun a h => f.al a (List.mem_append_right _ h), fun a h => f.fr a (List.mem_append_right _ h)⟩
theorem FpOk.disj {W : Wd} {F F' : List Addr} (f : FpOk W (F ++ F')) : ∀ a ∈ F, a ∉ F' := fun a h h' =>
  (List.nodup_append.mp f.nd).2.2 a h a h' rfl
theorem FpOk.app {W : Wd} {F F' : List Addr} (f : FpOk W F) (f' : FpOk W F') (d : ∀ a ∈ F, a ∉ F') : FpOk W (F ++ F') :=
  ⟨List.nodup_append.mpr ⟨f.nd, f'.nd, fun a h b h' e => d a h (e ▸ h')⟩, fun a h => (List.mem_append.mp h).elim (f.al a) (f'.al a), fun a h => (List.mem_append.mp h).elim (f.fr a) (f'.fr a)⟩
/-- an extension's new owned things stand apart from the old -/
theorem FpOk.fresh {W W' : Wd} {F Fv : List Addr} (f : FpOk W F) (e : Ext W W') (fv : FpOk W' Fv) (n : ∀ a ∈ Fv, W.H a = none) : FpOk W' (F ++ Fv) :=
  (f.ext e).app fv fun a h h' => f.al a h (n a h')
/-! ### descriptions -/
/-- a shared thing, described over the part that stands still -/
structure SP where
  P : Hp → V → Prop
  mono : ∀ {B B' v}, P B v → Ex B B' → P B' v
/-- a thing with what is owned of it -/
structure OP where
  C : Wd → V → List Addr → Prop
  loc : ∀ {W W' v F}, C W v F → Ex W.B W'.B → (∀ a ∈ F, W'.H a = W.H a) → C W' v F
def sh (p : SP) : OP := ⟨fun W v F => F = [] ∧ p.P W.B v, fun h e _ => ⟨h.1, p.mono h.2 e⟩⟩
theorem OP.ext (o : OP) {W W' : Wd} {v : V} {F : List Addr} (h : o.C W v F) (e : Ext W W') (f : FpOk W F) : o.C W' v F := o.loc h e.b fun a ha => e.h.eq (f.al a ha)
def intS (i : Int) : SP := ⟨fun _ v => v = .int i, fun h _ => h⟩
def boolS (b : Bool) : SP := ⟨fun _ v => v = .bl b, fun h _ => h⟩
def strS (z : Str) : SP := ⟨fun _ v => v = .str z, fun h _ => h⟩
def nonS : SP := ⟨fun _ v => v = .non, fun h _ => h⟩
def valS (x : V) : SP := ⟨fun _ v => v = x, fun h _ => h⟩
def optS {α : Type} (E : α → SP) : Option α → SP
  | none => nonS
  | some x => E x
/-- values one by one -/
def Each {α : Type} (E : α → SP) (B : Hp) : List V → List α → Prop
  | [], [] => True
  | v :: vs, x :: xs => (E x).P B v ∧ Each E B vs xs
  | _, _ => False
theorem Each.mono {α : Type} {E : α → SP} {B B' : Hp} (e : Ex B B') : ∀ {vs : List V} {xs : List α}, Each E B vs xs → Each E B' vs xs
  | [], [], _ => trivial
  | _ :: _, _ :: _, h => ⟨SP.mono _ h.1 e, Each.mono e h.2⟩
  | [], _ :: _, h => h.elim
  | _ :: _, [], h => h.elim
theorem Each.len {α : Type} {E : α → SP} {B : Hp} : ∀ {vs : List V} {xs : List α}, Each E B vs xs → vs.length = xs.length
  | [], [], _ => rfl
  | _ :: _, _ :: _, h => by rw [List.length_cons, List.length_cons, Each.len h.2]
  | [], _ :: _, h => h.elim
  | _ :: _, [], h => h.elim
theorem Each.get {α : Type} {E : α → SP} {B : Hp} : ∀ {vs : List V} {xs : List α} {i : Nat} {x : α}, Each E B vs xs → xs[i]? = some x → ∃ v, vs[i]? = some v ∧ (E x).P B v
  | [], [], i, x, _, e => by simp at e
  | v :: vs, y :: xs, 0, x, h, e => by
    have : y = x := by simpa using e
    subst this
    exact ⟨v, rfl, h.1⟩
  | v :: vs, y :: xs, i + 1, x, h, e => by
    obtain ⟨u, h1, h2⟩ := Each.get (i := i) h.2 (by simpa using e)
    exact ⟨u, by simpa using h1, h2⟩
  | [], _ :: _, _, _, h, _ => h.elim
  | _ :: _, [], _, _, h, _ => h.elim
theorem Each.app {α : Type} {E : α → SP} {B : Hp} : ∀ {vs us : List V} {xs ys : List α}, Each E B vs xs → Each E B us ys → Each E B (vs ++ us) (xs ++ ys)
  | [], _, [], _, _, k => k
  | _ :: _, _, _ :: _, _, h, k => ⟨h.1, Each.app h.2 k⟩
  | [], _, _ :: _, _, h, _ => h.elim
  | _ :: _, _, [], _, h, _ => h.elim
theorem Each.take {α : Type} {E : α → SP} {B : Hp} : ∀ {vs : List V} {xs : List α} (n : Nat), Each E B vs xs → Each E B (vs.take n) (xs.take n)
  | [], [], _, _ => by simp [Each]
  | _ :: _, _ :: _, 0, _ => trivial
  | _ :: _, _ :: _, n + 1, h => ⟨h.1, Each.take n h.2⟩
  | [], _ :: _, _, h => h.elim
  | _ :: _, [], _, h => h.elim
theorem Each.drop {α : Type} {E : α → SP} {B : Hp} : ∀ {vs : List V} {xs : List α} (n : Nat), Each E B vs xs → Each E B (vs.drop n) (xs.drop n)
  | [], [], _, _ => by simp [Each]
  | _ :: _, _ :: _, 0, h => h
  | _ :: _, _ :: _, n + 1, h => Each.drop n h.2
  | [], _ :: _, _, h => h.elim
  | _ :: _, [], _, h => h.elim
theorem Each.set {α : Type} {E : α → SP} {B : Hp} {v : V} {x : α} (hv : (E x).P B v) : ∀ {vs : List V} {xs : List α} (i : Nat), Each E B vs xs → Each E B (vs.set i v) (xs.set i x)
  | [], [], _, _ => by simp [Each]
  | _ :: _, _ :: _, 0, h => ⟨hv, h.2⟩
  | _ :: _, _ :: _, n + 1, h => ⟨h.1, Each.set hv n h.2⟩
  | [], _ :: _, _, h => h.elim
  | _ :: _, [], _, h => h.elim
theorem Each.eraseIdx {α : Type} {E : α → SP} {B : Hp} : ∀ {vs : List V} {xs : List α} (i : Nat), Each E B vs xs → Each E B (vs.eraseIdx i) (xs.eraseIdx i)
  | [], [], _, _ => by simp [Each]
  | _ :: _, _ :: _, 0, h => h.2
  | _ :: _, _ :: _, n + 1, h => ⟨h.1, Each.eraseIdx n h.2⟩
  | [], _ :: _, _, h => h.elim
  | _ :: _, [], _, h => h.elim
theorem Each.rev {α : Type} {E : α → SP} {B : Hp} : ∀ {vs : List V} {xs : List α}, Each E B vs xs → Each E B vs.reverse xs.reverse
  | [], [], _ => by simp [Each]
  | v :: vs, x :: xs, h => by
    rw [List.reverse_cons, List.reverse_cons]
    exact Each.app (Each.rev h.2) ⟨h.1, trivial⟩
  | [], _ :: _, h => h.elim
  | _ :: _, [], h => h.elim
theorem Each.imp {α β : Type} {E : α → SP} {G : β → SP} {B : Hp} (f : α → β) (hf : ∀ x v, (E x).P B v → (G (f x)).P B v) : ∀ {vs : List V} {xs : List α}, Each E B vs xs → Each G B vs (xs.map f)
  | [], [], _ => trivial
  | _ :: _, _ :: _, h => ⟨hf _ _ h.1, Each.imp f hf h.2⟩
  | [], _ :: _, h => h.elim
  | _ :: _, [], h => h.elim
/-- a list, a tuple that stand still -/
def lstS {α : Type} (E : α → SP) (xs : List α) : SP := ⟨fun B v => ∃ a vs, v = .ref a ∧ B a = some (.lst vs) ∧ Each E B vs xs, fun h e => by
  obtain ⟨a, vs, h1, h2, h3⟩ := h
  exact ⟨a, vs, h1, e a _ h2, h3.mono e⟩⟩
def tupS {α : Type} (E : α → SP) (xs : List α) : SP := ⟨fun B v => ∃ a vs, v = .ref a ∧ B a = some (.tup vs) ∧ Each E B vs xs, fun h e => by
  obtain ⟨a, vs, h1, h2, h3⟩ := h
  exact ⟨a, vs, h1, e a _ h2, h3.mono e⟩⟩
/-- the script -/
def scrS (K : PySem.W.Frag) (ns : List Int) : SP := ⟨fun B v => ∃ a, v = .ref a ∧ SqL K B a (ns.map V.int), fun h e => by
  obtain ⟨a, h1, h2⟩ := h
  refine ⟨a, h1, ?_⟩
  rcases h2 with (h | ⟨o, h⟩) | h
  · exact .inl (.inl (e _ _ h))
  · exact .inl (.inr ⟨o, e _ _ h⟩)
  · exact .inr h⟩
/-- things of several kinds, one by one -/
def Hets (B : Hp) : List V → List SP → Prop
  | [], [] => True
  | v :: vs, p :: ps => p.P B v ∧ Hets B vs ps
  | _, _ => False
theorem Hets.mono {B B' : Hp} (e : Ex B B') : ∀ {vs : List V} {ps : List SP}, Hets B vs ps → Hets B' vs ps
  | [], [], _ => trivial
  | _ :: _, _ :: _, h => ⟨SP.mono _ h.1 e, Hets.mono e h.2⟩
  | [], _ :: _, h => h.elim
  | _ :: _, [], h => h.elim
theorem Hets.len {B : Hp} : ∀ {vs : List V} {ps : List SP}, Hets B vs ps → vs.length = ps.length
  | [], [], _ => rfl
  | _ :: _, _ :: _, h => by rw [List.length_cons, List.length_cons, Hets.len h.2]
  | [], _ :: _, h => h.elim
  | _ :: _, [], h => h.elim
theorem Hets.get {B : Hp} : ∀ {vs : List V} {ps : List SP} {i : Nat} {p : SP}, Hets B vs ps → ps[i]? = some p → ∃ v, vs[i]? = some v ∧ p.P B v
  | [], [], i, x, _, e => by simp at e
  | v :: vs, y :: xs, 0, x, h, e => by
    have : y = x := by simpa using e
    subst this
    exact ⟨v, rfl, h.1⟩
  | v :: vs, y :: xs, i + 1, x, h, e => by
    obtain ⟨u, h1, h2⟩ := Hets.get (i := i) h.2 (by simpa using e)
    exact ⟨u, by simpa using h1, h2⟩
  | [], _ :: _, _, _, h, _ => h.elim
  | _ :: _, [], _, _, h, _ => h.elim
theorem Hets.set {B : Hp} {v : V} {p : SP} (hv : p.P B v) : ∀ {vs : List V} {ps : List SP} (i : Nat), Hets B vs ps → Hets B (vs.set i v) (ps.set i p)
  | [], [], _, _ => by simp [Hets]
  | _ :: _, _ :: _, 0, h => ⟨hv, h.2⟩
  | _ :: _, _ :: _, n + 1, h => ⟨h.1, Hets.set hv n h.2⟩
  | [], _ :: _, _, h => h.elim
  | _ :: _, [], _, h => h.elim
def htupS (ps : List SP) : SP := ⟨fun B v => ∃ a vs, v = .ref a ∧ B a = some (.tup vs) ∧ Hets B vs ps, fun h e => by
  obtain ⟨a, vs, h1, h2, h3⟩ := h
  exact ⟨a, vs, h1, e a _ h2, h3.mono e⟩⟩
def hlstS (ps : List SP) : SP := ⟨fun B v => ∃ a vs, v = .ref a ∧ B a = some (.lst vs) ∧ Hets B vs ps, fun h e => by
  obtain ⟨a, vs, h1, h2, h3⟩ := h
  exact ⟨a, vs, h1, e a _ h2, h3.mono e⟩⟩
/-- a pair -/
def prS {α β : Type} (E : α → SP) (G : β → SP) (p : α × β) : SP := htupS [E p.1, G p.2]
/-! ### owned things, one by one -/
def Owns {α : Type} (E : α → OP) (W : Wd) : List V → List α → List Addr → Prop
  | [], [], F => F = []
  | v :: vs, x :: xs, F => ∃ F1 F2, F = F1 ++ F2 ∧ (E x).C W v F1 ∧ Owns E W vs xs F2
  | _, _, _ => False
theorem Owns.loc {α : Type} {E : α → OP} {W W' : Wd} (e : Ex W.B W'.B) : ∀ {vs : List V} {xs : List α} {F : List Addr}, Owns E W vs xs F → (∀ a ∈ F, W'.H a = W.H a) → Owns E W' vs xs F
  | [], [], _, h, _ => h
  | _ :: _, _ :: _, _, ⟨F1, F2, h1, h2, h3⟩, k => by
    subst h1
    exact ⟨F1, F2, rfl, OP.loc _ h2 e fun a ha => k a (List.mem_append_left _ ha), Owns.loc e h3 fun a ha => k a (List.mem_append_right _ ha)⟩
  | [], _ :: _, _, h, _ => h.elim
  | _ :: _, [], _, h, _ => h.elim
theorem Owns.len {α : Type} {E : α → OP} {W : Wd} : ∀ {vs : List V} {xs : List α} {F : List Addr}, Owns E W vs xs F → vs.length = xs.length
  | [], [], _, _ => rfl
  | _ :: _, _ :: _, _, ⟨_, _, _, _, h⟩ => by rw [List.length_cons, List.length_cons, Owns.len h]
  | [], _ :: _, _, h => h.elim
  | _ :: _, [], _, h => h.elim
theorem Owns.app {α : Type} {E : α → OP} {W : Wd} : ∀ {vs us : List V} {xs ys : List α} {F G : List Addr}, Owns E W vs xs F → Owns E W us ys G → Owns E W (vs ++ us) (xs ++ ys) (F ++ G)
  | [], _, [], _, _, _, h, k => by
    subst h
    exact k
  | _ :: _, _, _ :: _, _, _, _, ⟨F1, F2, h1, h2, h3⟩, k => by
    subst h1
    exact ⟨F1, F2 ++ _, List.append_assoc _ _ _, h2, Owns.app h3 k⟩
  | [], _, _ :: _, _, _, _, h, _ => h.elim
  | _ :: _, _, [], _, _, _, h, _ => h.elim
/-- the item at a place, and what may stand there instead -/
theorem Owns.at {α : Type} {E : α → OP} {W : Wd} : ∀ {vs : List V} {xs : List α} {F : List Addr} {i : Nat} {x : α}, Owns E W vs xs F → xs[i]? = some x →
    ∃ v F1 F2, vs[i]? = some v ∧ (E x).C W v F1 ∧ F.Perm (F1 ++ F2) ∧ ∀ (W' : Wd) (x' : α) (v' : V) (F1' : List Addr), Ex W.B W'.B → (∀ a ∈ F2, W'.H a = W.H a) → (E x').C W' v' F1' →
      ∃ F', Owns E W' (vs.set i v') (xs.set i x') F' ∧ F'.Perm (F1' ++ F2)
  | [], [], _, _, _, _, e => by simp at e
  | v :: vs, y :: xs, _, 0, x, ⟨F1, F2, h1, h2, h3⟩, e => by
    have : y = x := by simpa using e
    subst this h1
    refine ⟨v, F1, F2, rfl, h2, .refl _, fun W' x' v' F1' eb hk hc => ⟨F1' ++ F2, ⟨F1', F2, rfl, hc, h3.loc eb hk⟩, .refl _⟩⟩
  | v :: vs, y :: xs, _, i + 1, x, ⟨F1, F2, h1, h2, h3⟩, e => by
    subst h1
    obtain ⟨u, G1, G2, a1, a2, a3, a4⟩ := Owns.at (i := i) h3 (by simpa using e)
    refine ⟨u, G1, F1 ++ G2, by simpa using a1, a2, ?_, fun W' x' v' F1' eb hk hc => ?_⟩
    · refine (List.Perm.append_left F1 a3).trans ?_
      rw [← List.append_assoc, ← List.append_assoc]
      exact List.Perm.append_right G2 List.perm_append_comm
    · obtain ⟨F', b1, b2⟩ := a4 W' x' v' F1' eb (fun a ha => hk a (List.mem_append_right _ ha)) hc
      refine ⟨F1 ++ F', ⟨F1, F', rfl, OP.loc _ h2 eb fun a ha => hk a (List.mem_append_left _ ha), b1⟩, ?_⟩
      refine (List.Perm.append_left F1 b2).trans ?_
      rw [← List.append_assoc, ← List.append_assoc]
      exact List.Perm.append_right G2 List.perm_append_comm
  | [], _ :: _, _, _, _, h, _ => h.elim
  | _ :: _, [], _, _, _, h, _ => h.elim
theorem Owns.of_each {α : Type} {E : α → SP} {W : Wd} : ∀ {vs : List V} {xs : List α}, Each E W.B vs xs → Owns (fun x => sh (E x)) W vs xs []
  | [], [], _ => rfl
  | _ :: _, _ :: _, h => ⟨[], [], rfl, ⟨rfl, h.1⟩, Owns.of_each h.2⟩
  | [], _ :: _, h => h.elim
  | _ :: _, [], h => h.elim
theorem Owns.each {α : Type} {E : α → SP} {W : Wd} : ∀ {vs : List V} {xs : List α} {F : List Addr}, Owns (fun x => sh (E x)) W vs xs F → F = [] ∧ Each E W.B vs xs
  | [], [], _, h => ⟨h, trivial⟩
  | _ :: _, _ :: _, _, ⟨F1, F2, h1, ⟨h2, h2'⟩, h3⟩ => by
    obtain ⟨e, h4⟩ := Owns.each h3
    subst e h2
    exact ⟨h1, h2', h4⟩
  | [], _ :: _, _, h => h.elim
  | _ :: _, [], _, h => h.elim
/-- a list of one's own -/
def lstO {α : Type} (E : α → OP) (xs : List α) : OP := ⟨fun W v F => ∃ a vs F2, v = .ref a ∧ W.H a = some (.lst vs) ∧ F = a :: F2 ∧ Owns E W vs xs F2, fun h e k => by
  obtain ⟨a, vs, F2, h1, h2, h3, h4⟩ := h
  subst h3
  exact ⟨a, vs, F2, h1, (k a List.mem_cons_self).trans h2, rfl, h4.loc e fun b hb => k b (List.mem_cons_of_mem _ hb)⟩⟩
/-- owned things of several kinds -/
def HetO (W : Wd) : List V → List OP → List Addr → Prop
  | [], [], F => F = []
  | v :: vs, p :: ps, F => ∃ F1 F2, F = F1 ++ F2 ∧ p.C W v F1 ∧ HetO W vs ps F2
  | _, _, _ => False
theorem HetO.loc {W W' : Wd} (e : Ex W.B W'.B) : ∀ {vs : List V} {xs : List OP} {F : List Addr}, HetO W vs xs F → (∀ a ∈ F, W'.H a = W.H a) → HetO W' vs xs F
  | [], [], _, h, _ => h
  | _ :: _, _ :: _, _, ⟨F1, F2, h1, h2, h3⟩, k => by
    subst h1
    exact ⟨F1, F2, rfl, OP.loc _ h2 e fun a ha => k a (List.mem_append_left _ ha), HetO.loc e h3 fun a ha => k a (List.mem_append_right _ ha)⟩
  | [], _ :: _, _, h, _ => h.elim
  | _ :: _, [], _, h, _ => h.elim
theorem HetO.len {W : Wd} : ∀ {vs : List V} {xs : List OP} {F : List Addr}, HetO W vs xs F → vs.length = xs.length
  | [], [], _, _ => rfl
  | _ :: _, _ :: _, _, ⟨_, _, _, _, h⟩ => by rw [List.length_cons, List.length_cons, HetO.len h]
  | [], _ :: _, _, h => h.elim
  | _ :: _, [], _, h => h.elim
theorem HetO.at {W : Wd} : ∀ {vs : List V} {xs : List OP} {F : List Addr} {i : Nat} {x : OP}, HetO W vs xs F → xs[i]? = some x →
    ∃ v F1 F2, vs[i]? = some v ∧ x.C W v F1 ∧ F.Perm (F1 ++ F2) ∧ ∀ (W' : Wd) (x' : OP) (v' : V) (F1' : List Addr), Ex W.B W'.B → (∀ a ∈ F2, W'.H a = W.H a) → x'.C W' v' F1' →
      ∃ F', HetO W' (vs.set i v') (xs.set i x') F' ∧ F'.Perm (F1' ++ F2)
  | [], [], _, _, _, _, e => by simp at e
  | v :: vs, y :: xs, _, 0, x, ⟨F1, F2, h1, h2, h3⟩, e => by
    have : y = x := by simpa using e
    subst this h1
    refine ⟨v, F1, F2, rfl, h2, .refl _, fun W' x' v' F1' eb hk hc => ⟨F1' ++ F2, ⟨F1', F2, rfl, hc, h3.loc eb hk⟩, .refl _⟩⟩
  | v :: vs, y :: xs, _, i + 1, x, ⟨F1, F2, h1, h2, h3⟩, e => by
    subst h1
    obtain ⟨u, G1, G2, a1, a2, a3, a4⟩ := HetO.at (i := i) h3 (by simpa using e)
    refine ⟨u, G1, F1 ++ G2, by simpa using a1, a2, ?_, fun W' x' v' F1' eb hk hc => ?_⟩
    · refine (List.Perm.append_left F1 a3).trans ?_
      rw [← List.append_assoc, ← List.append_assoc]
      exact List.Perm.append_right G2 List.perm_append_comm
    · obtain ⟨F', b1, b2⟩ := a4 W' x' v' F1' eb (fun a ha => hk a (List.mem_append_right _ ha)) hc
      refine ⟨F1 ++ F', ⟨F1, F', rfl, OP.loc _ h2 eb fun a ha => hk a (List.mem_append_left _ ha), b1⟩, ?_⟩
      refine (List.Perm.append_left F1 b2).trans ?_
      rw [← List.append_assoc, ← List.append_assoc]
      exact List.Perm.append_right G2 List.perm_append_comm
  | [], _ :: _, _, _, _, h, _ => h.elim
  | _ :: _, [], _, _, _, h, _ => h.elim
def hetO (ps : List OP) : OP := ⟨fun W v F => ∃ a vs F2, v = .ref a ∧ W.H a = some (.lst vs) ∧ F = a :: F2 ∧ HetO W vs ps F2, fun h e k => by
  obtain ⟨a, vs, F2, h1, h2, h3, h4⟩ := h
  subst h3
  exact ⟨a, vs, F2, h1, (k a List.mem_cons_self).trans h2, rfl, h4.loc e fun b hb => k b (List.mem_cons_of_mem _ hb)⟩⟩
/-! ### the slots -/
abbrev Ctx := List (Option OP)
def Holds : Ctx → St → Wd → List Addr → Prop
  | [], _, _, F => F = []
  | none :: Γ, σ, W, F => Holds Γ σ.tail W F
  | some o :: Γ, σ, W, F => ∃ v F1 F2, σ.head? = some (some v) ∧ F = F1 ++ F2 ∧ o.C W v F1 ∧ Holds Γ σ.tail W F2
theorem Holds.loc {W W' : Wd} (e : Ex W.B W'.B) : ∀ {Γ : Ctx} {σ : St} {F : List Addr}, Holds Γ σ W F → (∀ a ∈ F, W'.H a = W.H a) → Holds Γ σ W' F
  | [], _, _, h, _ => h
  | none :: Γ, σ, F, h, k => Holds.loc e (Γ := Γ) (σ := σ.tail) (F := F) h k
  | some o :: Γ, σ, _, ⟨v, F1, F2, h1, h2, h3, h4⟩, k => by
    subst h2
    exact ⟨v, F1, F2, h1, rfl, o.loc h3 e fun a ha => k a (List.mem_append_left _ ha), Holds.loc e (Γ := Γ) h4 fun a ha => k a (List.mem_append_right _ ha)⟩
/-- the entry at a place, and what may stand there instead -/
theorem Holds.at {W : Wd} : ∀ {Γ : Ctx} {σ : St} {F : List Addr} {i : Nat} {o : OP}, Holds Γ σ W F → Γ[i]? = some (some o) →
    ∃ v F1 F2, σ[i]? = some (some v) ∧ o.C W v F1 ∧ F.Perm (F1 ++ F2) ∧ ∀ (W' : Wd) (o' : OP) (v' : V) (F1' : List Addr), Ex W.B W'.B → (∀ a ∈ F2, W'.H a = W.H a) → o'.C W' v' F1' →
      ∃ F', Holds (Γ.set i (some o')) (σ.set i (some v')) W' F' ∧ F'.Perm (F1' ++ F2)
  | [], _, _, _, _, _, e => by simp at e
  | none :: Γ, σ, F, 0, o, h, e => by simp at e
  | none :: Γ, [], F, i + 1, o, h, e => by
    obtain ⟨u, G1, G2, a1, _⟩ := Holds.at (i := i) (Γ := Γ) (σ := []) h (by simpa using e)
    simp at a1
  | none :: Γ, s :: σ, F, i + 1, o, h, e => by
    obtain ⟨u, G1, G2, a1, a2, a3, a4⟩ := Holds.at (i := i) (Γ := Γ) (σ := σ) h (by simpa using e)
    exact ⟨u, G1, G2, by simpa using a1, a2, a3, fun W' o' v' F1' eb hk hc => a4 W' o' v' F1' eb hk hc⟩
  | some p :: Γ, [], F, i, o, ⟨v, F1, F2, h1, h2, h3, h4⟩, e => by simp at h1
  | some p :: Γ, s :: σ, F, 0, o, ⟨v, F1, F2, h1, h2, h3, h4⟩, e => by
    have : p = o := by simpa using e
    subst this h2
    refine ⟨v, F1, F2, by simpa using h1, h3, .refl _, fun W' o' v' F1' eb hk hc => ⟨F1' ++ F2, ⟨v', F1', F2, rfl, rfl, hc, Holds.loc eb (Γ := Γ) h4 hk⟩, .refl _⟩⟩
  | some p :: Γ, s :: σ, F, i + 1, o, ⟨v, F1, F2, h1, h2, h3, h4⟩, e => by
    subst h2
    obtain ⟨u, G1, G2, a1, a2, a3, a4⟩ := Holds.at (i := i) (Γ := Γ) (σ := σ) h4 (by simpa using e)
    refine ⟨u, G1, F1 ++ G2, by simpa using a1, a2, ?_, fun W' x' v' F1' eb hk hc => ?_⟩
    · refine (List.Perm.append_left F1 a3).trans ?_
      rw [← List.append_assoc, ← List.append_assoc]
      exact List.Perm.append_right G2 List.perm_append_comm
    · obtain ⟨F', b1, b2⟩ := a4 W' x' v' F1' eb (fun a ha => hk a (List.mem_append_right _ ha)) hc
      refine ⟨F1 ++ F', ⟨v, F1, F', h1, rfl, OP.loc _ h3 eb fun a ha => hk a (List.mem_append_left _ ha), b1⟩, ?_⟩
      refine (List.Perm.append_left F1 b2).trans ?_
      rw [← List.append_assoc, ← List.append_assoc]
      exact List.Perm.append_right G2 List.perm_append_comm
/-- a slot is stored anew -/
theorem Holds.put {W : Wd} {o : OP} {v : V} {F1 : List Addr} (hc : o.C W v F1) : ∀ {Γ : Ctx} {σ : St} {F : List Addr} {i : Nat}, Holds Γ σ W F → i < Γ.length → i < σ.length →
    ∃ F' G, Holds (Γ.set i (some o)) (σ.set i (some v)) W F' ∧ F'.Perm (F1 ++ G) ∧ ∃ G', F.Perm (G ++ G')
  | [], _, _, _, _, h, _ => by simp at h
  | _ :: _, [], _, _, _, _, h => by simp at h
  | none :: Γ, s :: σ, F, 0, h, _, _ => ⟨F1 ++ F, F, ⟨v, F1, F, rfl, rfl, hc, h⟩, .refl _, [], by rw [List.append_nil]⟩
  | some p :: Γ, s :: σ, F, 0, ⟨u, G1, G2, h1, h2, h3, h4⟩, _, _ => ⟨F1 ++ G2, G2, ⟨v, F1, G2, rfl, rfl, hc, h4⟩, .refl _, G1, by subst h2; exact List.perm_append_comm⟩
  | none :: Γ, s :: σ, F, i + 1, h, l1, l2 => by
    obtain ⟨F', G, a1, a2, a3⟩ := Holds.put hc (i := i) (Γ := Γ) (σ := σ) h (by simpa using l1) (by simpa using l2)
    exact ⟨F', G, a1, a2, a3⟩
  | some p :: Γ, s :: σ, F, i + 1, ⟨u, G1, G2, h1, h2, h3, h4⟩, l1, l2 => by
    obtain ⟨F', G, a1, a2, G', a3⟩ := Holds.put hc (i := i) (Γ := Γ) (σ := σ) h4 (by simpa using l1) (by simpa using l2)
    subst h2
    refine ⟨G1 ++ F', G1 ++ G, ⟨u, G1, F', h1, rfl, h3, a1⟩, ?_, G', ?_⟩
    · refine (List.Perm.append_left G1 a2).trans ?_
      rw [← List.append_assoc, ← List.append_assoc]
      exact List.Perm.append_right G List.perm_append_comm
    · rw [List.append_assoc]
      exact List.Perm.append_left G1 a3
/-- less is known -/
inductive Weak : Ctx → Ctx → Prop
  | nil : Weak [] []
  | same {e Γ Δ} : Weak Γ Δ → Weak (e :: Γ) (e :: Δ)
  | drop {e Γ Δ} : Weak Γ Δ → Weak (e :: Γ) (none :: Δ)
theorem Weak.refl : ∀ Γ : Ctx, Weak Γ Γ
  | [] => .nil
  | _ :: Γ => .same (Weak.refl Γ)
theorem Weak.len {Γ Δ : Ctx} (w : Weak Γ Δ) : Γ.length = Δ.length := by induction w <;> simp_all
theorem Weak.holds {W : Wd} {Γ Δ : Ctx} (w : Weak Γ Δ) : ∀ {σ : St} {F : List Addr}, Holds Γ σ W F → ∃ F' G, Holds Δ σ W F' ∧ F.Perm (F' ++ G) := by
  induction w with
  | nil => exact fun {σ F} h => ⟨[], F, rfl, .refl _⟩
  | @same e Γ Δ w ih =>
    intro σ F h
    cases e with
    | none => exact ih (σ := σ.tail) h
    | some o =>
      obtain ⟨v, F1, F2, h1, h2, h3, h4⟩ := h
      obtain ⟨F', G, a1, a2⟩ := ih (σ := σ.tail) h4
      subst h2
      refine ⟨F1 ++ F', G, ⟨v, F1, F', h1, rfl, h3, a1⟩, ?_⟩
      rw [List.append_assoc]
      exact List.Perm.append_left F1 a2
  | @drop e Γ Δ w ih =>
    intro σ F h
    cases e with
    | none => exact ih (σ := σ.tail) h
    | some o =>
      obtain ⟨v, F1, F2, h1, h2, h3, h4⟩ := h
      obtain ⟨F', G, a1, a2⟩ := ih (σ := σ.tail) h4
      subst h2
      refine ⟨F', G ++ F1, a1, ?_⟩
      rw [← List.append_assoc]
      exact (List.Perm.append_left F1 a2).trans List.perm_append_comm
structure Sta (Γ : Ctx) (σ : St) (W : Wd) (F : List Addr) : Prop where
  ok : Ex W.B W.H
  fp : FpOk W F
  len : σ.length = Γ.length
  hold : Holds Γ σ W F
theorem Sta.ext {Γ : Ctx} {σ : St} {W W' : Wd} {F : List Addr} (s : Sta Γ σ W F) (e : Ext W W') : Sta Γ σ W' F :=
  ⟨e.ok, s.fp.ext e, s.len, s.hold.loc e.b fun a ha => e.h.eq (s.fp.al a ha)⟩
theorem Sta.weak {Γ Δ : Ctx} {σ : St} {W : Wd} {F : List Addr} (s : Sta Γ σ W F) (w : Weak Γ Δ) : ∃ F', Sta Δ σ W F' ∧ ∀ a ∈ F', a ∈ F := by
  obtain ⟨F', G, a1, a2⟩ := w.holds s.hold
  exact ⟨F', ⟨s.ok, (s.fp.perm a2).left, s.len.trans w.len, a1⟩, fun a h => a2.mem_iff.mpr (List.mem_append_left _ h)⟩
/-- a shared slot -/
theorem Sta.get {Γ : Ctx} {σ : St} {W : Wd} {F : List Addr} {i : Nat} {p : SP} (s : Sta Γ σ W F) (h : Γ[i]? = some (some (sh p))) : ∃ v, σ[i]? = some (some v) ∧ p.P W.B v := by
  obtain ⟨v, F1, F2, h1, h2, _⟩ := s.hold.at h
  exact ⟨v, h1, h2.2⟩
theorem Sta.put {Γ : Ctx} {σ : St} {W : Wd} {F F1 : List Addr} {i : Nat} {o : OP} {v : V} (s : Sta Γ σ W F) (hi : i < Γ.length) (hc : o.C W v F1) (f : FpOk W (F ++ F1)) :
    ∃ F', Sta (Γ.set i (some o)) (σ.set i (some v)) W F' ∧ ∀ a ∈ F', a ∈ F ++ F1 := by
  obtain ⟨F', G, a1, a2, G', a3⟩ := Holds.put hc (i := i) s.hold hi (by rw [s.len]; exact hi)
  have f2 : FpOk W ((F1 ++ G) ++ G') := f.perm (by
    refine List.perm_append_comm.trans ?_
    rw [List.append_assoc]
    exact List.Perm.append_left F1 a3)
  refine ⟨F', ⟨s.ok, f2.left.perm a2.symm, by rw [List.length_set, List.length_set]; exact s.len, a1⟩, fun a h => ?_⟩
  rcases List.mem_append.mp (a2.mem_iff.mp h) with z | z
  · exact List.mem_append_right _ z
  · exact List.mem_append_left _ (a3.mem_iff.mpr (List.mem_append_left _ z))
end CC
set_option maxHeartbeats 4000000
/-! Judgements: a piece of Python and its mirror. -/
namespace CC
open PySem PySem.Spec L2
open PyProof.Rows hiding St
/-- what does not change while a def's body (or a comprehension's block) runs -/
structure Stc where
  P : Program
  w : World
  K : PySem.W.Frag
  mg : Str → Option Value
  base : Heap
  N : List Str
  sc : Scope
  k : Nat
  fn : Str → Bool
  prot : List Nat
  W : WX := fun _ _ _ _ => False
  calm : Bool := true
  top : Bool := true
  ex : Option (Addr × Addr × Option Addr) := none
structure Stc.In (S : Stc) (X : Cx) : Prop where
  prog : X.prog = S.P
  w : X.w = S.w
  K : X.K = S.K
  mg : X.mg = S.mg
  base : X.base = S.base
  N : X.N = S.N
  sc : X.env.scope = S.sc
  fn : X.fn = S.fn
  calm : X.calm = S.calm
  room : S.calm = true → Room S.k X.A
  un : X.A.units + 64 < cLine
  pass : PassesOwn (model X.prog X.w) X.A X.env X.xe
  tk : Takes X S.W
  top : S.top = true → X.stack = X.env :: X.outer ∧ X.env.frame = some X.env.locals
  ex : ∀ a C d, S.ex = some (a, C, d) → ∃ X' oe pn, X = Cx.suite X' a ((a, oe) :: pn) ∧ Zc (.ref C) d oe ∧ ∃ vs, oe.data = .fields vs
theorem takes_none {X : Cx} : Takes X (fun _ _ _ _ => False) := fun _ _ ⟨_, _, _, _, _, _, _, _, _, _, _, _, _, _, _, _, z⟩ => z.elim
abbrev Stc.blk (S : Stc) (scope : Scope) : Stc := { S with sc := relS scope S.sc, fn := fun x => scope.names.lookup x == some .cell, W := fun _ _ _ _ => False, top := false, ex := none }
theorem Stc.In.blk {S : Stc} {X : Cx} (h : S.In X) (scope : Scope) (s : Shared) (H : Hp) (C : Addr) (cl : List (Str × Addr)) (fp : List Addr) : (S.blk scope).In (X.blk s H scope (compEnvC scope cl C X.env) fp) :=
  ⟨h.prog, h.w, h.K, h.mg, h.base, h.N, by
    show relabel scope X.env = relS scope S.sc
    rw [← h.sc]
    rfl, rfl, h.calm, h.room, h.un, PassesOwn.never, takes_none, nofun, nofun⟩
/-- what an exception is like -/
structure XP where
  P : Hp → Value → Option Addr → Prop
  mono : ∀ {B B' c d}, P B c d → Ex B B' → P B' c d
/-! ### readings for every context at once -/
def tOf (S : Stc) (e : Expr) : TE := fun σ H Q => ∃ t : TE, (∀ X, S.In X → PE X e t) ∧ t σ H Q
def ttOf (S : Stc) (e : Expr) : TT := fun σ H Q => ∃ t : TT, (∀ X, S.In X → PT X e t) ∧ t σ H Q
def twOf (S : Stc) (e : Expr) : TT := fun σ H Q => ∃ t : TT, (∀ X, S.In X → PW X e t) ∧ t σ H Q
def taOf (S : Stc) (es : List Expr) : TA := fun σ H Q => ∃ t : TA, (∀ X, S.In X → PA X es t) ∧ t σ H Q
def tsOf (S : Stc) (st : Stmt) : TS := fun D σ H => ∃ t : TS, (∀ X, S.In X → PS X st t) ∧ t D σ H
def tbOf (S : Stc) (sts : List Stmt) : TS := fun D σ H => ∃ t : TS, (∀ X, S.In X → PSs X sts t) ∧ t D σ H
section
variable {S : Stc} {X : Cx}
theorem peO {e : Expr} (h : S.In X) : PE X e (tOf S e) := ⟨fun pins s σ H Q I ⟨_, p, q⟩ => (p X h).run pins s σ H Q I q⟩
theorem ptO {e : Expr} (h : S.In X) : PT X e (ttOf S e) := ⟨fun pins s σ H Q I ⟨_, p, q⟩ => (p X h).run pins s σ H Q I q⟩
theorem pwO {e : Expr} (h : S.In X) : PW X e (twOf S e) := ⟨fun wh pins s σ H Q I ⟨_, p, q⟩ => (p X h).run wh pins s σ H Q I q⟩
theorem paO {es : List Expr} (h : S.In X) : PA X es (taOf S es) := ⟨fun pos pins s σ H Q I ⟨_, p, q⟩ => (p X h).run pos pins s σ H Q I q⟩
theorem psO {st : Stmt} (h : S.In X) : PS X st (tsOf S st) := ⟨fun pins s σ H D I ⟨_, p, q⟩ => (p X h).run pins s σ H D I q⟩
theorem pbO {sts : List Stmt} (h : S.In X) : PSs X sts (tbOf S sts) := ⟨fun pins s σ H D I ⟨_, p, q⟩ => (p X h).run pins s σ H D I q⟩
end
def GlS (S : Stc) (x : Str) : Prop := S.sc.names.lookup x = some .globalImplicit
theorem GlS.gl {S : Stc} {X : Cx} {x : Str} (g : GlS S x) (h : S.In X) : Gl X x := by
  show X.env.scope.names.lookup x = some .globalImplicit
  rw [h.sc]
  exact g
theorem visS {S : Stc} {X : Cx} {x : Str} (g : Vis S.sc x) (h : S.In X) : Vis X.env.scope x := by rw [h.sc]; exact g
theorem locS {S : Stc} {X : Cx} {x : Str} (g : Loc S.sc x) (h : S.In X) : Loc X.env.scope x := by rw [h.sc]; exact g
theorem mgS {S : Stc} {X : Cx} {x : Str} {u : Option Value} (g : S.mg x = u) (h : S.In X) : X.mg x = u := by rw [h.mg]; exact g
theorem fnokS {S : Stc} {X : Cx} {CX : CXT} {k : Nat} {f : Addr} {fd : FuncData} {ps : List Str} {sp : Sp} (F : FnOk S.P S.w S.K S.mg S.base CX k f fd ps sp) (h : S.In X) : FnOk X.prog X.w X.K X.mg X.base CX k f fd ps sp := by
  rw [h.prog, h.w, h.K, h.mg, h.base]
  exact F
/-! ### the judgements -/
variable {α β γ δ τ ω ρ : Type}
/-- a value has come, things were added -/
def Got (R : OP) (W : Wd) (Q : VK) : Prop := ∀ v W' Fv, Ext W W' → (∀ a ∈ Fv, W.H a = none) → FpOk W' Fv → R.C W' v Fv → Q v W'.H
/-- a pure expression: its mirror m (none: no claim), what its value is -/
def JN (S : Stc) (e : Expr) (Γ : Ctx) (m : Option α) (R : α → OP) : Prop :=
  ∀ σ W F, Sta Γ σ W F → ∀ x, m = some x → ∀ Q : VK, Got (R x) W Q → tOf S e σ W.H Q
/-- .. read where it stands: what is owned stays with its owner -/
def JR (S : Stc) (e : Expr) (Γ : Ctx) (m : Option α) (R : α → OP) : Prop :=
  ∀ σ W F, Sta Γ σ W F → ∀ x, m = some x → ∀ Q : VK, (∀ v W', Ext W W' → (∃ F1, (R x).C W' v F1 ∧ ∀ a ∈ F1, W'.H a ≠ none) → Q v W'.H) → tOf S e σ W.H Q
/-- a pure test -/
def JT (S : Stc) (e : Expr) (Γ : Ctx) (m : Option Bool) : Prop :=
  ∀ σ W F, Sta Γ σ W F → ∀ b, m = some b → ∀ Q : Bool → Hp → Prop, (∀ W', Ext W W' → Q b W'.H) → ttOf S e σ W.H Q
def JW (S : Stc) (e : Expr) (Γ : Ctx) (m : Option Bool) : Prop :=
  ∀ σ W F, Sta Γ σ W F → ∀ b, m = some b → ∀ Q : Bool → Hp → Prop, (∀ W', Ext W W' → Q b W'.H) → twOf S e σ W.H Q
/-- pure arguments, all shared -/
def JA (S : Stc) (es : List Expr) (Γ : Ctx) (m : Option α) (R : α → List SP) : Prop :=
  ∀ σ W F, Sta Γ σ W F → ∀ x, m = some x → ∀ Q : List V → Hp → Prop, (∀ vs W', Ext W W' → Hets W'.B vs (R x) → Q vs W'.H) → taOf S es σ W.H Q
/-- an expression that changes what is owned: Γ by the state s -/
def JE (S : Stc) (e : Expr) (Γ : τ → Ctx) (s : τ) (m : Option (α × τ)) (R : α → OP) : Prop :=
  ∀ σ W F, Sta (Γ s) σ W F → ∀ x, m = some x → ∀ Q : VK, (∀ v W' F' Fv, Stp W F W' (F' ++ Fv) → Sta (Γ x.2) σ W' F' → FpOk W' (F' ++ Fv) → (R x.1).C W' v Fv → Q v W'.H) → tOf S e σ W.H Q
/-- how a block may end -/
inductive Kd where
  | nx (Γ : Ctx)
  | rt (Γ : Ctx) (R : OP)
  | bk (Γ : Ctx)
  | ct (Γ : Ctx)
  | xc (Γ : Ctx) (R : XP)
/-- the slots that must stay -/
def Keep (prot : List Nat) (σ σ' : St) : Prop := ∀ p ∈ prot, σ'[p]? = σ[p]?
theorem Keep.refl {prot : List Nat} {σ : St} : Keep prot σ σ := fun _ _ => rfl
theorem Keep.trans {prot : List Nat} {σ σ1 σ2 : St} (a : Keep prot σ σ1) (b : Keep prot σ1 σ2) : Keep prot σ σ2 := fun p h => (b p h).trans (a p h)
theorem Keep.set {prot : List Nat} {σ : St} {i : Nat} {v : Option V} (h : i ∉ prot) : Keep prot σ (σ.set i v) := fun p hp => List.getElem?_set_ne fun e => h (by rw [e]; exact hp)
theorem ncon {prot : List Nat} {i : Nat} (h : prot.contains i = false) : i ∉ prot := fun z => by
  rw [List.contains_iff_mem.mpr z] at h
  cases h
def Post (wx : WX) (prot : List Nat) (σ : St) (W : Wd) (F : List Addr) (D : Ends) : Kd → Prop
  | .nx Γ => ∀ σ' W' F', Keep prot σ σ' → Stp W F W' F' → Sta Γ σ' W' F' → D.nx σ' W'.H
  | .bk Γ => ∀ σ' W' F', Keep prot σ σ' → Stp W F W' F' → Sta Γ σ' W' F' → D.bk σ' W'.H
  | .ct Γ => ∀ σ' W' F', Keep prot σ σ' → Stp W F W' F' → Sta Γ σ' W' F' → D.ct σ' W'.H
  | .rt Γ R => ∀ v σ' W' F' Fv, Keep prot σ σ' → Stp W F W' (F' ++ Fv) → Sta Γ σ' W' F' → FpOk W' (F' ++ Fv) → R.C W' v Fv → D.rt v W'.H
  | .xc Γ R => ∀ c d σ' W' F', Keep prot σ σ' → Stp W F W' F' → Sta Γ σ' W' F' → R.P W'.B c d → wx c d σ' W'.H
/-- a block: its mirror, and how each outcome ends -/
def JB (S : Stc) (sts : List Stmt) (Γ : Ctx) (m : Option ω) (D : ω → Kd) : Prop :=
  ∀ σ W F, Sta Γ σ W F → ∀ x, m = some x → ∀ E : Ends, Post S.W S.prot σ W F E (D x) → tbOf S sts E σ W.H
/-- one statement -/
def JS (S : Stc) (st : Stmt) (Γ : Ctx) (m : Option ω) (D : ω → Kd) : Prop :=
  ∀ σ W F, Sta Γ σ W F → ∀ x, m = some x → ∀ E : Ends, Post S.W S.prot σ W F E (D x) → tsOf S st E σ W.H
theorem Post.before {wx : WX} {prot : List Nat} {σ σ1 : St} {W W1 : Wd} {F F1 : List Addr} {D : Ends} {k : Kd} (p : Post wx prot σ W F D k) (hk : Keep prot σ σ1) (hs : Stp W F W1 F1) : Post wx prot σ1 W1 F1 D k := by
  cases k with
  | nx Γ => exact fun σ' W' F' a b c => p σ' W' F' (hk.trans a) (hs.trans b) c
  | bk Γ => exact fun σ' W' F' a b c => p σ' W' F' (hk.trans a) (hs.trans b) c
  | ct Γ => exact fun σ' W' F' a b c => p σ' W' F' (hk.trans a) (hs.trans b) c
  | rt Γ R => exact fun v σ' W' F' Fv a b c d e => p v σ' W' F' Fv (hk.trans a) (hs.trans b) c d e
  | xc Γ R => exact fun v d σ' W' F' a b c e => p v d σ' W' F' (hk.trans a) (hs.trans b) c e
section
variable {S : Stc} {Γ Δ : Ctx} {a b c e : Expr} {es : List Expr} {pos : Pos}
theorem JN.cong {m m' : Option α} {R : α → OP} (h : JN S e Γ m R) (q : m = m') : JN S e Γ m' R := q ▸ h
theorem JB.cong {sts : List Stmt} {m m' : Option ω} {D : ω → Kd} (h : JB S sts Γ m D) (q : m = m') : JB S sts Γ m' D := q ▸ h
theorem JN.weak {m : Option α} {R : α → OP} (w : Weak Γ Δ) (h : JN S e Δ m R) : JN S e Γ m R := fun σ W F st x hx Q k => by
  obtain ⟨F', st', _⟩ := st.weak w
  exact h σ W F' st' x hx Q k
theorem JB.weak {sts : List Stmt} {m : Option ω} {D : ω → Kd} (w : Weak Γ Δ) (h : JB S sts Δ m D) : JB S sts Γ m D := fun σ W F st x hx E k => by
  obtain ⟨F', st', sub⟩ := st.weak w
  exact h σ W F' st' x hx E (k.before Keep.refl ((Stp.refl st.ok).perm sub))
/-- mirrors of the value and of the description -/
theorem JN.map {m : Option α} {R : α → OP} {R' : β → OP} {f : α → β} (h : JN S e Γ m R) (hR : ∀ x W v F, (R x).C W v F → (R' (f x)).C W v F) : JN S e Γ (m.bind fun x => some (f x)) R' := fun σ W F st y hy Q k => by
  cases hm : m with
  | none => rw [hm] at hy; cases hy
  | some x =>
    rw [hm] at hy
    cases hy
    exact h σ W F st x hm Q fun v W' Fv e fr fp r => k v W' Fv e fr fp (hR x W' v Fv r)
/-! ### what is owned becomes shared -/
theorem FpOk.head {W : Wd} {a : Addr} {F : List Addr} (f : FpOk W (a :: F)) : a ∉ F := (List.nodup_cons.mp f.nd).1
/-- freezing with the footprint's own facts -/
structure FrzN (R : OP) (P : SP) : Prop where
  run : ∀ {W v F}, R.C W v F → F.Nodup → (∀ a ∈ F, W.B a = none) → Ex W.B W.H → ∃ B', Ex W.B B' ∧ Ex B' W.H ∧ (∀ a, W.B a = none → a ∉ F → B' a = none) ∧ P.P B' v
theorem fz_sh {p : SP} : FrzN (sh p) p := ⟨fun {W v F} h _ _ ok => ⟨W.B, Ex.refl _, ok, fun _ h _ => h, h.2⟩⟩
theorem fz_owns {E : α → OP} {G : α → SP} (f : ∀ x, FrzN (E x) (G x)) : ∀ {vs : List V} {xs : List α} {W : Wd} {F : List Addr}, Owns E W vs xs F → F.Nodup → (∀ a ∈ F, W.B a = none) → Ex W.B W.H →
    ∃ B', Ex W.B B' ∧ Ex B' W.H ∧ (∀ a, W.B a = none → a ∉ F → B' a = none) ∧ Each G B' vs xs
  | [], [], W, F, _, _, _, ok => ⟨W.B, Ex.refl _, ok, fun _ h _ => h, trivial⟩
  | v :: vs, x :: xs, W, F, ⟨F1, F2, h1, h2, h3⟩, nd, fr, ok => by
    subst h1
    have nd' := List.nodup_append.mp nd
    obtain ⟨B1, a1, a2, a3, a4⟩ := (f x).run h2 nd'.1 (fun a ha => fr a (List.mem_append_left _ ha)) ok
    obtain ⟨B2, b1, b2, b3, b4⟩ := fz_owns f (W := ⟨W.H, B1⟩) (h3.loc (W' := ⟨W.H, B1⟩) a1 fun _ _ => rfl) nd'.2.1 (fun a ha => a3 a (fr a (List.mem_append_right _ ha)) fun z => nd'.2.2 a z a ha rfl) a2
    exact ⟨B2, a1.trans b1, b2, fun a h n => b3 a (a3 a h fun z => n (List.mem_append_left _ z)) fun z => n (List.mem_append_right _ z), SP.mono _ a4 b1, b4⟩
  | [], _ :: _, _, _, h, _, _, _ => h.elim
  | _ :: _, [], _, _, h, _, _, _ => h.elim
theorem fz_lst {E : α → OP} {G : α → SP} (f : ∀ x, FrzN (E x) (G x)) (xs : List α) : FrzN (lstO E xs) (lstS G xs) := ⟨fun {W v F} h nd fr ok => by
  obtain ⟨a, vs, F2, rfl, h2, rfl, h4⟩ := h
  have nd' := List.nodup_cons.mp nd
  obtain ⟨B1, a1, a2, a3, a4⟩ := fz_owns f h4 nd'.2 (fun b hb => fr b (List.mem_cons_of_mem _ hb)) ok
  have na : B1 a = none := a3 a (fr a List.mem_cons_self) nd'.1
  refine ⟨upd B1 a (.lst vs), a1.trans (Ex.new na), fun b o e => ?_, fun b hb n => ?_, a, vs, rfl, upd_same, a4.mono (Ex.new na)⟩
  · by_cases z : b = a
    · subst z
      rw [upd_same] at e
      rw [h2]
      exact e
    · rw [upd_ne z] at e
      exact a2 b o e
  · have z : b ≠ a := fun z => n (z ▸ List.mem_cons_self)
    rw [upd_ne z]
    exact a3 b hb fun q => n (List.mem_cons_of_mem _ q)⟩
theorem fz_het {ps : List OP} {qs : List SP} : ∀ {vs : List V} {ps : List OP} {qs : List SP} {W : Wd} {F : List Addr}, HetO W vs ps F → Paired FrzN ps qs → F.Nodup → (∀ a ∈ F, W.B a = none) → Ex W.B W.H →
    ∃ B', Ex W.B B' ∧ Ex B' W.H ∧ (∀ a, W.B a = none → a ∉ F → B' a = none) ∧ Hets B' vs qs
  | [], [], _, W, F, _, .nil, _, _, ok => ⟨W.B, Ex.refl _, ok, fun _ h _ => h, trivial⟩
  | v :: vs, x :: xs, _, W, F, ⟨F1, F2, h1, h2, h3⟩, .cons f fs, nd, fr, ok => by
    subst h1
    have nd' := List.nodup_append.mp nd
    obtain ⟨B1, a1, a2, a3, a4⟩ := f.run h2 nd'.1 (fun a ha => fr a (List.mem_append_left _ ha)) ok
    obtain ⟨B2, b1, b2, b3, b4⟩ := fz_het (ps := ps) (qs := qs) (W := ⟨W.H, B1⟩) (h3.loc (W' := ⟨W.H, B1⟩) a1 fun _ _ => rfl) fs nd'.2.1 (fun a ha => a3 a (fr a (List.mem_append_right _ ha)) fun z => nd'.2.2 a z a ha rfl) a2
    exact ⟨B2, a1.trans b1, b2, fun a h n => b3 a (a3 a h fun z => n (List.mem_append_left _ z)) fun z => n (List.mem_append_right _ z), SP.mono _ a4 b1, b4⟩
  | [], _ :: _, _, _, _, h, _, _, _, _ => h.elim
  | _ :: _, [], _, _, _, h, _, _, _, _ => h.elim
/-- a fresh value frozen on the way -/
theorem JN.frz {m : Option α} {R : α → OP} {P : α → SP} (f : ∀ x, FrzN (R x) (P x)) (h : JN S e Γ m R) : JN S e Γ m fun x => sh (P x) := fun σ W F st x hx Q k =>
  h σ W F st x hx Q fun v W' Fv ext fresh fp r => by
    obtain ⟨B', b1, b2, b3, b4⟩ := (f x).run r fp.nd fp.fr ext.ok
    have e2 : Ext W ⟨W'.H, B'⟩ := ⟨b2, ext.h, ext.b.trans b1, fun a h1 h2 => b3 a (ext.fr a h1 h2) fun z => h1 (fresh a z)⟩
    exact k v ⟨W'.H, B'⟩ [] e2 (fun _ h => (List.not_mem_nil h).elim) FpOk.nil ⟨rfl, b4⟩
theorem FrzN.lst (E : α → SP) : ∀ xs : List α, FrzN (lstO (fun x => sh (E x)) xs) (lstS E xs) := fz_lst fun _ => fz_sh
theorem FrzN.lst2 (E : α → SP) : ∀ xs : List (List α), FrzN (lstO (fun ys => lstO (fun x => sh (E x)) ys) xs) (lstS (lstS E) xs) := fz_lst fun ys => fz_lst (fun _ => fz_sh) ys
/-- a slot frozen -/
theorem JB.frz {sts : List Stmt} {m : Option ω} {D : ω → Kd} {i : Nat} {o : OP} {p : SP} (hi : Γ[i]? = some (some o)) (f : FrzN o p) (h : JB S sts (Γ.set i (some (sh p))) m D) : JB S sts Γ m D := fun σ W F st x hx E k => by
  obtain ⟨v, F1, F2, a1, a2, a3, a4⟩ := st.hold.at hi
  have fp := st.fp.perm a3
  obtain ⟨B', b1, b2, b3, b4⟩ := f.run a2 fp.left.nd fp.left.fr st.ok
  obtain ⟨F', c1, c2⟩ := a4 ⟨W.H, B'⟩ (sh p) v [] b1 (fun _ _ => rfl) ⟨rfl, b4⟩
  have sub : ∀ a ∈ F', a ∈ F2 := fun a ha => by simpa using c2.mem_iff.mp ha
  have fp' : FpOk ⟨W.H, B'⟩ F' := by
    refine FpOk.perm (F := F2) ?_ (by simpa using c2.symm)
    exact ⟨fp.right.nd, fp.right.al, fun a ha => b3 a (fp.right.fr a ha) fun z => fp.disj a z ha⟩
  have hset : σ.set i (some v) = σ := by
    refine List.ext_getElem? fun j => ?_
    by_cases e : i = j
    · subst e
      rw [a1, List.getElem?_set_self (List.getElem?_eq_some_iff.mp a1).1]
    · rw [List.getElem?_set_ne e]
  rw [hset] at c1
  refine h σ ⟨W.H, B'⟩ F' ⟨b2, fp', by rw [List.length_set]; exact st.len, c1⟩ x hx E (k.before Keep.refl ?_)
  refine ⟨b2, b1, fun a o h _ => h, fun a h => h, fun a h1 h2 n => b3 a h2 fun z => n (a3.mem_iff.mpr (List.mem_append_left _ z)), fun a ha => .inl (a3.mem_iff.mpr (List.mem_append_right _ (sub a ha)))⟩
/-! ### names and constants -/
theorem jn_var {E : α → SP} {a : α} {x : Str} (i : Nat) (hi : Γ[i]? = some (some (sh (E a))) := by rfl) (hN : S.N[i]? = some x := by rfl) (hv : Vis S.sc x := by first | exact Or.inl rfl | exact Or.inr (Or.inl rfl) | exact Or.inr (Or.inr rfl))
    (hd : (x == ("__debug__" : Str)) = false := by decide) (hcd : (x == ("__classdict__" : Str)) = false := by decide) : JN S (.Name x pos) Γ (some a) fun a => sh (E a) := fun σ W F st y hy Q k => by
  cases hy
  obtain ⟨v, h1, h2⟩ := st.get hi
  exact ⟨tVar i, fun X hX => pe_var (by rw [hX.N]; exact hN) (visS hv hX) hd hcd, v, h1, k v W [] (Ext.refl st.ok) (fun _ h => (List.not_mem_nil h).elim) FpOk.nil ⟨rfl, h2⟩⟩
theorem jr_var {R : α → OP} {a : α} {x : Str} (i : Nat) (hi : Γ[i]? = some (some (R a)) := by rfl) (hN : S.N[i]? = some x := by rfl) (hv : Vis S.sc x := by first | exact Or.inl rfl | exact Or.inr (Or.inl rfl) | exact Or.inr (Or.inr rfl))
    (hd : (x == ("__debug__" : Str)) = false := by decide) (hcd : (x == ("__classdict__" : Str)) = false := by decide) : JR S (.Name x pos) Γ (some a) R := fun σ W F st y hy Q k => by
  cases hy
  obtain ⟨v, F1, F2, h1, h2, h3, _⟩ := st.hold.at hi
  exact ⟨tVar i, fun X hX => pe_var (by rw [hX.N]; exact hN) (visS hv hX) hd hcd, v, h1, k v W (Ext.refl st.ok) ⟨F1, h2, fun a ha => st.fp.al a (h3.mem_iff.mpr (List.mem_append_left _ ha))⟩⟩
theorem jr_of {m : Option α} {R : α → OP} (h : JN S e Γ m R) : JR S e Γ m R := fun σ W F st x hx Q k => h σ W F st x hx Q fun v W' Fv e _ fp r => k v W' e ⟨Fv, r, fp.al⟩
theorem jn_of {m : Option α} {P : α → SP} (h : JR S e Γ m fun x => sh (P x)) : JN S e Γ m fun x => sh (P x) := fun σ W F st x hx Q k => h σ W F st x hx Q fun v W' e r => by
  obtain ⟨F1, r, _⟩ := r
  exact k v W' [] e (fun _ h => (List.not_mem_nil h).elim) FpOk.nil ⟨rfl, r.2⟩
theorem jn_c {v : V} {E : α → SP} {a : α} (hp : ∀ X, S.In X → PE X e (tC v)) (hv : ∀ B, (E a).P B v) : JN S e Γ (some a) fun a => sh (E a) := fun σ W F st y hy Q k => by
  cases hy
  exact ⟨tC v, hp, k v W [] (Ext.refl st.ok) (fun _ h => (List.not_mem_nil h).elim) FpOk.nil ⟨rfl, hv _⟩⟩
theorem jn_int {i j} : JN S (.Constant (.int i) j pos) Γ (some i) fun a => sh (intS a) := jn_c (fun _ _ => pe_int) fun _ => rfl
theorem jn_bl {b j} : JN S (.Constant (.bool b) j pos) Γ (some b) fun a => sh (boolS a) := jn_c (fun _ _ => pe_bl) fun _ => rfl
theorem jn_str {x j} : JN S (.Constant (.str x) j pos) Γ (some x) fun a => sh (strS a) := jn_c (fun _ _ => pe_str) fun _ => rfl
theorem jn_non {j} : JN S (.Constant .none j pos) Γ (some ()) fun _ => sh nonS := jn_c (E := fun _ => nonS) (fun _ _ => pe_non) fun _ => rfl
/-! ### operators -/
/-- a two-place operation on shared values -/
def OpV (r : R2) (E : α → SP) (G : β → SP) (f : α → β → Option γ) (R : γ → OP) : Prop :=
  ∀ W x y v u z, Ex W.B W.H → (E x).P W.B v → (G y).P W.B u → f x y = some z → ∀ Q : VK, Got (R z) W Q → r v u W.H Q
theorem Got.val {p : SP} {W : Wd} {Q : VK} {v : V} (k : Got (sh p) W Q) (ok : Ex W.B W.H) (h : p.P W.B v) : Q v W.H := k v W [] (Ext.refl ok) (fun _ h => (List.not_mem_nil h).elim) FpOk.nil ⟨rfl, h⟩
theorem Got.ext {R : OP} {W W1 : Wd} {Q : VK} (k : Got R W Q) (e : Ext W W1) : Got R W1 Q := fun v W' Fv e1 fr fp r => k v W' Fv (e.trans e1) (fun a ha => e.h.back (fr a ha)) fp r
theorem run2 {ma : Option α} {mb : Option β} {f : α → β → Option γ} {z : γ} (h : (ma.bind fun x => mb.bind fun y => f x y) = some z) : ∃ x y, ma = some x ∧ mb = some y ∧ f x y = some z := by
  cases ma with
  | none => cases h
  | some x =>
    cases mb with
    | none => cases h
    | some y => exact ⟨x, y, rfl, rfl, h⟩
theorem run1 {ma : Option α} {f : α → Option γ} {z : γ} (h : (ma.bind fun x => f x) = some z) : ∃ x, ma = some x ∧ f x = some z := by
  cases ma with
  | none => cases h
  | some x => exact ⟨x, rfl, h⟩
theorem tOp_run {r : R2} {E : α → SP} {G : β → SP} {f : α → β → Option γ} {R : γ → OP} {ma : Option α} {mb : Option β} (ha : JN S a Γ ma fun x => sh (E x)) (hb : JN S b Γ mb fun y => sh (G y)) (hr : OpV r E G f R)
    {σ : L2.St} {W : Wd} {F : List Addr} (st : Sta Γ σ W F) {z : γ} (hz : (ma.bind fun x => mb.bind fun y => f x y) = some z) {Q : VK} (k : Got (R z) W Q) : tOp r (tOf S a) (tOf S b) σ W.H Q := by
  obtain ⟨x, y, h1, h2, h3⟩ := run2 hz
  refine ha σ W F st x h1 _ fun v W1 F1 e1 _ _ r1 => ?_
  refine hb σ W1 F (st.ext e1) y h2 _ fun u W2 F2 e2 _ _ r2 => ?_
  exact hr W2 x y v u z e2.ok (SP.mono _ r1.2 e2.b) r2.2 h3 Q (k.ext (e1.trans e2))
theorem jn_bin {op : Operator} {r : R2} {E : α → SP} {G : β → SP} {f : α → β → Option γ} {R : γ → OP} {ma : Option α} {mb : Option β} (ho : ∀ X, S.In X → OpR X (binaryOp op) r) (hr : OpV r E G f R)
    (ha : JN S a Γ ma fun x => sh (E x)) (hb : JN S b Γ mb fun y => sh (G y)) : JN S (.BinOp a op b pos) Γ (ma.bind fun x => mb.bind fun y => f x y) R := fun σ W F st z hz Q k =>
  ⟨tOp r (tOf S a) (tOf S b), fun X hX => pe_op (ho X hX) (peO hX) (peO hX), tOp_run ha hb hr st hz k⟩
theorem jn_cmp {op : CmpOp} {r : R2} {E : α → SP} {G : β → SP} {f : α → β → Option γ} {R : γ → OP} {ma : Option α} {mb : Option β} (ho : ∀ X, S.In X → OpR X (compareOp op) r) (hr : OpV r E G f R)
    (ha : JN S a Γ ma fun x => sh (E x)) (hb : JN S b Γ mb fun y => sh (G y)) (hm : behindInMarks op b = false := by first | exact nomark _ | rfl) : JN S (.Compare a [op] [b] pos) Γ (ma.bind fun x => mb.bind fun y => f x y) R := fun σ W F st z hz Q k =>
  ⟨tOp r (tOf S a) (tOf S b), fun X hX => pe_cmpR (ho X hX) (peO hX) (peO hX) hm, tOp_run ha hb hr st hz k⟩
theorem jt_cmp {op : CmpOp} {r : R2} {E : α → SP} {G : β → SP} {f : α → β → Option Bool} {ma : Option α} {mb : Option β} (ho : ∀ X, S.In X → OpR X (compareOp op) r) (hr : OpV r E G f fun z => sh (boolS z))
    (ha : JN S a Γ ma fun x => sh (E x)) (hb : JN S b Γ mb fun y => sh (G y)) (hm : behindInMarks op b = false := by first | exact nomark _ | rfl) : JT S (.Compare a [op] [b] pos) Γ (ma.bind fun x => mb.bind fun y => f x y) := fun σ W F st z hz Q k =>
  ⟨tTest (tOp r (tOf S a) (tOf S b)), fun X hX => pt_cmpR (ho X hX) (peO hX) (peO hX) hm, tOp_run ha hb hr st hz fun v W' Fv e _ _ h => ⟨z, h.2, k W' e⟩⟩
/-- a subscript of something read where it stands -/
def IxV (r : R2) (R0 : α → OP) (G : β → SP) (f : α → β → Option γ) (R : γ → OP) : Prop :=
  ∀ W x y v u z F1, Ex W.B W.H → (R0 x).C W v F1 → (G y).P W.B u → f x y = some z → ∀ Q : VK, (∀ t, (∃ F2, (R z).C W t F2 ∧ ∀ a ∈ F2, a ∈ F1) → Q t W.H) → r v u W.H Q
theorem jr_ix {r : R2} {R0 : α → OP} {G : β → SP} {f : α → β → Option γ} {R : γ → OP} {ma : Option α} {mb : Option β} (ho : ∀ X, S.In X → IxR X r) (hr : IxV r R0 G f R)
    (ha : JR S a Γ ma R0) (hb : JN S b Γ mb fun y => sh (G y)) (hs : PlainIx b := by exact fun _ _ => rfl) : JR S (.Subscript a b pos) Γ (ma.bind fun x => mb.bind fun y => f x y) R := fun σ W F st z hz Q k => by
  refine ⟨tOp r (tOf S a) (tOf S b), fun X hX => pe_ix (ho X hX) (peO hX) (peO hX) hs, ?_⟩
  obtain ⟨x, y, h1, h2, h3⟩ := run2 hz
  refine ha σ W F st x h1 _ fun v W1 e1 ⟨F1, r1, al1⟩ => ?_
  refine hb σ W1 F (st.ext e1) y h2 _ fun u W2 F2 e2 _ _ r2 => ?_
  have r1' : (R0 x).C W2 v F1 := OP.loc _ r1 e2.b fun a ha => e2.h.eq (al1 a ha)
  exact hr W2 x y v u z F1 e2.ok r1' r2.2 h3 _ fun t ⟨F3, q1, q2⟩ => k t W2 (e1.trans e2) ⟨F3, q1, fun a ha => e2.h.ne (al1 a (q2 a ha))⟩
theorem jn_un {op : UnaryOp} {r : V → Hp → VK → Prop} {E : α → SP} {f : α → Option γ} {R : γ → OP} {ma : Option α} (ho : ∀ X, S.In X → UnR X (unaryOp op) r)
    (hr : ∀ W x v z, Ex W.B W.H → (E x).P W.B v → f x = some z → ∀ Q : VK, Got (R z) W Q → r v W.H Q) (ha : JN S a Γ ma fun x => sh (E x)) : JN S (.UnaryOp op a pos) Γ (ma.bind fun x => f x) R := fun σ W F st z hz Q k => by
  refine ⟨tUn r (tOf S a), fun X hX => pe_un (ho X hX) (peO hX), ?_⟩
  obtain ⟨x, h1, h3⟩ := run1 hz
  exact ha σ W F st x h1 _ fun v W1 F1 e1 _ _ r1 => hr W1 x v z e1.ok r1.2 h3 Q (k.ext e1)
theorem jn_neg {ma : Option Int} (ha : JN S a Γ ma fun x => sh (intS x)) : JN S (.UnaryOp .USub a pos) Γ (ma.bind fun x => some (-x)) fun z => sh (intS z) :=
  jn_un (f := fun x : Int => some (-x)) (fun _ _ => un_neg) (fun W x v z ok h e Q k => by cases e; cases h; exact ⟨x, rfl, k.val ok rfl⟩) ha
/-! ### tests -/
theorem jt_val {m : Option Bool} (h : JN S e Γ m fun z => sh (boolS z)) (he : ∀ env whole, isTrue e env whole = (do let v ← whole; standAt e.pos; holding [v] (truthy v)) := by intro _ _; rfl) : JT S e Γ m := fun σ W F st z hz Q k =>
  ⟨tB (tOf S e), fun X hX => pt_val (peO hX) (he _), h σ W F st z hz _ fun v W' Fv e _ _ r => ⟨z, r.2, k W' e⟩⟩
theorem jt_not {m : Option Bool} (h : JT S e Γ m) : JT S (.UnaryOp .Not e pos) Γ (m.bind fun x => some (!x)) := fun σ W F st z hz Q k => by
  obtain ⟨x, h1, h2⟩ := run1 hz
  cases h2
  exact ⟨tNot (ttOf S e), fun X hX => pt_not (ptO hX), h σ W F st x h1 _ fun W' e => k W' e⟩
theorem jw_and1 {m : Option Bool} (h : JT S a Γ m) : JW S (.BoolOp .And [a] pos) Γ m := fun σ W F st z hz Q k => ⟨ttOf S a, fun X hX => pw_and1 (ptO hX), h σ W F st z hz _ k⟩
theorem jw_or1 {m : Option Bool} (h : JT S a Γ m) : JW S (.BoolOp .Or [a] pos) Γ m := fun σ W F st z hz Q k => ⟨ttOf S a, fun X hX => pw_or1 (ptO hX), h σ W F st z hz _ k⟩
theorem jw_and {ma mb : Option Bool} (ha : JT S a Γ ma) (hb : JW S (.BoolOp .And (b :: es) pos) Γ mb) : JW S (.BoolOp .And (a :: b :: es) pos) Γ (ma.bind fun x => bif x then mb else some false) := fun σ W F st z hz Q k => by
  obtain ⟨x, h1, h2⟩ := run1 hz
  refine ⟨tAnd (ttOf S a) (twOf S (.BoolOp .And (b :: es) pos)), fun X hX => pw_and (ptO hX) (pwO hX), ha σ W F st x h1 _ fun W' e => ?_⟩
  cases x with
  | true => exact iteT (hb σ W' F (st.ext e) z h2 Q fun W'' e' => k W'' (e.trans e'))
  | false =>
    cases h2
    exact iteF (k W' e)
theorem jw_or {ma mb : Option Bool} (ha : JT S a Γ ma) (hb : JW S (.BoolOp .Or (b :: es) pos) Γ mb) : JW S (.BoolOp .Or (a :: b :: es) pos) Γ (ma.bind fun x => bif x then some true else mb) := fun σ W F st z hz Q k => by
  obtain ⟨x, h1, h2⟩ := run1 hz
  refine ⟨tOr (ttOf S a) (twOf S (.BoolOp .Or (b :: es) pos)), fun X hX => pw_or (ptO hX) (pwO hX), ha σ W F st x h1 _ fun W' e => ?_⟩
  cases x with
  | false => exact iteF (hb σ W' F (st.ext e) z h2 Q fun W'' e' => k W'' (e.trans e'))
  | true =>
    cases h2
    exact iteT (k W' e)
theorem jt_w {m : Option Bool} (h : JW S e Γ m) : JT S e Γ m := fun σ W F st z hz Q k => ⟨twOf S e, fun X hX => (pwO hX).pt, h σ W F st z hz Q k⟩
/-- as values: all True or False -/
theorem jn_one {op : BoolOp} {m : Option α} {R : α → OP} (h : JN S a Γ m R) : JN S (.BoolOp op [a] pos) Γ m R := fun σ W F st z hz Q k => ⟨tOf S a, fun X hX => pe_one (peO hX), h σ W F st z hz Q k⟩
theorem jn_and {ma mb : Option Bool} (ha : JN S a Γ ma fun z => sh (boolS z)) (hb : JN S (.BoolOp .And (b :: es) pos) Γ mb fun z => sh (boolS z)) :
    JN S (.BoolOp .And (a :: b :: es) pos) Γ (ma.bind fun x => bif x then mb else some false) fun z => sh (boolS z) := fun σ W F st z hz Q k => by
  obtain ⟨x, h1, h2⟩ := run1 hz
  refine ⟨tAndV (tOf S a) (tOf S (.BoolOp .And (b :: es) pos)), fun X hX => pe_and (peO hX) (peO hX), ha σ W F st x h1 _ fun v W' Fv e _ _ r => ⟨x, r.2, ?_⟩⟩
  cases x with
  | true => exact iteT (hb σ W' F (st.ext e) z h2 Q (k.ext e))
  | false =>
    cases h2
    exact iteF ((k.ext e).val e.ok rfl)
theorem jn_or {ma mb : Option Bool} (ha : JN S a Γ ma fun z => sh (boolS z)) (hb : JN S (.BoolOp .Or (b :: es) pos) Γ mb fun z => sh (boolS z)) :
    JN S (.BoolOp .Or (a :: b :: es) pos) Γ (ma.bind fun x => bif x then some true else mb) fun z => sh (boolS z) := fun σ W F st z hz Q k => by
  obtain ⟨x, h1, h2⟩ := run1 hz
  refine ⟨tOrV (tOf S a) (tOf S (.BoolOp .Or (b :: es) pos)), fun X hX => pe_or (peO hX) (peO hX), ha σ W F st x h1 _ fun v W' Fv e _ _ r => ⟨x, r.2, ?_⟩⟩
  cases x with
  | false => exact iteF (hb σ W' F (st.ext e) z h2 Q (k.ext e))
  | true =>
    cases h2
    exact iteT ((k.ext e).val e.ok rfl)
theorem jn_notV {m : Option Bool} (h : JN S e Γ m fun z => sh (boolS z)) : JN S (.UnaryOp .Not e pos) Γ (m.bind fun x => some (!x)) fun z => sh (boolS z) := fun σ W F st z hz Q k => by
  obtain ⟨x, h1, h2⟩ := run1 hz
  cases h2
  exact ⟨tNotV (tOf S e), fun X hX => pe_not (peO hX), h σ W F st x h1 _ fun v W' Fv e _ _ r => ⟨x, r.2, (k.ext e).val e.ok rfl⟩⟩
theorem jn_if {mc : Option Bool} {ma mb : Option α} {R : α → OP} (hc : JT S c Γ mc) (ha : JN S a Γ ma R) (hb : JN S b Γ mb R) : JN S (.IfExp c a b pos) Γ (mc.bind fun x => bif x then ma else mb) R := fun σ W F st z hz Q k => by
  obtain ⟨x, h1, h2⟩ := run1 hz
  refine ⟨tIf (ttOf S c) (tOf S a) (tOf S b), fun X hX => pe_ifExp (ptO hX) (peO hX) (peO hX), hc σ W F st x h1 _ fun W' e => ?_⟩
  cases x with
  | true => exact iteT (ha σ W' F (st.ext e) z h2 Q (k.ext e))
  | false => exact iteF (hb σ W' F (st.ext e) z h2 Q (k.ext e))
/-! ### arguments, displays, calls -/
theorem ja_nil : JA S [] Γ (some ()) fun _ => [] := fun σ W F st x hx Q k => ⟨tNil, fun _ _ => pa_nil, k [] W (Ext.refl st.ok) trivial⟩
theorem ja_cons {ma : Option α} {mb : Option β} {E : α → SP} {G : β → List SP} (ha : JN S e Γ ma fun x => sh (E x)) (hb : JA S es Γ mb G) (hs : ∀ env, starEach (e :: es) env = (false, eval e env) :: starEach es env := by intro _; rfl) :
    JA S (e :: es) Γ (ma.bind fun x => mb.bind fun y => some (x, y)) fun p => E p.1 :: G p.2 := fun σ W F st z hz Q k => by
  obtain ⟨x, y, h1, h2, h3⟩ := run2 hz
  cases h3
  refine ⟨tCons (tOf S e) (taOf S es), fun X hX => pa_cons (peO hX) (paO hX) (hs _), ?_⟩
  refine ha σ W F st x h1 _ fun v W1 F1 e1 _ _ r1 => ?_
  exact hb σ W1 F (st.ext e1) y h2 _ fun vs W2 e2 h => k (v :: vs) W2 (e1.trans e2) ⟨SP.mono _ r1.2 e2.b, h⟩
theorem jn_tup {m : Option α} {R : α → List SP} {p : SP → Prop} (h : JA S es Γ m R) {k : Nat} (hl : ∀ x, (R x).length ≤ 1000 := by intro _; decide) : JN S (.Tuple es k pos) Γ m fun x => sh (htupS (R x)) := fun σ W F st x hx Q kk =>
  ⟨tTup (taOf S es), fun X hX => pe_tup (paO hX), h σ W F st x hx _ fun vs W' e hh => by
    refine ⟨Nat.le_trans (by rw [hh.len]; exact hl x) (by decide), fun q hq => ?_⟩
    have e2 := Ext.newB e.ok (o := .tup vs) hq
    exact kk (.ref q) ⟨upd W'.H q (.tup vs), upd W'.B q (.tup vs)⟩ [] (e.trans e2) (fun _ h => (List.not_mem_nil h).elim) FpOk.nil ⟨rfl, q, vs, rfl, upd_same, hh.mono e2.b⟩⟩
/-- a call of a builtin by values -/
theorem jn_callB {x : Str} {id : String} {p : Pos} {r : List V → Hp → VK → Prop} {m : Option α} {G : α → List SP} {f : α → Option γ} {R : γ → OP} (hc : ∀ X, S.In X → CallR X (.builtin id) r)
    (hr : ∀ W x vs z, Ex W.B W.H → Hets W.B vs (G x) → f x = some z → ∀ Q : VK, Got (R z) W Q → r vs W.H Q) (hm : S.mg x = none) (ha : JA S (e :: es) Γ m G)
    (hg : GlS S x := by rfl) (hv : bootBuiltins x = some (.builtin id) := by decide +kernel) (hn : x ≠ "__name__" := by decide) (hdb : (x == ("__debug__" : Str)) = false := by decide)
    (he : ∀ env, starEach (e :: es) env = (false, eval e env) :: starEach es env := by intro _; rfl) (hpl : ∀ env, (backTo pos (starEach es env)).any (·.1) = false := by intro _; rfl) : JN S (.Call (.Name x p) (e :: es) [] pos) Γ (m.bind fun y => f y) R := fun σ W F st z hz Q k => by
  obtain ⟨y, h1, h2⟩ := run1 hz
  exact ⟨tCB r (taOf S (e :: es)), fun X hX => pe_callB (hc X hX) (hg.gl hX) (mgS hm hX) hv (paO hX) hn hdb (he _) (hpl _), ha σ W F st y h1 _ fun vs W' e hh => hr W' y vs z e.ok hh h2 Q (k.ext e)⟩
theorem jn_callTy {x : Str} {T : String} {p : Pos} {r : List V → Hp → VK → Prop} {m : Option α} {G : α → List SP} {f : α → Option γ} {R : γ → OP} (hc : ∀ X, S.In X → CallR X (.type T) r)
    (hr : ∀ W x vs z, Ex W.B W.H → Hets W.B vs (G x) → f x = some z → ∀ Q : VK, Got (R z) W Q → r vs W.H Q) (hm : S.mg x = none) (ha : JA S (e :: es) Γ m G)
    (hg : GlS S x := by rfl) (hv : bootBuiltins x = some (.type T) := by decide +kernel) (hn : x ≠ "__name__" := by decide) (hdb : (x == ("__debug__" : Str)) = false := by decide)
    (he : ∀ env, starEach (e :: es) env = (false, eval e env) :: starEach es env := by intro _; rfl) (hpl : ∀ env, (backTo pos (starEach es env)).any (·.1) = false := by intro _; rfl) : JN S (.Call (.Name x p) (e :: es) [] pos) Γ (m.bind fun y => f y) R := fun σ W F st z hz Q k => by
  obtain ⟨y, h1, h2⟩ := run1 hz
  exact ⟨tCB r (taOf S (e :: es)), fun X hX => pe_callTy (hc X hX) (hg.gl hX) (mgS hm hX) hv (paO hX) hn hdb (he _) (hpl _), ha σ W F st y h1 _ fun vs W' e hh => hr W' y vs z e.ok hh h2 Q (k.ext e)⟩
end
end CC
set_option maxHeartbeats 4000000
/-! Walks, comprehensions, loops, calls. -/
namespace CC
open PySem PySem.Spec L2
open PyProof.Rows hiding St
variable {α β γ δ τ ω ρ : Type}
/-- the length up to which lists are claimed -/
def LIM : Nat := 1000000
theorem lim_le {n : Nat} (h : n ≤ LIM) : n ≤ sizeLine := Nat.le_trans h (by decide)
theorem lim_lt {n : Nat} (h : n < LIM) : n < sizeLine := Nat.lt_of_lt_of_le h (by decide)
/-! ### walks -/
def ItOk (J : It) (C : Wd → Prop) (xs : List α) (E : α → SP) : Prop :=
  ∀ W1, C W1 → (∀ i x, xs[i]? = some x → J.go i W1.H ∧ ∀ v H', J.yld i W1.H v H' → ∃ W2, W2.H = H' ∧ Ext W1 W2 ∧ (E x).P W2.B v) ∧ ∀ i, xs.length ≤ i → J.stop i W1.H
def tiOf (S : Stc) (tg iter : Expr) : TI := fun σ H R => ∃ wi : TI, (∀ X, S.In X → PI X tg iter wi) ∧ wi σ H R
theorem piO {S : Stc} {X : Cx} {tg e : Expr} (h : S.In X) : PI X tg e (tiOf S tg e) := ⟨fun pins s σ H R I ⟨_, p, q⟩ => (p X h).run pins s σ H R I q⟩
/-- a walk over what is shared -/
def JI (S : Stc) (tg iter : Expr) (Γ : Ctx) (m : Option (List α)) (E : α → SP) : Prop :=
  ∀ σ W F, Sta Γ σ W F → ∀ xs, m = some xs → ∀ R : It → Hp → Prop, (∀ J W', Ext W W' → ItOk J (fun W1 => Ex W1.B W1.H ∧ Ex W'.B W1.B) xs E → R J W'.H) → tiOf S tg iter σ W.H R
/-- .. over what stands as it stands now -/
def JIc (S : Stc) (tg iter : Expr) (Γ : Ctx) (m : Option (List α)) (E : α → SP) : Prop :=
  ∀ σ W F, Sta Γ σ W F → ∀ xs, m = some xs → ∀ R : It → Hp → Prop, (∀ J W', Ext W W' → ItOk J (fun W1 => Ext W' W1) xs E → R J W'.H) → tiOf S tg iter σ W.H R
section
variable {S : Stc} {Γ Δ : Ctx} {a b c e tg iter elt : Expr} {es ifs : List Expr} {pos : Pos}
theorem jic_of {m : Option (List α)} {E : α → SP} (h : JI S tg iter Γ m E) : JIc S tg iter Γ m E := fun σ W F st xs hx R k => h σ W F st xs hx R fun J W' e ok => k J W' e fun W1 e1 => ok W1 ⟨e1.ok, e1.b⟩
theorem ok_list {K : PySem.W.Frag} {C : Wd → Prop} {p : Addr} {xs : List α} {E : α → SP} (h : ∀ W1, C W1 → Ex W1.B W1.H ∧ ∃ vs, W1.H p = some (.lst vs) ∧ Each E W1.B vs xs) : ItOk (Itl K p) C xs E := fun W1 c => by
  obtain ⟨ok, vs, h1, h2⟩ := h W1 c
  have hq : SqL K W1.H p vs := .inl (.inl h1)
  refine ⟨fun i x hx => ?_, fun i hi => ⟨vs, hq, by rw [h2.len]; exact hi⟩⟩
  obtain ⟨v, hv, pv⟩ := h2.get hx
  refine ⟨⟨vs, v, hq, hv⟩, fun u H' ⟨e1, e2⟩ => ⟨W1, e1.symm, Ext.refl ok, ?_⟩⟩
  have q := e2 vs hq
  rw [hv] at q
  cases q
  exact pv
theorem ok_tup {K : PySem.W.Frag} {C : Wd → Prop} {p : Addr} {xs : List α} {E : α → SP} (h : ∀ W1, C W1 → Ex W1.B W1.H ∧ ∃ vs, W1.H p = some (.tup vs) ∧ Each E W1.B vs xs) : ItOk (Itt K p) C xs E := fun W1 c => by
  obtain ⟨ok, vs, h1, h2⟩ := h W1 c
  have hq : SqT K W1.H p vs := .inl (.inl h1)
  refine ⟨fun i x hx => ?_, fun i hi => ⟨vs, hq, by rw [h2.len]; exact hi⟩⟩
  obtain ⟨v, hv, pv⟩ := h2.get hx
  refine ⟨⟨vs, v, hq, hv⟩, fun u H' ⟨e1, e2⟩ => ⟨W1, e1.symm, Ext.refl ok, ?_⟩⟩
  have q := e2 vs hq
  rw [hv] at q
  cases q
  exact pv
theorem ji_lst {m : Option (List α)} {E : α → SP} (h : JN S iter Γ m fun xs => sh (lstS E xs)) : JI S tg iter Γ m E := fun σ W F st xs hx R k => by
  refine ⟨iList S.K (tOf S iter), fun X hX => hX.K ▸ pi_list (peO hX), h σ W F st xs hx _ fun v W' Fv ext _ _ r => ?_⟩
  obtain ⟨_, a, vs, rfl, h2, h3⟩ := r
  refine ⟨a, rfl, ⟨vs, .inl (.inl (ext.ok a _ h2))⟩, k _ W' ext (ok_list fun W1 c => ⟨c.1, vs, c.1 a _ (c.2 a _ h2), h3.mono c.2⟩)⟩
theorem ji_tup {m : Option (List α)} {E : α → SP} (h : JN S iter Γ m fun xs => sh (tupS E xs)) : JI S tg iter Γ m E := fun σ W F st xs hx R k => by
  refine ⟨iTup S.K (tOf S iter), fun X hX => hX.K ▸ pi_tup (peO hX), h σ W F st xs hx _ fun v W' Fv ext _ _ r => ?_⟩
  obtain ⟨_, a, vs, rfl, h2, h3⟩ := r
  refine ⟨a, rfl, ⟨vs, .inl (.inl (ext.ok a _ h2))⟩, k _ W' ext (ok_tup fun W1 c => ⟨c.1, vs, c.1 a _ (c.2 a _ h2), h3.mono c.2⟩)⟩
theorem ji_scr {m : Option (List Int)} (h : JN S iter Γ m fun xs => sh (scrS S.K xs)) : JI S tg iter Γ m intS := fun σ W F st xs hx R k => by
  refine ⟨iList S.K (tOf S iter), fun X hX => hX.K ▸ pi_list (peO hX), h σ W F st xs hx _ fun v W' Fv ext _ _ r => ?_⟩
  obtain ⟨_, a, rfl, h2⟩ := r
  have mv : ∀ {B : Hp} {W1 : Wd}, SqL S.K B a (xs.map V.int) → Ex B W1.H → SqL S.K W1.H a (xs.map V.int) := fun {B W1} h e => by
    rcases h with (h | ⟨o, h⟩) | h
    · exact .inl (.inl (e _ _ h))
    · exact .inl (.inr ⟨o, e _ _ h⟩)
    · exact .inr h
  refine ⟨a, rfl, ⟨_, mv (W1 := W') h2 ext.ok⟩, k _ W' ext fun W1 c => ?_⟩
  have hq := mv (W1 := W1) h2 (c.2.trans c.1)
  refine ⟨fun i x hx => ?_, fun i hi => ⟨_, hq, by rw [List.length_map]; exact hi⟩⟩
  have hv : (xs.map V.int)[i]? = some (.int x) := by rw [List.getElem?_map, hx]; rfl
  refine ⟨⟨_, _, hq, hv⟩, fun u H' ⟨e1, e2⟩ => ⟨W1, e1.symm, Ext.refl c.1, ?_⟩⟩
  have q := e2 _ hq
  rw [hv] at q
  cases q
  rfl
/-- over a list of one's own, as it stands -/
theorem jic_own {m : Option (List α)} {E : α → SP} (h : JR S iter Γ m fun xs => lstO (fun x => sh (E x)) xs) : JIc S tg iter Γ m E := fun σ W F st xs hx R k => by
  refine ⟨iList S.K (tOf S iter), fun X hX => hX.K ▸ pi_list (peO hX), h σ W F st xs hx _ fun v W' ext ⟨F1, r, _⟩ => ?_⟩
  obtain ⟨a, vs, F2, rfl, h2, _, h4⟩ := r
  obtain ⟨_, h5⟩ := h4.each
  exact ⟨a, rfl, ⟨vs, .inl (.inl h2)⟩, k _ W' ext (ok_list fun W1 c => ⟨c.ok, vs, c.h a _ h2, h5.mono c.b⟩)⟩
/-- range -/
def rng (lo hi : Int) : Option (List Int) := if hi - lo ≤ LIM ∧ -LIM ≤ lo ∧ lo ≤ LIM ∧ -LIM ≤ hi ∧ hi ≤ LIM then some ((List.range (hi - lo).toNat).map fun i : Nat => lo + (i : Int)) else none
theorem ok_rng {lo : Int} {n : Nat} {C : Wd → Prop} (hC : ∀ W1, C W1 → Ex W1.B W1.H) : ItOk (Itr lo n) C ((List.range n).map fun i : Nat => lo + (i : Int)) intS := fun W1 c => by
  refine ⟨fun i x hx => ?_, fun i hi => by
    show n ≤ i
    simpa using hi⟩
  have hi : i < n := by
    have := (List.getElem?_eq_some_iff.mp hx).1
    simpa using this
  have e : lo + (i : Int) = x := by
    rw [List.getElem?_map, List.getElem?_range hi] at hx
    exact Option.some.inj hx
  exact ⟨hi, fun v H' ⟨e1, e2⟩ => ⟨W1, e1.symm, Ext.refl (hC W1 c), by rw [e2, e]; rfl⟩⟩
theorem ji_rng1 {p : Pos} {m : Option Int} (hm : S.mg "range" = none) (h : JN S a Γ m fun x => sh (intS x)) (hg : GlS S "range" := by rfl) (hs : ∀ env, starEach [a] env = [(false, eval a env)] := by intro _; rfl) :
    JI S tg (.Call (.Name "range" p) [a] [] pos) Γ (m.bind fun n => rng 0 n) intS := fun σ W F st xs hx R k => by
  obtain ⟨n, h1, h2⟩ := run1 hx
  unfold rng at h2
  split at h2
  · rename_i hb
    cases h2
    refine ⟨iRng1 (tCons (tOf S a) tNil), fun X hX => pi_range1 (hg.gl hX) (mgS hm hX) (pa_cons (peO hX) pa_nil (hs _)) (hs _), h σ W F st n h1 _ fun v W' Fv ext _ _ r => ?_⟩
    obtain ⟨_, rfl⟩ := r
    have z : (LIM : Int) = 1000000 := rfl
    refine ⟨n, rfl, by omega, by omega, ?_⟩
    have e : (n - 0).toNat = n.toNat := by rw [Int.sub_zero]
    rw [← e]
    exact k _ W' ext (ok_rng fun W1 c => c.1)
  · cases h2
theorem ji_rng2 {p : Pos} {m m' : Option Int} (hm : S.mg "range" = none) (h : JN S a Γ m fun x => sh (intS x)) (h' : JN S b Γ m' fun x => sh (intS x)) (hg : GlS S "range" := by rfl) (hs : ∀ env, starEach [a, b] env = [(false, eval a env), (false, eval b env)] := by intro _; rfl)
    (hs2 : ∀ env, starEach [b] env = [(false, eval b env)] := by intro _; rfl) : JI S tg (.Call (.Name "range" p) [a, b] [] pos) Γ (m.bind fun lo => m'.bind fun hi => rng lo hi) intS := fun σ W F st xs hx R k => by
  obtain ⟨lo, hi, h1, h1', h2⟩ := run2 hx
  unfold rng at h2
  split at h2
  · rename_i hb
    cases h2
    refine ⟨iRng2 (tCons (tOf S a) (tCons (tOf S b) tNil)), fun X hX => pi_range2 (hg.gl hX) (mgS hm hX) (pa_cons (peO hX) (pa_cons (peO hX) pa_nil (hs2 _)) ((hs _).trans (by rw [hs2]))) (hs _) (hs2 _), h σ W F st lo h1 _ fun v W1 Fv ext _ _ r => ?_⟩
    obtain ⟨_, rfl⟩ := r
    refine h' σ W1 F (st.ext ext) hi h1' _ fun v W2 Fv ext2 _ _ r => ?_
    obtain ⟨_, rfl⟩ := r
    have z : (LIM : Int) = 1000000 := rfl
    exact ⟨lo, hi, rfl, by omega, k _ W2 (ext.trans ext2) (ok_rng fun W1 c => c.1)⟩
  · cases h2
/-! ### targets -/
def tgOf (S : Stc) (tg : Expr) : TG := fun v σ H Q => ∃ g : TG, (∀ X, S.In X → PG X tg g) ∧ g v σ H Q
theorem pgO {S : Stc} {X : Cx} {tg : Expr} (h : S.In X) : PG X tg (tgOf S tg) := ⟨fun pins s σ H v u Q I r ⟨_, p, q⟩ => (p X h).run pins s σ H v u Q I r q⟩
/-- a target that stores into the slots ws -/
def JG (S : Stc) (tg : Expr) (E : α → SP) (up : α → Ctx → Ctx) (ws : List Nat) : Prop :=
  ∀ Γ σ W F x v, Sta Γ σ W F → (∀ i ∈ ws, i < Γ.length) → (E x).P W.B v → ∀ Q : L2.St → Hp → Prop, (∀ σ' F', (∀ vs : List Nat, (∀ i ∈ ws, i ∈ vs) → wipe σ' vs = wipe σ vs) → Keep S.prot σ σ' → Sta (up x Γ) σ' W F' → (∀ a ∈ F', a ∈ F) → Q σ' W.H) → tgOf S tg v σ W.H Q
theorem wipe_set {i : Nat} {x : Option V} : ∀ {vs : List Nat} {σ : L2.St}, i ∈ vs → wipe (σ.set i x) vs = wipe σ vs
  | [], _, h => by simp at h
  | v :: vs, σ, h => by
    show (wipe (σ.set i x) vs).set v none = (wipe σ vs).set v none
    by_cases hi : i ∈ vs
    · rw [wipe_set hi]
    · have e : i = v := by simpa [hi] using h
      subst e
      have go : ∀ (ws : List Nat) (σ : L2.St), i ∉ ws → wipe (σ.set i x) ws = (wipe σ ws).set i x := by
        intro ws
        induction ws with
        | nil => intro σ _; rfl
        | cons w ws ih =>
          intro σ hn
          have h1 : w ≠ i := fun z => hn (z ▸ List.mem_cons_self)
          show (wipe (σ.set i x) ws).set w none = ((wipe σ ws).set w none).set i x
          rw [ih σ fun z => hn (List.mem_cons_of_mem _ z), List.set_comm _ _ h1.symm]
      rw [go vs σ hi, List.set_set]
theorem set_keeps {Γ : Ctx} {σ : L2.St} {W : Wd} {F : List Addr} {i : Nat} {p : SP} {v : V} (st : Sta Γ σ W F) (hi : i < Γ.length) (h : p.P W.B v) : ∃ F', Sta (Γ.set i (some (sh p))) (σ.set i (some v)) W F' ∧ ∀ a ∈ F', a ∈ F := by
  obtain ⟨F', s', sub⟩ := st.put (o := sh p) (F1 := []) hi ⟨rfl, h⟩ (by rw [List.append_nil]; exact st.fp)
  exact ⟨F', s', fun a ha => by simpa using sub a ha⟩
theorem jg_name {E : α → SP} {x : Str} {pos : Pos} (i : Nat) (nd : S.N.Nodup) (hN : S.N[i]? = some x := by rfl) (hx : Loc S.sc x := by first | exact Or.inl rfl | exact Or.inr rfl) (hp : (S.prot.contains i) = false := by rfl)
    (hf : S.fn x = true ∨ S.sc.names.lookup x = some .local := by first | exact .inl rfl | exact .inr rfl) : JG S (.Name x pos) E (fun a Γ => Γ.set i (some (sh (E a)))) [i] := fun Γ σ W F y v st hl h Q k => by
  refine ⟨gName i, fun X hX => pg_name (by rw [hX.N]; exact nd) (by rw [hX.N]; exact hN) (locS hx hX) (by rw [hX.fn, hX.sc]; exact hf), ?_⟩
  obtain ⟨F', s', sub⟩ := set_keeps st (hl i (by simp)) h
  exact k _ F' (fun vs hv => wipe_set (hv i (by simp))) (Keep.set (ncon hp)) s' sub
/-- a name that is not read any more -/
theorem jg_pair {E : α → SP} {G : β → SP} {x y : Str} {pos p1 p2 : Pos} {k : Nat} (i j : Nat) (nd : S.N.Nodup) (hN : S.N[i]? = some x := by rfl) (hM : S.N[j]? = some y := by rfl) (hx : Loc S.sc x := by first | exact Or.inl rfl | exact Or.inr rfl) (hy : Loc S.sc y := by first | exact Or.inl rfl | exact Or.inr rfl)
    (hp : (S.prot.contains i) = false := by rfl) (hq : (S.prot.contains j) = false := by rfl) (hf : S.fn x = true ∨ S.sc.names.lookup x = some .local := by first | exact .inl rfl | exact .inr rfl) (hf2 : S.fn y = true ∨ S.sc.names.lookup y = some .local := by first | exact .inl rfl | exact .inr rfl)
    (hs : ∀ env, (assignEach [Expr.Name x p1, .Name y p2] env).map (·.2) = assign (.Name x p1) env :: (assignEach [Expr.Name y p2] env).map (·.2) := by intro _; rfl) (hs2 : ∀ env, (assignEach [Expr.Name y p2] env).map (·.2) = assign (.Name y p2) env :: (assignEach [] env).map (·.2) := by intro _; rfl)
    (hn : ∀ env, (assignEach [Expr.Name x p1, .Name y p2] env).length = 2 := by intro _; rfl) (hst : ∀ env, (assignEach [Expr.Name x p1, .Name y p2] env).findIdx? (·.1) = none := by intro _; rfl) (hcm : S.calm = true := by rfl) :
    JG S (.Tuple [.Name x p1, .Name y p2] k pos) (prS E G) (fun a Γ => (Γ.set i (some (sh (E a.1)))).set j (some (sh (G a.2)))) [i, j] := fun Γ σ W F q v st hl h Q kk => by
  refine ⟨gTup S.K 2 (gCons (gName i) (gCons (gName j) gNil)), fun X hX => hX.K ▸ pg_tup (hX.calm.trans hcm) (pgs_cons (pg_name (by rw [hX.N]; exact nd) (by rw [hX.N]; exact hN) (locS hx hX) (by rw [hX.fn, hX.sc]; exact hf)) (pgs_cons (pg_name (by rw [hX.N]; exact nd) (by rw [hX.N]; exact hM) (locS hy hX) (by rw [hX.fn, hX.sc]; exact hf2)) pgs_nil (hs2 _)) (hs _)) (hn _) (hst _), ?_⟩
  obtain ⟨a, vs, rfl, h2, h3⟩ := h
  match vs, h3 with
  | [u, w], ⟨p1, p2, _⟩ =>
    refine ⟨a, [u, w], rfl, .inl (.inl (st.ok a _ h2)), rfl, u, [w], rfl, w, [], rfl, rfl, ?_⟩
    obtain ⟨F1, s1, sub1⟩ := set_keeps st (hl i (by simp)) p1
    obtain ⟨F2, s2, sub2⟩ := set_keeps s1 (by rw [List.length_set]; exact hl j (by simp)) p2
    refine kk _ F2 (fun vs hv => ?_) ((Keep.set (ncon hp)).trans (Keep.set (ncon hq))) s2 fun b hb => sub1 b (sub2 b hb)
    rw [wipe_set (hv j (by simp)), wipe_set (hv i (by simp))]
/-! ### comprehensions -/
/-- the items that pass, turned -/
def compGo (t : α → Option Bool) (f : α → Option β) : List α → Option (List β)
  | [] => some []
  | x :: xs => (t x).bind fun b => bif b then (f x).bind fun y => (compGo t f xs).bind fun ys => some (y :: ys) else compGo t f xs
def compM (t : α → Option Bool) (f : α → Option β) (xs : List α) : Option (List β) := if xs.length ≤ LIM then compGo t f xs else none
def mapGo (f : α → Option β) : List α → Option (List β)
  | [] => some []
  | x :: xs => (f x).bind fun y => (mapGo f xs).bind fun ys => some (y :: ys)
def mapM (f : α → Option β) (xs : List α) : Option (List β) := if xs.length ≤ LIM then mapGo f xs else none
theorem compGo_yes (f : α → Option β) : ∀ xs : List α, compGo (fun _ => some true) f xs = mapGo f xs
  | [] => rfl
  | x :: xs => by
    show (f x).bind _ = (f x).bind _
    rw [compGo_yes f xs]
def ttsOf (S : Stc) (ifs : List Expr) : TT := fun σ H Q => ∃ t : TT, (∀ X, S.In X → PTs X ifs t) ∧ t σ H Q
theorem ptsO {S : Stc} {X : Cx} {ifs : List Expr} (h : S.In X) : PTs X ifs (ttsOf S ifs) := ⟨fun pins s σ H Q I ⟨_, p, q⟩ => (p X h).run pins s σ H Q I q⟩
def JTs (S : Stc) (ifs : List Expr) (Γ : Ctx) (m : Option Bool) : Prop :=
  ∀ σ W F, Sta Γ σ W F → ∀ b, m = some b → ∀ Q : Bool → Hp → Prop, (∀ W', Ext W W' → Q b W'.H) → ttsOf S ifs σ W.H Q
theorem jts_nil : JTs S [] Γ (some true) := fun σ W F st b hb Q k => by
  cases hb
  exact ⟨tYes, fun _ _ => pts_nil, k W (Ext.refl st.ok)⟩
theorem jts_one {m : Option Bool} (h : JT S c Γ m) : JTs S [c] Γ m := fun σ W F st b hb Q k => ⟨ttOf S c, fun X hX => pts_one (ptO hX), h σ W F st b hb Q k⟩
/-- the block's own slots forgotten -/
def wipeC (Γ : Ctx) : List Nat → Ctx
  | [] => Γ
  | v :: vs => (wipeC Γ vs).set v none
theorem wipeC_len (Γ : Ctx) : ∀ vs, (wipeC Γ vs).length = Γ.length
  | [] => rfl
  | v :: vs => by
    show ((wipeC Γ vs).set v none).length = _
    rw [List.length_set, wipeC_len Γ vs]
theorem Holds.wipe1 {W : Wd} : ∀ {Γ : Ctx} {σ : L2.St} {F : List Addr} (i : Nat), Holds Γ σ W F → ∃ F' G, Holds (Γ.set i none) (σ.set i none) W F' ∧ F.Perm (F' ++ G)
  | [], σ, F, i, h => ⟨[], F, rfl, .refl _⟩
  | none :: Γ, σ, F, 0, h => ⟨F, [], by
      show Holds Γ (σ.set 0 none).tail W F
      cases σ <;> exact h, by rw [List.append_nil]⟩
  | some o :: Γ, σ, F, 0, ⟨v, F1, F2, h1, h2, h3, h4⟩ => ⟨F2, F1, by
      show Holds Γ (σ.set 0 none).tail W F2
      cases σ <;> exact h4, by subst h2; exact List.perm_append_comm⟩
  | none :: Γ, σ, F, i + 1, h => by
    cases σ with
    | nil =>
      obtain ⟨F', G, a1, a2⟩ := Holds.wipe1 (Γ := Γ) (σ := []) i h
      exact ⟨F', G, a1, a2⟩
    | cons s σ =>
      obtain ⟨F', G, a1, a2⟩ := Holds.wipe1 (Γ := Γ) (σ := σ) i h
      exact ⟨F', G, a1, a2⟩
  | some o :: Γ, σ, F, i + 1, ⟨v, F1, F2, h1, h2, h3, h4⟩ => by
    cases σ with
    | nil => simp at h1
    | cons s σ =>
      obtain ⟨F', G, a1, a2⟩ := Holds.wipe1 (Γ := Γ) (σ := σ) i h4
      subst h2
      refine ⟨F1 ++ F', G, ⟨v, F1, F', h1, rfl, h3, a1⟩, ?_⟩
      rw [List.append_assoc]
      exact List.Perm.append_left F1 a2
theorem Sta.wipe {Γ : Ctx} {σ : L2.St} {W : Wd} {F : List Addr} (st : Sta Γ σ W F) : ∀ vs : List Nat, ∃ F', Sta (wipeC Γ vs) (L2.wipe σ vs) W F' ∧ ∀ a ∈ F', a ∈ F
  | [] => ⟨F, st, fun _ h => h⟩
  | v :: vs => by
    obtain ⟨F1, s1, sub1⟩ := st.wipe vs
    obtain ⟨F', G, a1, a2⟩ := s1.hold.wipe1 v
    exact ⟨F', ⟨st.ok, (s1.fp.perm a2).left, by
      show ((L2.wipe σ vs).set v none).length = ((wipeC Γ vs).set v none).length
      rw [List.length_set, List.length_set]; exact s1.len, a1⟩, fun a h => sub1 a (a2.mem_iff.mpr (List.mem_append_left _ h))⟩
/-- a comprehension's parts, and its reading -/
def JC (S : Stc) (elt tg iter : Expr) (ifs : List Expr) (scope : Scope) (Γ : Ctx) (m : Option α) (R : α → OP) : Prop :=
  ∃ own : List (Str × Nat), BlkOk S.N S.sc scope own ∧ ∀ σ W F, Sta Γ σ W F → ∀ x, m = some x → ∀ Q : VK, Got (R x) W Q → tLc (tiOf S tg iter) (tgOf (S.blk scope) tg) (ttsOf (S.blk scope) ifs) (tOf (S.blk scope) elt) (own.map (·.2)) σ W.H Q
theorem jn_lc {scope : Scope} {m : Option α} {R : α → OP} (nd : S.N.Nodup) (h : JC S elt tg iter ifs scope Γ m R) (hs : ∀ env x, foldedSetIterable iter env x = pure x := by intro _ _; rfl) (hcm : S.calm = true := by rfl) : JN S (.ListComp elt [⟨tg, iter, ifs, 0⟩] scope pos) Γ m R := fun σ W F st x hx Q k => by
  obtain ⟨own, ok, go⟩ := h
  exact ⟨_, fun X hX => pe_lc (hX.calm.trans hcm) (by rw [hX.N]; exact nd) (piO hX) (by rw [hX.N, hX.sc]; exact ok) (fun s H C cl fp => pgO (hX.blk scope s H C cl fp)) (fun s H C cl fp => ptsO (hX.blk scope s H C cl fp)) (fun s H C cl fp => peO (hX.blk scope s H C cl fp)) (hs _), go σ W F st x hx Q k⟩
theorem compGo_len {t : α → Option Bool} {f : α → Option β} : ∀ {xs : List α} {ys : List β}, compGo t f xs = some ys → ys.length ≤ xs.length
  | [], ys, h => by cases h; exact Nat.le_refl _
  | x :: xs, ys, h => by
    obtain ⟨b, h1, h2⟩ := run1 (f := fun b => bif b then (f x).bind fun y => (compGo t f xs).bind fun ys => some (y :: ys) else compGo t f xs) h
    cases b with
    | true =>
      obtain ⟨y, ys', h3, h4, h5⟩ := run2 (f := fun y ys => some (y :: ys)) h2
      cases h5
      exact Nat.succ_le_succ (compGo_len h4)
    | false => exact Nat.le_succ_of_le (compGo_len (xs := xs) h2)
/-- the block's turns, over a walk -/
theorem jc_of {scope : Scope} {mi : Option (List α)} {E : α → SP} {up : α → Ctx → Ctx} {ws : List Nat} {mt : α → Option Bool} {me : α → Option β} {R : β → OP} (own : List (Str × Nat)) (hi : JIc S tg iter Γ mi E) (ok : blkC S.N S.sc scope own = true) (hg : JG (S.blk scope) tg E up ws)
    (hw : ∀ i ∈ ws, i ∈ own.map (·.2)) (hl : ∀ i ∈ ws, i < Γ.length) (ht : ∀ x, JTs (S.blk scope) ifs (up x (wipeC Γ (own.map (·.2)))) (mt x)) (he : ∀ x, JN (S.blk scope) elt (up x (wipeC Γ (own.map (·.2)))) (me x) R) :
    JC S elt tg iter ifs scope Γ (mi.bind fun xs => compM mt me xs) fun ys => lstO R ys := by
  refine ⟨own, blkOk_by ok, fun σ W F st ys hx Q k => ?_⟩
  obtain ⟨xs, h1, h2⟩ := run1 hx
  unfold compM at h2
  split at h2
  · rename_i hlen
    refine hi σ W F st xs h1 _ fun J W' ext iok => fun D hD => ?_
    have st' := st.ext ext
    -- the invariant: what is made so far, what is left
    refine ⟨fun i m H => m = xs.length - i ∧ i ≤ xs.length ∧ ∃ (W1 : Wd) (acc : List V) (as : List β) (bs : List β) (Fa : List Addr), W1.H = H ∧ Ext W' W1 ∧ W1.H D = some (.lst acc) ∧ W1.B D = none ∧ as.length ≤ i ∧
      compGo mt me (xs.drop i) = some bs ∧ as ++ bs = ys ∧ Owns R W1 acc as Fa ∧ FpOk W1 Fa ∧ D ∉ Fa ∧ ∀ a ∈ Fa, W'.H a = none, ⟨xs.length, by simp, Nat.zero_le _, ⟨upd W'.H D (.lst []), W'.B⟩, [], [], ys, [], rfl, Ext.new ext.ok hD, upd_same, ext.ok.back hD, Nat.le_refl _, by simpa using h2, rfl, rfl, FpOk.nil, by simp, by simp⟩, ?_⟩
    rintro i m H ⟨rfl, hi', W1, acc, as, bs, Fa, rfl, e1, d1, d2, la, c1, c2, o1, o2, o3, o4⟩
    obtain ⟨iok1, iok2⟩ := iok W1 e1
    by_cases hlt : i < xs.length
    · obtain ⟨g1, g2⟩ := iok1 i xs[i] (List.getElem?_eq_getElem hlt)
      refine .inr ⟨g1, fun H' => ∃ m', m' < xs.length - i ∧ (m' = xs.length - (i + 1) ∧ i + 1 ≤ xs.length ∧ ∃ (W1 : Wd) (acc : List V) (as : List β) (bs : List β) (Fa : List Addr), W1.H = H' ∧ Ext W' W1 ∧ W1.H D = some (.lst acc) ∧ W1.B D = none ∧ as.length ≤ i + 1 ∧
        compGo mt me (xs.drop (i + 1)) = some bs ∧ as ++ bs = ys ∧ Owns R W1 acc as Fa ∧ FpOk W1 Fa ∧ D ∉ Fa ∧ ∀ a ∈ Fa, W'.H a = none), fun H' h => h, fun v H' y => ?_⟩
      obtain ⟨W2, rfl, e2, p2⟩ := g2 v H' y
      have hDrop : xs.drop i = xs[i] :: xs.drop (i + 1) := List.drop_eq_getElem_cons hlt
      rw [hDrop] at c1
      obtain ⟨b, t1, t2⟩ := run1 (f := fun b => bif b then (me xs[i]).bind fun y => (compGo mt me (xs.drop (i + 1))).bind fun ys => some (y :: ys) else compGo mt me (xs.drop (i + 1))) c1
      obtain ⟨Fw, sw, subw⟩ := (st'.ext (e1.trans e2)).wipe (own.map (·.2))
      refine hg _ _ W2 Fw xs[i] v sw (fun j hj => by rw [wipeC_len]; exact hl j hj) p2 _ fun σ2 F2 wp _ s2 sub2 => ⟨?_, ?_⟩
      · rw [wp _ hw]
        exact wipe_wipe σ (own.map (·.2))
      refine ht xs[i] σ2 W2 F2 s2 b t1 _ fun W3 e3 => ?_
      have eAll : Ext W1 W3 := e2.trans e3
      cases b with
      | true =>
        obtain ⟨y1, ys1, t3, t4, t5⟩ := run2 (f := fun y ys => some (y :: ys)) t2
        cases t5
        refine iteT (he xs[i] σ2 W3 F2 (s2.ext e3) y1 t3 _ fun u W4 Fu e4 fr4 fp4 r4 => ?_)
        have eA : Ext W1 W4 := eAll.trans e4
        have hD4 : W4.H D = some (.lst acc) := eA.h D _ d1
        have hB4 : W4.B D = none := eA.fr D (by rw [d1]; exact fun z => nomatch z) d2
        have ha4 : acc.length < LIM := by
          have := o1.len
          omega
        refine ⟨acc, hD4, lim_lt ha4, xs.length - (i + 1), by omega, rfl, hlt, ⟨upd W4.H D (.lst (acc ++ [u])), W4.B⟩, acc ++ [u], as ++ [y1], ys1, Fa ++ Fu, rfl, ?_, upd_same, hB4, ?_, t4, by rw [List.append_assoc]; exact c2, ?_, ?_, ?_, ?_⟩
        · have q := e1.trans eA
          refine ⟨fun a o h => ?_, fun a o h => ?_, q.b, q.fr⟩
          · have z : a ≠ D := fun z => by
              rw [z] at h
              rw [show W4.B D = some o from h] at hB4
              cases hB4
            show upd W4.H D _ a = some o
            rw [upd_ne z]
            exact q.ok a o h
          · show upd W4.H D _ a = some o
            rw [upd_ne (ne_of_none h hD)]
            exact q.h a o h
        · rw [List.length_append, List.length_singleton]
          omega
        · have nD : ∀ a ∈ Fa ++ Fu, a ≠ D := fun a ha z => by
            rcases List.mem_append.mp ha with h | h
            · exact o3 (z ▸ h)
            · have q := e3.h.back (fr4 a h)
              rw [z] at q
              have q2 := e2.h.back q
              rw [d1] at q2
              cases q2
          have A1 : Owns R W4 acc as Fa := o1.loc eA.b fun a ha => eA.h.eq (o2.al a ha)
          have A2 : Owns R W4 [u] [y1] Fu := ⟨Fu, [], (List.append_nil _).symm, r4, rfl⟩
          have A3 : Owns R W4 (acc ++ [u]) (as ++ [y1]) (Fa ++ Fu) := A1.app A2
          refine Owns.loc (W := W4) (W' := ⟨upd W4.H D (.lst (acc ++ [u])), W4.B⟩) (fun _ _ h => h) A3 fun a ha => ?_
          show upd W4.H D (.lst (acc ++ [u])) a = W4.H a
          exact upd_ne (nD a ha)
        · have fpA : FpOk W4 (Fa ++ Fu) := (o2.ext eAll).fresh e4 fp4 fr4
          refine ⟨fpA.nd, fun a ha => ?_, fpA.fr⟩
          show upd W4.H D _ a ≠ none
          by_cases z : a = D
          · rw [z, upd_same]
            exact fun z => nomatch z
          · rw [upd_ne z]
            exact fpA.al a ha
        · intro h
          rcases List.mem_append.mp h with h | h
          · exact o3 h
          · have q := e3.h.back (fr4 D h)
            have q2 := e2.h.back q
            rw [d1] at q2
            cases q2
        · intro a ha
          rcases List.mem_append.mp ha with h | h
          · exact o4 a h
          · exact (e1.trans eAll).h.back (fr4 a h)
      | false =>
        refine iteF ⟨xs.length - (i + 1), by omega, rfl, hlt, W3, acc, as, bs, Fa, rfl, e1.trans eAll, eAll.h D _ d1, eAll.fr D (by rw [d1]; exact fun z => nomatch z) d2, by omega, t2, c2, o1.loc eAll.b fun a ha => eAll.h.eq (o2.al a ha), o2.ext eAll, o3, o4⟩
    · have ei : i = xs.length := by omega
      subst ei
      rw [List.drop_length] at c1
      cases c1
      rw [List.append_nil] at c2
      subst c2
      refine .inl ⟨iok2 _ (Nat.le_refl _), k (.ref D) W1 (D :: Fa) (ext.trans e1) (fun a ha => ?_) ?_ ⟨D, acc, Fa, rfl, d1, rfl, o1⟩⟩
      · rcases List.mem_cons.mp ha with z | z
        · rw [z]; exact ext.h.back hD
        · exact ext.h.back (o4 a z)
      · refine ⟨List.nodup_cons.mpr ⟨o3, o2.nd⟩, fun a ha => ?_, fun a ha => ?_⟩
        · rcases List.mem_cons.mp ha with z | z
          · rw [z, d1]; exact fun z => nomatch z
          · exact o2.al a z
        · rcases List.mem_cons.mp ha with z | z
          · rw [z]; exact d2
          · exact o2.fr a z
  · cases h2
where
  wipe_wipe (σ : L2.St) : ∀ vs : List Nat, L2.wipe (L2.wipe σ vs) vs = L2.wipe σ vs := by
    intro vs
    have go : ∀ (us : List Nat), (∀ i ∈ us, i ∈ vs) → L2.wipe (L2.wipe σ us) vs = L2.wipe σ vs := by
      intro us
      induction us with
      | nil => intro _; rfl
      | cons u us ih =>
        intro h
        show L2.wipe ((L2.wipe σ us).set u none) vs = _
        rw [wipe_set (h u List.mem_cons_self)]
        exact ih fun i hi => h i (List.mem_cons_of_mem _ hi)
    exact go vs fun _ h => h
end
end CC
set_option maxHeartbeats 4000000
/-! Statements, loops, defs. -/
namespace CC
open PySem PySem.Spec L2
open PyProof.Rows hiding St
variable {α β γ δ τ ω ρ υ : Type}
/-! ### a def's promise -/
def spP (G : α → List SP) (fM : α → Option ρ) (R : ρ → OP) : Sp := fun vs H Q _ => ∃ x W r, W.H = H ∧ Ex W.B W.H ∧ Hets W.B vs (G x) ∧ fM x = some r ∧ Got (R r) W Q
/-- the first argument is owned, and changed -/
def spS (O : τ → OP) (G : α → List SP) (fM : α → τ → Option (ρ × τ)) (R : ρ → OP) : Sp := fun vs H Q _ => ∃ x s W F v0 vr r, vs = v0 :: vr ∧ W.H = H ∧ Ex W.B W.H ∧ FpOk W F ∧ (O s).C W v0 F ∧ Hets W.B vr (G x) ∧ fM x s = some r ∧
  ∀ v W' F' Fv, Stp W F W' (F' ++ Fv) → FpOk W' (F' ++ Fv) → (O r.2).C W' v0 F' → (R r.1).C W' v Fv → Q v W'.H
section
variable {S : Stc} {Γ Δ : Ctx} {a b c e tg iter elt : Expr} {es ifs : List Expr} {pos : Pos} {st : Stmt} {rest A B : List Stmt}
theorem passE0 {X : Cx} : Passes CX0 X E0 := fun _ _ _ _ _ _ _ h => h.elim
theorem bindsS {S : Stc} {X : Cx} {fd : FuncData} {ps : List Str} {ds : List Value} (h : S.In X) (b : Binds S.K fd ps ds) : Binds X.K fd ps ds := by rw [h.K]; exact b
theorem jn_call {x : Str} {p : Pos} {f : Addr} {fd : FuncData} {ps : List Str} {k : Nat} {G : α → List SP} {fM : α → Option ρ} {R : ρ → OP} {m : Option α} (Fn : FnOk S.P S.w S.K S.mg S.base CX0 k f fd ps (spP G fM R)) (hm : S.mg x = some (.ref f)) (kp : PySem.W.keepIn S.K (.ref f) = true) (hb : Binds S.K fd ps [])
    (hk : k ≤ S.k) (ha : JA S (e :: es) Γ m G) (hg : GlS S x := by rfl) (hdb : (x == ("__debug__" : Str)) = false := by decide) (he : ∀ env, starEach (e :: es) env = (false, eval e env) :: starEach es env := by intro _; rfl) (hpl : ∀ env, (backTo pos (starEach es env)).any (·.1) = false := by intro _; rfl) (hcm : S.calm = true := by rfl) :
    JN S (.Call (.Name x p) (e :: es) [] pos) Γ (m.bind fun y => fM y) R := fun σ W F st z hz Q kk => by
  obtain ⟨y, h1, h2⟩ := run1 hz
  refine ⟨tCall (spP G fM R) [] E0 (taOf S (e :: es)), fun X hX => pe_call (fnokS Fn hX) ((hX.room hcm).mono hk) (hg.gl hX) (mgS hm hX) (by rw [hX.K]; exact kp) (bindsS hX hb) .nil passE0 (paO hX) hdb (he _) (hpl _), ha σ W F st y h1 _ fun vs W' ext hh => ?_⟩
  show spP G fM R (vs ++ []) W'.H Q E0
  rw [List.append_nil]
  exact ⟨y, W', z, rfl, ext.ok, hh, h2, kk.ext ext⟩
/-! ### statements -/
def NoNx : Kd → Prop
  | .nx _ => False
  | _ => True
theorem jb_one {m : Option ω} {D : ω → Kd} (h : JS S st Γ m D) : JB S [st] Γ m D := fun σ W F sta x hx E k => ⟨tsOf S st, fun X hX => pss_one (psO hX), h σ W F sta x hx E k⟩
/-- the end of a block that falls through -/
theorem jb_nil {x : ω} {D : ω → Kd} (hD : D x = .nx Δ) (w : Weak Γ Δ) : JB S [] Γ (some x) D := fun σ W F sta y hy E k => by
  cases hy
  obtain ⟨F', s', sub⟩ := sta.weak w
  rw [hD] at k
  exact ⟨tNext, fun _ _ => pss_nil, k σ W F' Keep.refl ((Stp.refl sta.ok).perm sub) s'⟩
theorem post_nox {wx : WX} {prot : List Nat} {σ : L2.St} {W : Wd} {F : List Addr} {E : Ends} {N : L2.St → Hp → Prop} {k : Kd} (h : Post wx prot σ W F E k) (n : NoNx k) : Post wx prot σ W F { E with nx := N } k := by
  cases k with
  | nx Γ => exact n.elim
  | bk Γ => exact h
  | ct Γ => exact h
  | rt Γ R => exact h
  | xc Γ R => exact h
/-- one statement, then the rest -/
theorem jb_cons {ms : Option α} {Ds : α → Ctx} {mr : α → Option ω} {D : ω → Kd} (h : JS S st Γ ms fun x => .nx (Ds x)) (hr : ∀ x, JB S rest (Ds x) (mr x) D) : JB S (st :: rest) Γ (ms.bind fun x => mr x) D := fun σ W F sta z hz E k => by
  obtain ⟨x, h1, h2⟩ := run1 hz
  refine ⟨tSeq (tsOf S st) (tbOf S rest), fun X hX => pss_cons (psO hX) (pbO hX), ?_⟩
  exact h σ W F sta x h1 { E with nx := tbOf S rest E } fun σ' W' F' kp stp sta' => hr x σ' W' F' sta' z h2 E (k.before kp stp)
/-- an if whose branch never falls through -/
theorem jb_ifx {mc : Option Bool} {ma : Option υ} {mr : Option ω} {D : ω → Kd} {D' : υ → Kd} (ι : υ → ω) (hc : JT S c Γ mc) (ha : JB S A Γ ma D') (hι : ∀ x, D (ι x) = D' x) (hn : ∀ x, NoNx (D' x)) (hr : JB S rest Γ mr D) :
    JB S (.If c A [] pos :: rest) Γ (mc.bind fun b => bif b then ma.bind fun x => some (ι x) else mr) D := fun σ W F sta z hz E k => by
  obtain ⟨x, h1, h2⟩ := run1 hz
  refine ⟨tSeq (tIfS (ttOf S c) (tbOf S A) tNext) (tbOf S rest), fun X hX => pss_cons (ps_if (ptO hX) (pbO hX) pss_nil) (pbO hX), ?_⟩
  refine hc σ W F sta x h1 _ fun W' ext => ?_
  have stp : Stp W F W' F := by have := ext.stp (F := F) (Fv := []) (by simp); rwa [List.append_nil] at this
  cases x with
  | true =>
    obtain ⟨y, h3, h4⟩ := run1 h2
    cases h4
    refine iteT (ha σ W' F (sta.ext ext) y h3 _ ?_)
    rw [hι] at k
    exact post_nox (k.before Keep.refl stp) (hn y)
  | false => exact iteF (hr σ W' F (sta.ext ext) z h2 E (k.before Keep.refl stp))
/-- the same, the outcome being the block's own -/
theorem jb_ifr {mc : Option Bool} {ma mr : Option ω} {D : ω → Kd} (hc : JT S c Γ mc) (ha : JB S A Γ ma D) (hn : ∀ x, NoNx (D x)) (hr : JB S rest Γ mr D) : JB S (.If c A [] pos :: rest) Γ (mc.bind fun b => bif b then ma else mr) D := fun σ W F sta z hz E k => by
  obtain ⟨x, h1, h2⟩ := run1 hz
  refine ⟨tSeq (tIfS (ttOf S c) (tbOf S A) tNext) (tbOf S rest), fun X hX => pss_cons (ps_if (ptO hX) (pbO hX) pss_nil) (pbO hX), ?_⟩
  refine hc σ W F sta x h1 _ fun W' ext => ?_
  have stp : Stp W F W' F := by have := ext.stp (F := F) (Fv := []) (by simp); rwa [List.append_nil] at this
  cases x with
  | true => exact iteT (ha σ W' F (sta.ext ext) z h2 _ (post_nox (k.before Keep.refl stp) (hn z)))
  | false => exact iteF (hr σ W' F (sta.ext ext) z h2 E (k.before Keep.refl stp))
/-- an if that cannot be taken -/
theorem jb_ifF {mr : Option ω} {D : ω → Kd} (hc : JT S c Γ (some false)) (hr : JB S rest Γ mr D) : JB S (.If c A [] pos :: rest) Γ mr D := fun σ W F sta z hz E k => by
  refine ⟨tSeq (tIfS (ttOf S c) tNever tNext) (tbOf S rest), fun X hX => pss_cons (ps_if (ptO hX) pss_never pss_nil) (pbO hX), ?_⟩
  refine hc σ W F sta false rfl _ fun W' ext => ?_
  have stp : Stp W F W' F := by have := ext.stp (F := F) (Fv := []) (by simp); rwa [List.append_nil] at this
  exact iteF (hr σ W' F (sta.ext ext) z hz E (k.before Keep.refl stp))
/-- an if that is taken and does not fall through -/
theorem jb_ifT {ma : Option ω} {D : ω → Kd} (hc : JT S c Γ (some true)) (ha : JB S A Γ ma D) (hn : ∀ x, NoNx (D x)) : JB S (.If c A [] pos :: rest) Γ ma D := fun σ W F sta z hz E k => by
  refine ⟨tSeq (tIfS (ttOf S c) (tbOf S A) tNext) tNever, fun X hX => pss_cons (ps_if (ptO hX) (pbO hX) pss_nil) pss_never, ?_⟩
  refine hc σ W F sta true rfl _ fun W' ext => ?_
  have stp : Stp W F W' F := by have := ext.stp (F := F) (Fv := []) (by simp); rwa [List.append_nil] at this
  exact iteT (ha σ W' F (sta.ext ext) z hz _ (post_nox (k.before Keep.refl stp) (hn z)))
/-- if .. else -/
theorem js_if {mc : Option Bool} {ma mb : Option ω} {D : ω → Kd} (hc : JT S c Γ mc) (ha : JB S A Γ ma D) (hb : JB S B Γ mb D) : JS S (.If c A B pos) Γ (mc.bind fun b => bif b then ma else mb) D := fun σ W F sta z hz E k => by
  obtain ⟨x, h1, h2⟩ := run1 hz
  refine ⟨tIfS (ttOf S c) (tbOf S A) (tbOf S B), fun X hX => ps_if (ptO hX) (pbO hX) (pbO hX), ?_⟩
  refine hc σ W F sta x h1 _ fun W' ext => ?_
  have stp : Stp W F W' F := by have := ext.stp (F := F) (Fv := []) (by simp); rwa [List.append_nil] at this
  cases x with
  | true => exact iteT (ha σ W' F (sta.ext ext) z h2 _ (k.before Keep.refl stp))
  | false => exact iteF (hb σ W' F (sta.ext ext) z h2 _ (k.before Keep.refl stp))
theorem jb_ret {m : Option α} {R : α → OP} (w : Weak Γ Δ) (h : JN S e Γ m R) : JB S (.Return (some e) pos :: rest) Γ m fun r => .rt Δ (R r) := fun σ W F sta x hx E k => by
  refine ⟨tSeq (tRet (tOf S e)) tNever, fun X hX => pss_cons (ps_ret (peO hX)) pss_never, h σ W F sta x hx _ fun v W' Fv ext fr fp r => ?_⟩
  obtain ⟨F', s', sub⟩ := (sta.ext ext).weak w
  have fpA : FpOk W' (F ++ Fv) := sta.fp.fresh ext fp fr
  have fpB : FpOk W' (F' ++ Fv) := s'.fp.app fpA.right fun a ha => fpA.disj a (sub a ha)
  refine k v σ W' F' Fv Keep.refl ((ext.stp fr).perm fun a ha => ?_) s' fpB r
  rcases List.mem_append.mp ha with h | h
  · exact List.mem_append_left _ (sub a h)
  · exact List.mem_append_right _ h
theorem jb_cont {x : ω} {D : ω → Kd} (hD : D x = .ct Δ) (w : Weak Γ Δ) : JB S (.Continue pos :: rest) Γ (some x) D := fun σ W F sta y hy E k => by
  cases hy
  obtain ⟨F', s', sub⟩ := sta.weak w
  rw [hD] at k
  exact ⟨tSeq tCont tNever, fun _ _ => pss_cons ps_continue pss_never, k σ W F' Keep.refl ((Stp.refl sta.ok).perm sub) s'⟩
theorem jb_brk {x : ω} {D : ω → Kd} (hD : D x = .bk Δ) (w : Weak Γ Δ) : JB S (.Break pos :: rest) Γ (some x) D := fun σ W F sta y hy E k => by
  cases hy
  obtain ⟨F', s', sub⟩ := sta.weak w
  rw [hD] at k
  exact ⟨tSeq tBreak tNever, fun _ _ => pss_cons ps_break pss_never, k σ W F' Keep.refl ((Stp.refl sta.ok).perm sub) s'⟩
/-- name = e -/
theorem sta_set {σ : L2.St} {W W' : Wd} {F Fv : List Addr} {i : Nat} {o : OP} {v : V} (sta : Sta Γ σ W F) (ext : Ext W W') (fr : ∀ a ∈ Fv, W.H a = none) (fp : FpOk W' Fv) (r : o.C W' v Fv) (hi : (Γ[i]?).isSome = true) :
    ∃ F', Sta (Γ.set i (some o)) (σ.set i (some v)) W' F' ∧ Stp W F W' F' := by
  have hl : i < Γ.length := by
    cases h : Γ[i]? with
    | none => rw [h] at hi; cases hi
    | some o => exact (List.getElem?_eq_some_iff.mp h).1
  obtain ⟨F', s', sub⟩ := (sta.ext ext).put hl r (sta.fp.fresh ext fp fr)
  exact ⟨F', s', (ext.stp fr).perm sub⟩
theorem js_set {x : Str} {pos' : Pos} {m : Option α} {R : α → OP} (i : Nat) (nd : S.N.Nodup) (h : JN S e Γ m R) (hi : (Γ[i]?).isSome = true := by rfl) (hN : S.N[i]? = some x := by rfl) (hx : Loc S.sc x := by first | exact Or.inl rfl | exact Or.inr rfl) (hp : (S.prot.contains i) = false := by rfl)
    (hs : ∀ env, swapsWith e (some (.Name x pos')) pos.line env = pure false := by intro _; rfl) (hf : S.fn x = true ∨ S.sc.names.lookup x = some .local := by first | exact .inl rfl | exact .inr rfl) : JS S (.Assign [.Name x pos'] e pos) Γ m fun a => .nx (Γ.set i (some (R a))) := fun σ W F sta y hy E k => by
  refine ⟨tAsg (tOf S e) (gName i), fun X hX => ps_set (by rw [hX.N]; exact nd) (by rw [hX.N]; exact hN) (locS hx hX) (peO hX) (hs _) (by rw [hX.fn, hX.sc]; exact hf), h σ W F sta y hy _ fun v W' Fv ext fr fp r => ?_⟩
  obtain ⟨F', s', stp⟩ := sta_set sta ext fr fp r hi
  exact k _ W' F' (Keep.set (ncon hp)) stp s'
theorem js_setLc {x : Str} {py spos : Pos} {scope : Scope} {m : Option α} {R : α → OP} (i : Nat) (nd : S.N.Nodup) (h : JC S elt tg iter ifs scope Γ m R) (hi : (Γ[i]?).isSome = true := by rfl) (hN : S.N[i]? = some x := by rfl) (hx : S.sc.names.lookup x = some .local := by rfl) (hp : (S.prot.contains i) = false := by rfl)
    (hk : S.sc.kind = .function := by rfl) (hl : (py.line == pos.line) = true := by rfl) (hown : (scope.names.any fun (n, k) => n == x && (k == .local || k == .cell)) = false := by decide +kernel) (hs : ∀ env x, foldedSetIterable iter env x = pure x := by intro _ _; rfl) (hcm : S.calm = true := by rfl) :
    JS S (.Assign [.Name x py] (.ListComp elt [⟨tg, iter, ifs, 0⟩] scope pos) spos) Γ m fun a => .nx (Γ.set i (some (R a))) := fun σ W F sta y hy E k => by
  obtain ⟨own, ok, go⟩ := h
  refine ⟨_, fun X hX => ps_setLc (hX.calm.trans hcm) (by rw [hX.N]; exact nd) (by rw [hX.N]; exact hN) (by rw [hX.sc]; exact hx) (sw_true (by rw [hX.sc]; exact hk) (by rw [hX.sc]; exact hx) hl hown) (piO hX) (by rw [hX.N, hX.sc]; exact ok) (fun s H C cl fp => pgO (hX.blk scope s H C cl fp)) (fun s H C cl fp => ptsO (hX.blk scope s H C cl fp)) (fun s H C cl fp => peO (hX.blk scope s H C cl fp)) (hs _), go σ W F sta y hy _ fun v W' Fv ext fr fp r => ?_⟩
  obtain ⟨F', s', stp⟩ := sta_set sta ext fr fp r hi
  exact k _ W' F' (Keep.set (ncon hp)) stp s'
/-- target = e, a target of names -/
theorem js_asg {m : Option α} {E : α → SP} {up : α → Ctx → Ctx} {ws : List Nat} (h : JN S e Γ m fun x => sh (E x)) (hg : JG S tg E up ws) (hl : ∀ i ∈ ws, i < Γ.length) (hs : ∀ env, swapsWithSole [tg] e pos.line env = pure false := by intro _; rfl) (hw : ∀ env, swappedStores [tg] e env = pure none := by intro _; rfl)
    (h1 : ∀ env, (assignEach [tg] env).map (·.2) = [assign tg env] := by intro _; rfl) : JS S (.Assign [tg] e pos) Γ m fun a => .nx (up a Γ) := fun σ W F sta y hy Ed k => by
  refine ⟨tAsg (tOf S e) (tgOf S tg), fun X hX => ps_asg (peO hX) (pgO hX) (hs _) (hw _) (h1 _), h σ W F sta y hy _ fun v W' Fv ext fr fp r => ?_⟩
  refine hg Γ σ W' F y v (sta.ext ext) hl r.2 _ fun σ' F' _ kp s' sub => ?_
  have stp : Stp W F W' F := by have := ext.stp (F := F) (Fv := []) (by simp); rwa [List.append_nil] at this
  exact k σ' W' F' kp (stp.perm sub) s'
/-! ### for -/
inductive Out (τ ρ : Type) where
  | nx (s : τ)
  | rt (r : ρ)
  | bk (s : τ)
  | ct (s : τ)
def Out.k (o : Out τ ρ) (f : τ → Option ω) (g : ρ → Option ω) : Option ω := match o with
  | .nx s => f s
  | .ct s => f s
  | .bk s => f s
  | .rt r => g r
/-- behind a turn -/
def Out.step (o : Out τ ρ) (k : τ → Option (Out τ ρ)) : Option (Out τ ρ) := match o with
  | .nx s => k s
  | .ct s => k s
  | .bk s => some (.nx s)
  | .rt r => some (.rt r)
def loopGo (f : α → τ → Option (Out τ ρ)) : List α → τ → Option (Out τ ρ)
  | [], s => some (.nx s)
  | x :: xs, s => (f x s).bind fun o => o.step fun s' => loopGo f xs s'
def foldGo (f : α → τ → Option τ) : List α → τ → Option τ
  | [], s => some s
  | x :: xs, s => (f x s).bind fun s' => foldGo f xs s'
/-- the ends of a loop's body, of the loop -/
def DL (Γl : τ → Ctx) (T : ρ → Kd) : Out τ ρ → Kd
  | .nx s => .nx (Γl s)
  | .ct s => .ct (Γl s)
  | .bk s => .bk (Γl s)
  | .rt r => T r
def DF (Γl : τ → Ctx) (T : ρ → Kd) : Out τ ρ → Kd
  | .nx s => .nx (Γl s)
  | .ct s => .nx (Γl s)
  | .bk s => .nx (Γl s)
  | .rt r => T r
theorem js_for {mi : Option (List α)} {E : α → SP} {up : α → Ctx → Ctx} {ws : List Nat} {Γl : τ → Ctx} {T : ρ → Kd} {f : α → τ → Option (Out τ ρ)} (s0 : τ) (hi : JI S tg iter Γ mi E) (hg : JG S tg E up ws) (w : Weak Γ (Γl s0)) (hl : ∀ s, ∀ i ∈ ws, i < (Γl s).length)
    (hT : ∀ r, NoNx (T r) ∧ (∀ Δ, T r ≠ .bk Δ) ∧ ∀ Δ, T r ≠ .ct Δ) (hb : ∀ x s, JB S A (up x (Γl s)) (f x s) (DL Γl T)) (hs : ∀ env x, foldedSetIterable iter env x = pure x := by intro _ _; rfl) (hcm : S.calm = true := by rfl) : JS S (.For tg iter A [] pos) Γ (mi.bind fun xs => loopGo f xs s0) (DF Γl T) := fun σ W F sta z hz Ed k => by
  obtain ⟨xs, h1, h2⟩ := run1 hz
  refine ⟨tFor (tiOf S tg iter) (tgOf S tg) (tbOf S A), fun X hX => ps_for hX.pass (hX.calm.trans hcm) (piO hX) (pgO hX) (pbO hX) (hs _), ?_⟩
  refine hi σ W F sta xs h1 _ fun J W' ext iok => ?_
  have stp0 : Stp W F W' F := by have := ext.stp (F := F) (Fv := []) (by simp); rwa [List.append_nil] at this
  obtain ⟨F0, sa0, sub0⟩ := (sta.ext ext).weak w
  refine ⟨fun i m σ1 H => m = xs.length - i ∧ i ≤ xs.length ∧ ∃ (W1 : Wd) (F1 : List Addr) (s : τ), W1.H = H ∧ Keep S.prot σ σ1 ∧ Stp W' F W1 F1 ∧ Sta (Γl s) σ1 W1 F1 ∧ loopGo f (xs.drop i) s = some z,
    ⟨xs.length, by simp, Nat.zero_le _, W', F0, s0, rfl, Keep.refl, (Stp.refl ext.ok).perm sub0, sa0, by simpa using h2⟩, ?_⟩
  rintro i m σ1 H ⟨rfl, hi', W1, F1, s, rfl, kp, stp, sa, go⟩
  obtain ⟨iok1, iok2⟩ := iok W1 ⟨sa.ok, stp.b⟩
  by_cases hlt : i < xs.length
  · obtain ⟨g1, g2⟩ := iok1 i xs[i] (List.getElem?_eq_getElem hlt)
    refine .inr ⟨g1, fun σ' H' => ∃ m', m' < xs.length - i ∧ (m' = xs.length - (i + 1) ∧ i + 1 ≤ xs.length ∧ ∃ (W1 : Wd) (F1 : List Addr) (s : τ), W1.H = H' ∧ Keep S.prot σ σ' ∧ Stp W' F W1 F1 ∧ Sta (Γl s) σ' W1 F1 ∧ loopGo f (xs.drop (i + 1)) s = some z), fun σ' H' h => h, fun v H' y => ?_⟩
    obtain ⟨W2, rfl, e2, p2⟩ := g2 v H' y
    have stp2 : Stp W1 F1 W2 F1 := by have := e2.stp (F := F1) (Fv := []) (by simp); rwa [List.append_nil] at this
    refine hg (Γl s) σ1 W2 F1 xs[i] v (sa.ext e2) (hl s) p2 _ fun σ2 F2 _ kp2 sa2 sub2 => ?_
    rw [List.drop_eq_getElem_cons hlt] at go
    obtain ⟨o, o1, o2⟩ := run1 (f := fun o : Out τ ρ => o.step fun s' => loopGo f (xs.drop (i + 1)) s') go
    have stpA : Stp W' F W2 F2 := (stp.trans stp2).perm sub2
    refine hb xs[i] s σ2 W2 F2 sa2 o o1 _ ?_
    cases o with
    | nx s' => exact fun σ3 W3 F3 k3 t3 a3 => ⟨xs.length - (i + 1), by omega, rfl, hlt, W3, F3, s', rfl, (kp.trans kp2).trans k3, stpA.trans t3, a3, o2⟩
    | ct s' => exact fun σ3 W3 F3 k3 t3 a3 => ⟨xs.length - (i + 1), by omega, rfl, hlt, W3, F3, s', rfl, (kp.trans kp2).trans k3, stpA.trans t3, a3, o2⟩
    | bk s' =>
      cases o2
      exact fun σ3 W3 F3 k3 t3 a3 => k σ3 W3 F3 ((kp.trans kp2).trans k3) (stp0.trans (stpA.trans t3)) a3
    | rt r =>
      cases o2
      obtain ⟨n1, n2, n3⟩ := hT r
      have k' : Post S.W S.prot σ W F Ed (T r) := k
      show Post S.W S.prot σ2 W2 F2 _ (T r)
      have k'' := k'.before (kp.trans kp2) (stp0.trans stpA)
      generalize hq : T r = q at k'' n1
      cases q with
      | nx Γ => exact n1.elim
      | bk Γ => exact absurd hq (n2 Γ)
      | ct Γ => exact absurd hq (n3 Γ)
      | rt Γ R => exact k''
      | xc Γ R => exact k''
  · have ei : i = xs.length := by omega
    subst ei
    rw [List.drop_length] at go
    cases go
    exact .inl ⟨iok2 _ (Nat.le_refl _), k σ1 W1 F1 kp (stp0.trans stp) sa⟩
theorem loopGo_fold {f : α → τ → Option τ} : ∀ (xs : List α) (s : τ), loopGo (ρ := Empty) (fun x s => (f x s).bind fun s' => some (.nx s')) xs s = (foldGo f xs s).bind fun s' => some (.nx s')
  | [], s => rfl
  | x :: xs, s => by
    show ((f x s).bind fun s' => some (Out.nx s')).bind _ = ((f x s).bind fun s' => foldGo f xs s').bind _
    cases f x s with
    | none => rfl
    | some s' => exact loopGo_fold xs s'
theorem JB.map {sts : List Stmt} {m : Option α} {D : ω → Kd} {g : α → ω} {D' : α → Kd} (h : JB S sts Γ m D') (hD : ∀ x, D (g x) = D' x) : JB S sts Γ (m.bind fun x => some (g x)) D := fun σ W F sta z hz E k => by
  obtain ⟨x, h1, h2⟩ := run1 hz
  cases h2
  rw [hD] at k
  exact h σ W F sta x h1 E k
theorem js_forS {mi : Option (List α)} {E : α → SP} {up : α → Ctx → Ctx} {ws : List Nat} {Γl : τ → Ctx} {f : α → τ → Option τ} (s0 : τ) (hi : JI S tg iter Γ mi E) (hg : JG S tg E up ws) (w : Weak Γ (Γl s0)) (hl : ∀ s, ∀ i ∈ ws, i < (Γl s).length)
    (hb : ∀ x s, JB S A (up x (Γl s)) (f x s) fun s' => .nx (Γl s')) (hs : ∀ env x, foldedSetIterable iter env x = pure x := by intro _ _; rfl) (hcm : S.calm = true := by rfl) : JS S (.For tg iter A [] pos) Γ (mi.bind fun xs => foldGo f xs s0) fun s => .nx (Γl s) := fun σ W F sta z hz Ed k => by
  have h := js_for (ρ := Empty) (T := fun r => nomatch r) (f := fun x s => (f x s).bind fun s' => some (.nx s')) (pos := pos) s0 hi hg w hl (fun r => nomatch r) (fun x s => JB.map (hb x s) fun s' => rfl) hs hcm
  refine h σ W F sta (.nx z) ?_ Ed k
  obtain ⟨xs, h1, h2⟩ := run1 hz
  rw [h1]
  show loopGo _ xs s0 = _
  rw [loopGo_fold, h2]
  rfl
/-- a statement that may return, then the rest -/
theorem jb_consO {ms : Option (Out τ υ)} {Γl : τ → Ctx} {T : υ → Kd} {mr : τ → Option ω} {D : ω → Kd} (ι : υ → ω) (h : JS S st Γ ms (DF Γl T)) (hι : ∀ r, D (ι r) = T r) (hT : ∀ r, NoNx (T r)) (hr : ∀ s, JB S rest (Γl s) (mr s) D) :
    JB S (st :: rest) Γ (ms.bind fun o => o.k mr fun r => some (ι r)) D := fun σ W F sta z hz E k => by
  obtain ⟨o, h1, h2⟩ := run1 hz
  refine ⟨tSeq (tsOf S st) (tbOf S rest), fun X hX => pss_cons (psO hX) (pbO hX), ?_⟩
  refine h σ W F sta o h1 { E with nx := tbOf S rest E } ?_
  cases o with
  | nx s => exact fun σ' W' F' kp stp sta' => hr s σ' W' F' sta' z h2 E (k.before kp stp)
  | ct s => exact fun σ' W' F' kp stp sta' => hr s σ' W' F' sta' z h2 E (k.before kp stp)
  | bk s => exact fun σ' W' F' kp stp sta' => hr s σ' W' F' sta' z h2 E (k.before kp stp)
  | rt r =>
    cases h2
    rw [hι] at k
    exact post_nox k (hT r)
/-! ### while -/
def whileGo (c : τ → Option Bool) (f : τ → Option (Out τ ρ)) : Nat → τ → Option (Out τ ρ)
  | 0, _ => none
  | n + 1, s => (c s).bind fun b => bif b then (f s).bind fun o => o.step fun s' => whileGo c f n s' else some (.nx s)
theorem js_while {Γl : τ → Ctx} {T : ρ → Kd} {mc : τ → Option Bool} {f : τ → Option (Out τ ρ)} (n : Nat) (s0 : τ) (w : Weak Γ (Γl s0)) (hT : ∀ r, NoNx (T r) ∧ (∀ Δ, T r ≠ .bk Δ) ∧ ∀ Δ, T r ≠ .ct Δ) (hc : ∀ s, JT S c (Γl s) (mc s)) (hb : ∀ s, JB S A (Γl s) (f s) (DL Γl T)) :
    JS S (.While c A [] pos) Γ (whileGo mc f n s0) (DF Γl T) := fun σ W F sta z hz Ed k => by
  refine ⟨tWhile (ttOf S c) (tbOf S A), fun X hX => ps_while hX.pass (ptO hX) (pbO hX), ?_⟩
  obtain ⟨F0, sa0, sub0⟩ := sta.weak w
  refine ⟨fun m σ1 H => ∃ (W1 : Wd) (F1 : List Addr) (s : τ), W1.H = H ∧ Keep S.prot σ σ1 ∧ Stp W F W1 F1 ∧ Sta (Γl s) σ1 W1 F1 ∧ whileGo mc f m s = some z, ⟨n, W, F0, s0, rfl, Keep.refl, (Stp.refl sta.ok).perm sub0, sa0, hz⟩, ?_⟩
  rintro m σ1 H ⟨W1, F1, s, rfl, kp, stp, sa, go⟩
  cases m with
  | zero => cases go
  | succ m =>
    obtain ⟨b, b1, b2⟩ := run1 (f := fun b => bif b then (f s).bind fun o : Out τ ρ => o.step fun s' => whileGo mc f m s' else some (.nx s)) go
    refine hc s σ1 W1 F1 sa b b1 _ fun W2 e2 => ?_
    have stp2 : Stp W1 F1 W2 F1 := by have := e2.stp (F := F1) (Fv := []) (by simp); rwa [List.append_nil] at this
    have stpA := stp.trans stp2
    cases b with
    | true =>
      obtain ⟨o, o1, o2⟩ := run1 (f := fun o : Out τ ρ => o.step fun s' => whileGo mc f m s') b2
      refine iteT ⟨fun σ' H' => ∃ m', m' < m + 1 ∧ ∃ (W1 : Wd) (F1 : List Addr) (s : τ), W1.H = H' ∧ Keep S.prot σ σ' ∧ Stp W F W1 F1 ∧ Sta (Γl s) σ' W1 F1 ∧ whileGo mc f m' s = some z, fun σ' H' h => h, ?_⟩
      refine hb s σ1 W2 F1 (sa.ext e2) o o1 _ ?_
      cases o with
      | nx s' => exact fun σ3 W3 F3 k3 t3 a3 => ⟨m, Nat.lt_succ_self m, W3, F3, s', rfl, kp.trans k3, stpA.trans t3, a3, o2⟩
      | ct s' => exact fun σ3 W3 F3 k3 t3 a3 => ⟨m, Nat.lt_succ_self m, W3, F3, s', rfl, kp.trans k3, stpA.trans t3, a3, o2⟩
      | bk s' =>
        cases o2
        exact fun σ3 W3 F3 k3 t3 a3 => k σ3 W3 F3 (kp.trans k3) (stpA.trans t3) a3
      | rt r =>
        cases o2
        obtain ⟨n1, n2, n3⟩ := hT r
        have k' : Post S.W S.prot σ W F Ed (T r) := k
        show Post S.W S.prot σ1 W2 F1 _ (T r)
        have k'' := k'.before kp stpA
        generalize hq : T r = q at k'' n1
        cases q with
        | nx Γ => exact n1.elim
        | bk Γ => exact absurd hq (n2 Γ)
        | ct Γ => exact absurd hq (n3 Γ)
        | rt Γ R => exact k''
        | xc Γ R => exact k''
    | false =>
      cases b2
      exact iteF (k σ1 W2 F1 kp stpA (sa.ext e2))
/-! ### writing into what is owned -/
theorem set_back {σ : L2.St} {i : Nat} {v : V} (h : σ[i]? = some (some v)) : σ.set i (some v) = σ := by
  refine List.ext_getElem? fun j => ?_
  by_cases e : i = j
  · subst e
    rw [h, List.getElem?_set_self (List.getElem?_eq_some_iff.mp h).1]
  · rw [List.getElem?_set_ne e]
/-- the owned slot i is rewritten: its own addresses F1 become F1' (with some of the owned temporaries G), all else stays -/
theorem sta_own {σ : L2.St} {W W' : Wd} {F F1 F2 F1' : List Addr} {i : Nat} {o' : OP} {v : V} (G : List Addr) (sta : Sta Γ σ W F) (fpG : FpOk W (F ++ G)) (h1 : σ[i]? = some (some v)) (hp : F.Perm (F1 ++ F2))
    (re : ∀ (W' : Wd) (o' : OP) (v' : V) (F1' : List Addr), Ex W.B W'.B → (∀ a ∈ F2, W'.H a = W.H a) → o'.C W' v' F1' → ∃ F', Holds (Γ.set i (some o')) (σ.set i (some v')) W' F' ∧ F'.Perm (F1' ++ F2))
    (ok : Ex W'.B W'.H) (eb : W'.B = W.B) (hh : ∀ a, a ∉ F1 → W.H a ≠ none → W'.H a = W.H a) (al : ∀ a, W.H a ≠ none → W'.H a ≠ none) (fp1 : FpOk W' F1') (fr1 : ∀ a ∈ F1', a ∈ F1 ∨ a ∈ G ∨ W.H a = none) (r : o'.C W' v F1') :
    ∃ F', Sta (Γ.set i (some o')) σ W' F' ∧ Stp W (F ++ G) W' F' := by
  have fp := sta.fp.perm hp
  have ne2 : ∀ a ∈ F2, a ∉ F1 := fun a ha h => fp.disj a h ha
  obtain ⟨F', c1, c2⟩ := re W' o' v F1' (by rw [eb]; exact Ex.refl _) (fun a ha => hh a (ne2 a ha) (fp.right.al a ha)) r
  rw [set_back h1] at c1
  have fpB : FpOk W' (F1' ++ F2) := fp1.app ⟨fp.right.nd, fun a ha => al a (fp.right.al a ha), fun a ha => by rw [eb]; exact fp.right.fr a ha⟩ fun a ha h => by
    rcases fr1 a ha with z | z | z
    · exact ne2 a h z
    · exact fpG.disj a (hp.mem_iff.mpr (List.mem_append_right _ h)) z
    · exact fp.right.al a h z
  refine ⟨F', ⟨ok, fpB.perm c2.symm, by rw [List.length_set]; exact sta.len, c1⟩, ok, by rw [eb]; exact Ex.refl _, fun a o h n => ?_, al, fun a _ h2 _ => by rw [eb]; exact h2, fun a ha => ?_⟩
  · rw [hh a (fun z => n (List.mem_append_left _ (hp.mem_iff.mpr (List.mem_append_left _ z)))) (by rw [h]; exact fun z => nomatch z)]
    exact h
  · rcases List.mem_append.mp (c2.mem_iff.mp ha) with z | z
    · rcases fr1 a z with q | q | q
      · exact .inl (List.mem_append_left _ (hp.mem_iff.mpr (List.mem_append_left _ q)))
      · exact .inl (List.mem_append_right _ q)
      · exact .inr q
    · exact .inl (List.mem_append_left _ (hp.mem_iff.mpr (List.mem_append_right _ z)))
/-- one address of an owned thing is written -/
theorem wr_ok {W : Wd} {p : Addr} {o : HO} (ok : Ex W.B W.H) (hB : W.B p = none) : Ex W.B (upd W.H p o) := fun a u h => by
  have z : a ≠ p := fun z => by rw [z, hB] at h; cases h
  rw [upd_ne z]
  exact ok a u h
theorem wr_al {W : Wd} {p : Addr} {o : HO} : ∀ a, W.H a ≠ none → upd W.H p o a ≠ none := fun a h => by
  by_cases z : a = p
  · rw [z, upd_same]; exact fun z => nomatch z
  · rw [upd_ne z]; exact h
def appM (xs : List α) (x : α) : Option (List α) := if xs.length < LIM then some (xs ++ [x]) else none
theorem js_app {x : Str} {p0 apos cpos spos : Pos} {E : α → OP} {xs : List α} {m : Option α} (i : Nat) (h : JN S e Γ m E) (hi : Γ[i]? = some (some (lstO E xs)) := by rfl) (hN : S.N[i]? = some x := by rfl) (hv : Vis S.sc x := by first | exact Or.inl rfl | exact Or.inr (Or.inl rfl) | exact Or.inr (Or.inr rfl))
    (hd : (x == ("__debug__" : Str)) = false := by decide) (hcd : (x == ("__classdict__" : Str)) = false := by decide)
    (hbase : ∀ env, attributeBase (.Name x p0) "append" env (eval (.Name x p0) env) = eval (.Name x p0) env := by intro _; rfl)
    (hfew : ∀ env, ((backTo cpos (starEach [e] env)).all (fun x => !x.1) && (backToKw cpos (keywordEach [] env)).all (fun x => x.1.isSome) && decide ([e].length + ([] : List Keyword).length + (if ([] : List Keyword).isEmpty then 0 else 1) < 30)) = true := by intro _; rfl)
    (hline : (apos.endLine == cpos.line) = true := by rfl) (hs : ∀ env, starEach [e] env = (false, eval e env) :: starEach [] env := by intro _; rfl) (hsw : ∀ env, swapsWith (.Call (.Attribute (.Name x p0) "append" apos) [e] [] cpos) none spos.line env = pure false := by intro _; rfl) :
    JS S (.Expr (.Call (.Attribute (.Name x p0) "append" apos) [e] [] cpos) spos) Γ (m.bind fun y => appM xs y) fun ys => .nx (Γ.set i (some (lstO E ys))) := fun σ W F sta z hz Ed k => by
  obtain ⟨y, h1, h2⟩ := run1 hz
  unfold appM at h2
  split at h2
  · rename_i hlen
    cases h2
    refine ⟨tDrop (tBM S.K "list" rAppend (tVar i) (tCons (tOf S e) tNil)), fun X hX => ps_expr (hX.K ▸ pe_bm PySem.F.plainAttrs_list PySem.F.slot_list_append PySem.F.type_list_append mt_append (pe_var (by rw [hX.N]; exact hN) (visS hv hX) hd hcd) (pa_cons (peO hX) pa_nil (hs _)) (hbase _) (hfew _) hline (hs _) rfl) (hsw _), ?_⟩
    obtain ⟨v, F1, F2, a1, a2, a3, a4⟩ := sta.hold.at hi
    obtain ⟨p, vs, G2, rfl, b2, rfl, b4⟩ := id a2
    refine ⟨.ref p, a1, .inl ⟨rfl, vs, .inl (.inl b2)⟩, h σ W F sta y h1 _ fun u W1 Fv ext fr fp r => ?_⟩
    have sta1 := sta.ext ext
    obtain ⟨v', F1', F2', c1, c2, c3, c4⟩ := sta1.hold.at hi
    have ev : v' = .ref p := by rw [a1] at c1; exact (Option.some.inj (Option.some.inj c1)).symm
    subst ev
    obtain ⟨p', vs', G2', e1, d2, rfl, d4⟩ := c2
    cases e1
    have hp1 : W1.H p = some (.lst vs) := ext.h p _ b2
    have evs : vs' = vs := by
      rw [hp1] at d2
      cases d2
      rfl
    subst evs
    have hB : W1.B p = none := (sta1.fp.perm c3).fr p (by simp)
    have fpA : FpOk W1 ((p :: G2') ++ Fv) := by
      have q : FpOk W1 (F ++ Fv) := sta.fp.fresh ext fp fr
      have q2 : FpOk W1 (((p :: G2') ++ F2') ++ Fv) := q.perm (List.Perm.append_right Fv c3)
      refine FpOk.left (F' := F2') (q2.perm ?_)
      rw [List.append_assoc, List.append_assoc]
      exact List.Perm.append_left _ List.perm_append_comm
    have q : FpOk W1 (F ++ Fv) := sta.fp.fresh ext fp fr
    refine ⟨p, vs', u, rfl, rfl, hp1, lim_lt (by rw [d4.len]; exact hlen), ?_⟩
    have nP : ∀ a ∈ G2' ++ Fv, a ≠ p := fun a ha z => (List.nodup_cons.mp fpA.nd).1 (z ▸ ha)
    have A3 : Owns E W1 (vs' ++ [u]) (xs ++ [y]) (G2' ++ Fv) := d4.app ⟨Fv, [], (List.append_nil _).symm, r, rfl⟩
    have A4 : Owns E ⟨upd W1.H p (.lst (vs' ++ [u])), W1.B⟩ (vs' ++ [u]) (xs ++ [y]) (G2' ++ Fv) := Owns.loc (W := W1) (W' := ⟨upd W1.H p (.lst (vs' ++ [u])), W1.B⟩) (fun _ _ h => h) A3 fun a ha => by
      show upd W1.H p (.lst (vs' ++ [u])) a = W1.H a
      exact upd_ne (nP a ha)
    obtain ⟨F', s', stp⟩ := sta_own (W' := ⟨upd W1.H p (.lst (vs' ++ [u])), W1.B⟩) (F1' := p :: (G2' ++ Fv)) (o' := lstO E (xs ++ [y])) Fv sta1 q c1 c3 c4 (wr_ok ext.ok hB) rfl (fun a ha _ => upd_ne fun z => ha (z ▸ List.mem_cons_self)) wr_al
      ⟨fpA.nd, fun a ha => wr_al a (fpA.al a ha), fpA.fr⟩ (fun a ha => by
        rcases List.mem_cons.mp ha with z | z
        · exact .inl (z ▸ List.mem_cons_self)
        · rcases List.mem_append.mp z with z | z
          · exact .inl (List.mem_cons_of_mem _ z)
          · exact .inr (.inl z)) ⟨p, vs' ++ [u], G2' ++ Fv, rfl, upd_same, rfl, A4⟩
    exact k σ _ F' Keep.refl ((ext.stp fr).trans stp) s'
  · cases h2
end
end CC
set_option maxHeartbeats 4000000
/-! Operations by values; writing; defs; state. -/
namespace CC
open PySem PySem.Spec L2
open PyProof.Rows hiding St
variable {α β γ δ τ ω ρ υ : Type}
/-! ### operations -/
theorem ov_I0 {g : Int → Int → V} {h : Int → Int → γ} {E : γ → SP} (hg : ∀ i j B, (E (h i j)).P B (g i j)) : OpV (rI0 g) intS intS (fun i j => some (h i j)) fun z => sh (E z) := fun W x y v u z ok hx hy e Q k => by
  cases e
  cases hx
  cases hy
  exact ⟨x, y, rfl, rfl, k.val ok (hg _ _ _)⟩
theorem ov_I {C : Int → Int → Prop} {g : Int → Int → V} {h : Int → Int → Option γ} {E : γ → SP} (hc : ∀ i j z, h i j = some z → C i j ∧ ∀ B, (E z).P B (g i j)) : OpV (rI C g) intS intS h fun z => sh (E z) := fun W x y v u z ok hx hy e Q k => by
  cases hx
  cases hy
  exact ⟨x, y, rfl, rfl, (hc _ _ _ e).1, k.val ok ((hc _ _ _ e).2 _)⟩
def addO (x y : Int) : Option Int := some (x + y)
def subO (x y : Int) : Option Int := some (x - y)
def mulO (x y : Int) : Option Int := if (-(2 ^ 64) < x ∧ x < 2 ^ 64) ∨ (-(2 ^ 64) < y ∧ y < 2 ^ 64) then some (x * y) else none
def divO (x y : Int) : Option Int := if 0 < y ∧ y < 1073741824 then some (x / y) else none
def modO (x y : Int) : Option Int := if 0 < y then some (x % y) else none
theorem ov_add : OpV (rI0 fun i j => .int (i + j)) intS intS (fun x y => some (x + y)) fun z => sh (intS z) := ov_I0 fun _ _ _ => rfl
theorem ov_sub : OpV (rI0 fun i j => .int (i - j)) intS intS (fun x y => some (x - y)) fun z => sh (intS z) := ov_I0 fun _ _ _ => rfl
theorem ov_mul : OpV (rI CMul fun i j => .int (i * j)) intS intS mulO fun z => sh (intS z) := ov_I fun i j z h => by
  unfold mulO at h
  split at h
  · cases h
    rename_i c
    exact ⟨c, fun _ => rfl⟩
  · cases h
theorem ov_div : OpV (rI CDiv fun i j => .int (i / j)) intS intS divO fun z => sh (intS z) := ov_I fun i j z h => by
  unfold divO at h
  split at h
  · cases h
    rename_i c
    exact ⟨c, fun _ => rfl⟩
  · cases h
theorem ov_mod : OpV (rI (fun _ j => 0 < j) fun i j => .int (i % j)) intS intS modO fun z => sh (intS z) := ov_I fun i j z h => by
  unfold modO at h
  split at h
  · cases h
    rename_i c
    exact ⟨c, fun _ => rfl⟩
  · cases h
theorem ov_lt : OpV (rI0 fun i j => .bl (decide (i < j))) intS intS (fun x y => some (decide (x < y))) fun z => sh (boolS z) := ov_I0 fun _ _ _ => rfl
theorem ov_le : OpV (rI0 fun i j => .bl (decide (i ≤ j))) intS intS (fun x y => some (decide (x ≤ y))) fun z => sh (boolS z) := ov_I0 fun _ _ _ => rfl
theorem ov_gt : OpV (rI0 fun i j => .bl (decide (j < i))) intS intS (fun x y => some (decide (y < x))) fun z => sh (boolS z) := ov_I0 fun _ _ _ => rfl
theorem ov_ge : OpV (rI0 fun i j => .bl (decide (j ≤ i))) intS intS (fun x y => some (decide (y ≤ x))) fun z => sh (boolS z) := ov_I0 fun _ _ _ => rfl
theorem ov_eqI : OpV rEq intS intS (fun x y => some (decide (x = y))) fun z => sh (boolS z) := fun W x y v u z ok hx hy e Q k => by
  cases e
  cases hx
  cases hy
  refine ⟨rfl, k.val ok ?_⟩
  show V.bl (decide (V.int x = V.int y)) = V.bl (decide (x = y))
  simp
theorem ov_neI : OpV rNe intS intS (fun x y => some (!decide (x = y))) fun z => sh (boolS z) := fun W x y v u z ok hx hy e Q k => by
  cases e
  cases hx
  cases hy
  refine ⟨rfl, k.val ok ?_⟩
  show V.bl (!decide (V.int x = V.int y)) = V.bl (!decide (x = y))
  simp
theorem ov_eqB : OpV rEq boolS boolS (fun x y => some (decide (x = y))) fun z => sh (boolS z) := fun W x y v u z ok hx hy e Q k => by
  cases e
  cases hx
  cases hy
  refine ⟨rfl, k.val ok ?_⟩
  show V.bl (decide (V.bl x = V.bl y)) = V.bl (decide (x = y))
  simp
theorem ov_neB : OpV rNe boolS boolS (fun x y => some (!decide (x = y))) fun z => sh (boolS z) := fun W x y v u z ok hx hy e Q k => by
  cases e
  cases hx
  cases hy
  refine ⟨rfl, k.val ok ?_⟩
  show V.bl (!decide (V.bl x = V.bl y)) = V.bl (!decide (x = y))
  simp
theorem ov_neS : OpV rNe strS strS (fun x y => some (!decide (x = y))) fun z => sh (boolS z) := fun W x y v u z ok hx hy e Q k => by
  cases e
  cases hx
  cases hy
  refine ⟨rfl, k.val ok ?_⟩
  show V.bl (!decide (V.str x = V.str y)) = V.bl (!decide (x = y))
  simp
theorem ov_eqS : OpV rEq strS strS (fun x y => some (decide (x = y))) fun z => sh (boolS z) := fun W x y v u z ok hx hy e Q k => by
  cases e
  cases hx
  cases hy
  refine ⟨rfl, k.val ok ?_⟩
  show V.bl (decide (V.str x = V.str y)) = V.bl (decide (x = y))
  simp
/-- None or not, by what the value is known to be -/
class NotNon (E : α → SP) : Prop where
  out : ∀ x B v, (E x).P B v → v ≠ .non
instance : NotNon intS := ⟨fun x B v h z => by cases h; cases z⟩
instance : NotNon boolS := ⟨fun x B v h z => by cases h; cases z⟩
instance : NotNon strS := ⟨fun x B v h z => by cases h; cases z⟩
instance {E : α → SP} : NotNon (lstS E) := ⟨fun x B v h z => by obtain ⟨a, _, rfl, _⟩ := h; cases z⟩
instance {E : α → SP} : NotNon (tupS E) := ⟨fun x B v h z => by obtain ⟨a, _, rfl, _⟩ := h; cases z⟩
instance {E : α → SP} {G : β → SP} : NotNon (prS E G) := ⟨fun x B v h z => by obtain ⟨a, _, rfl, _⟩ := h; cases z⟩
theorem ov_isN0 {E : α → SP} [n : NotNon E] : OpV (fun x y H Q => y = .non ∧ Q (.bl (decide (x = .non))) H) E (fun _ : Unit => nonS) (fun _ _ => some false) fun z => sh (boolS z) := fun W x y v u z ok hx hy e Q k => by
  cases e
  cases hy
  refine ⟨rfl, ?_⟩
  rw [decide_eq_false (n.out x _ _ hx)]
  exact k.val ok rfl
theorem ov_notN0 {E : α → SP} [n : NotNon E] : OpV (fun x y H Q => y = .non ∧ Q (.bl (!decide (x = .non))) H) E (fun _ : Unit => nonS) (fun _ _ => some true) fun z => sh (boolS z) := fun W x y v u z ok hx hy e Q k => by
  cases e
  cases hy
  refine ⟨rfl, ?_⟩
  rw [decide_eq_false (n.out x _ _ hx)]
  exact k.val ok rfl
theorem ov_isNO {E : α → SP} [n : NotNon E] : OpV (fun x y H Q => y = .non ∧ Q (.bl (decide (x = .non))) H) (optS E) (fun _ : Unit => nonS) (fun x _ => some x.isNone) fun z => sh (boolS z) := fun W x y v u z ok hx hy e Q k => by
  cases e
  cases hy
  refine ⟨rfl, ?_⟩
  cases x with
  | none =>
    cases hx
    exact k.val ok rfl
  | some x =>
    rw [decide_eq_false (n.out x _ _ hx)]
    exact k.val ok rfl
theorem ov_notNO {E : α → SP} [n : NotNon E] : OpV (fun x y H Q => y = .non ∧ Q (.bl (!decide (x = .non))) H) (optS E) (fun _ : Unit => nonS) (fun x _ => some x.isSome) fun z => sh (boolS z) := fun W x y v u z ok hx hy e Q k => by
  cases e
  cases hy
  refine ⟨rfl, ?_⟩
  cases x with
  | none =>
    cases hx
    exact k.val ok rfl
  | some x =>
    rw [decide_eq_false (n.out x _ _ hx)]
    exact k.val ok rfl
section
variable {S : Stc}
theorem oAdd : ∀ X, S.In X → OpR X (binaryOp .Add) (rI0 fun i j => .int (i + j)) := fun _ _ => op_add
theorem oSub : ∀ X, S.In X → OpR X (binaryOp .Sub) (rI0 fun i j => .int (i - j)) := fun _ _ => op_sub
theorem oMul : ∀ X, S.In X → OpR X (binaryOp .Mult) (rI CMul fun i j => .int (i * j)) := fun _ _ => op_mul
theorem oDiv : ∀ X, S.In X → OpR X (binaryOp .FloorDiv) (rI CDiv fun i j => .int (i / j)) := fun _ _ => op_fdiv
theorem oMod : ∀ X, S.In X → OpR X (binaryOp .Mod) (rI (fun _ j => 0 < j) fun i j => .int (i % j)) := fun _ _ => op_mod
theorem oLt : ∀ X, S.In X → OpR X (compareOp .Lt) (rI0 fun i j => .bl (decide (i < j))) := fun _ _ => op_lt
theorem oLe : ∀ X, S.In X → OpR X (compareOp .LtE) (rI0 fun i j => .bl (decide (i ≤ j))) := fun _ _ => op_le
theorem oGt : ∀ X, S.In X → OpR X (compareOp .Gt) (rI0 fun i j => .bl (decide (j < i))) := fun _ _ => op_gt
theorem oGe : ∀ X, S.In X → OpR X (compareOp .GtE) (rI0 fun i j => .bl (decide (j ≤ i))) := fun _ _ => op_ge
theorem oEq : ∀ X, S.In X → OpR X (compareOp .Eq) rEq := fun _ _ => op_eq
theorem oNe : ∀ X, S.In X → OpR X (compareOp .NotEq) rNe := fun _ _ => op_ne
theorem oIsN : ∀ X, S.In X → OpR X (compareOp .Is) (fun x y H Q => y = .non ∧ Q (.bl (decide (x = .non))) H) := fun _ _ => op_isN
theorem oNotN : ∀ X, S.In X → OpR X (compareOp .IsNot) (fun x y H Q => y = .non ∧ Q (.bl (!decide (x = .non))) H) := fun _ _ => op_notN
theorem oIxL : ∀ X, S.In X → IxR X (rIxL S.K) := fun _ h => h.K ▸ ix_list
theorem oIxT : ∀ X, S.In X → IxR X (rIxT S.K) := fun _ h => h.K ▸ ix_tup
end
theorem atI_each {E : α → SP} {B : Hp} {vs : List V} {xs : List α} {i : Int} {x : α} (h : Each E B vs xs) (e : atI xs i = some x) : ∃ v, atI vs i = some v ∧ (E x).P B v := by
  unfold atI at e ⊢
  rw [h.len]
  cases q : ixN xs.length i with
  | none => rw [q] at e; cases e
  | some j =>
    rw [q] at e
    exact h.get e
theorem atI_owns {E : α → OP} {W : Wd} {vs : List V} {xs : List α} {F : List Addr} {i : Int} {x : α} (h : Owns E W vs xs F) (e : atI xs i = some x) : ∃ v F1, atI vs i = some v ∧ (E x).C W v F1 ∧ ∀ a ∈ F1, a ∈ F := by
  unfold atI at e ⊢
  rw [h.len]
  cases q : ixN xs.length i with
  | none => rw [q] at e; cases e
  | some j =>
    rw [q] at e
    obtain ⟨v, F1, F2, h1, h2, h3, _⟩ := h.at e
    exact ⟨v, F1, h1, h2, fun a ha => h3.mem_iff.mpr (List.mem_append_left _ ha)⟩
theorem iv_lstO {K : PySem.W.Frag} {E : α → OP} : IxV (rIxL K) (lstO E) intS (fun xs i => atI xs i) E := fun W x y v u z F1 ok hx hy e Q k => by
  cases hy
  obtain ⟨a, vs, F2, rfl, h2, rfl, h4⟩ := hx
  obtain ⟨t, F3, q1, q2, q3⟩ := atI_owns h4 e
  exact ⟨a, vs, y, t, rfl, rfl, .inl (.inl h2), q1, k t ⟨F3, q2, fun b hb => List.mem_cons_of_mem _ (q3 b hb)⟩⟩
theorem iv_lst {K : PySem.W.Frag} {E : α → SP} : IxV (rIxL K) (fun xs => sh (lstS E xs)) intS (fun xs i => atI xs i) fun x => sh (E x) := fun W x y v u z F1 ok hx hy e Q k => by
  cases hy
  obtain ⟨_, a, vs, rfl, h2, h4⟩ := hx
  obtain ⟨t, q1, q2⟩ := atI_each h4 e
  exact ⟨a, vs, y, t, rfl, rfl, .inl (.inl (ok a _ h2)), q1, k t ⟨[], ⟨rfl, q2⟩, by simp⟩⟩
theorem iv_tup {K : PySem.W.Frag} {E : α → SP} : IxV (rIxT K) (fun xs => sh (tupS E xs)) intS (fun xs i => atI xs i) fun x => sh (E x) := fun W x y v u z F1 ok hx hy e Q k => by
  cases hy
  obtain ⟨_, a, vs, rfl, h2, h4⟩ := hx
  obtain ⟨t, q1, q2⟩ := atI_each h4 e
  exact ⟨a, vs, y, t, rfl, rfl, .inl (.inl (ok a _ h2)), q1, k t ⟨[], ⟨rfl, q2⟩, by simp⟩⟩
theorem iv_scr {K : PySem.W.Frag} : IxV (rIxL K) (fun xs => sh (scrS K xs)) intS (fun xs i => atI xs i) fun x => sh (intS x) := fun W x y v u z F1 ok hx hy e Q k => by
  cases hy
  obtain ⟨_, a, rfl, h2⟩ := hx
  have hq : SqL K W.H a (x.map V.int) := by
    rcases h2 with (h | ⟨o, h⟩) | h
    · exact .inl (.inl (ok _ _ h))
    · exact .inl (.inr ⟨o, ok _ _ h⟩)
    · exact .inr h
  have e : atI x y = some z := e
  have e' : atI (x.map V.int) y = some (.int z) := by
    unfold atI at e ⊢
    rw [List.length_map]
    cases q : ixN x.length y with
    | none => rw [q] at e; cases e
    | some j =>
      rw [q] at e
      show (x.map V.int)[j]? = some (.int z)
      rw [List.getElem?_map, show x[j]? = some z from e]
      rfl
  exact ⟨a, _, y, .int z, rfl, rfl, hq, e', k _ ⟨[], ⟨rfl, rfl⟩, by simp⟩⟩
section
variable {S : Stc} {Γ Δ : Ctx} {a b c e tg iter elt : Expr} {es ifs : List Expr} {pos : Pos} {st : Stmt} {rest A B : List Stmt}
/-- an item of a tuple (of a list) of several kinds, at a written place -/
theorem atI_k {vs : List V} {k : Nat} {v : V} (h : vs[k]? = some v) : atI vs (k : Int) = some v := atI_nat h
theorem jn_ixT {ps : α → List SP} {E : β → SP} {g : α → β} {m : Option α} {j : Int} {kk p'} (k : Nat) (h : JN S a Γ m fun x => sh (htupS (ps x))) (hk : ∀ x, (ps x)[k]? = some (E (g x)) := by intro _; rfl) (hj : j = (k : Int) := by rfl) :
    JN S (.Subscript a (.Constant (.int j) kk p') pos) Γ (m.bind fun x => some (g x)) fun z => sh (E z) := fun σ W F sta z hz Q kq => by
  obtain ⟨x, h1, h2⟩ := run1 hz
  cases h2
  refine ⟨tOp (rIxT S.K) (tOf S a) (tC (.int j)), fun X hX => pe_ix (oIxT X hX) (peO hX) pe_int (fun _ _ => rfl), h σ W F sta x h1 _ fun v W' Fv ext _ _ r => ?_⟩
  obtain ⟨_, p, vs, rfl, q2, q3⟩ := r
  obtain ⟨u, u1, u2⟩ := q3.get (hk x)
  exact ⟨p, vs, j, u, rfl, rfl, .inl (.inl (ext.ok p _ q2)), by rw [hj]; exact atI_k u1, (kq.ext ext).val ext.ok u2⟩
theorem jn_ixH {ps : α → List SP} {E : β → SP} {g : α → β} {m : Option α} {j : Int} {kk p'} (k : Nat) (h : JN S a Γ m fun x => sh (hlstS (ps x))) (hk : ∀ x, (ps x)[k]? = some (E (g x)) := by intro _; rfl) (hj : j = (k : Int) := by rfl) :
    JN S (.Subscript a (.Constant (.int j) kk p') pos) Γ (m.bind fun x => some (g x)) fun z => sh (E z) := fun σ W F sta z hz Q kq => by
  obtain ⟨x, h1, h2⟩ := run1 hz
  cases h2
  refine ⟨tOp (rIxL S.K) (tOf S a) (tC (.int j)), fun X hX => pe_ix (oIxL X hX) (peO hX) pe_int (fun _ _ => rfl), h σ W F sta x h1 _ fun v W' Fv ext _ _ r => ?_⟩
  obtain ⟨_, p, vs, rfl, q2, q3⟩ := r
  obtain ⟨u, u1, u2⟩ := q3.get (hk x)
  exact ⟨p, vs, j, u, rfl, rfl, .inl (.inl (ext.ok p _ q2)), by rw [hj]; exact atI_k u1, (kq.ext ext).val ext.ok u2⟩
/-- .. of an owned list of several kinds -/
theorem jr_ixO {ps : α → List OP} {R : β → OP} {g : α → β} {m : Option α} {j : Int} {kk p'} (k : Nat) (h : JR S a Γ m fun x => hetO (ps x)) (hk : ∀ x, (ps x)[k]? = some (R (g x)) := by intro _; rfl) (hj : j = (k : Int) := by rfl) :
    JR S (.Subscript a (.Constant (.int j) kk p') pos) Γ (m.bind fun x => some (g x)) R := fun σ W F sta z hz Q kq => by
  obtain ⟨x, h1, h2⟩ := run1 hz
  cases h2
  refine ⟨tOp (rIxL S.K) (tOf S a) (tC (.int j)), fun X hX => pe_ix (oIxL X hX) (peO hX) pe_int (fun _ _ => rfl), h σ W F sta x h1 _ fun v W' ext ⟨F1, r, al⟩ => ?_⟩
  obtain ⟨p, vs, F2, rfl, q2, rfl, q3⟩ := r
  obtain ⟨u, G1, G2, u1, u2, u3, _⟩ := q3.at (hk x)
  exact ⟨p, vs, j, u, rfl, rfl, .inl (.inl q2), by rw [hj]; exact atI_k u1, kq u W' ext ⟨G1, u2, fun b hb => al b (List.mem_cons_of_mem _ (u3.mem_iff.mpr (List.mem_append_left _ hb)))⟩⟩
/-- len -/
theorem len_lstO {E : α → OP} {m : Option (List α)} {p : Pos} (hm : S.mg "len" = none) (h : JR S a Γ m (lstO E)) (hg : GlS S "len" := by rfl) (hs : ∀ env, starEach [a] env = [(false, eval a env)] := by intro _; rfl) : JN S (.Call (.Name "len" p) [a] [] pos) Γ (m.bind fun xs => some (xs.length : Int)) fun z => sh (intS z) := fun σ W F sta z hz Q kq => by
  obtain ⟨x, h1, h2⟩ := run1 hz
  cases h2
  refine ⟨tCB (fun xs H Q => ∃ p ys, xs = [.ref p] ∧ (SqL S.K H p ys ∨ SqT S.K H p ys) ∧ Q (.int ys.length) H) (tCons (tOf S a) tNil), fun X hX => pe_callB (hX.K ▸ call_len_seq) (hg.gl hX) (mgS hm hX) PySem.boot_len (pa_cons (peO hX) pa_nil (hs _)) (by decide) (by decide) (hs _) rfl, h σ W F sta x h1 _ fun v W' ext ⟨F1, r, al⟩ => ?_⟩
  obtain ⟨p, vs, F2, rfl, q2, rfl, q3⟩ := r
  exact ⟨p, vs, rfl, .inl (.inl (.inl q2)), (kq.ext ext).val ext.ok (by rw [q3.len]; rfl)⟩
theorem hets1 {B : Hp} {vs : List V} {p : SP} (h : Hets B vs [p]) : ∃ v, vs = [v] ∧ p.P B v := by
  match vs, h with
  | [v], ⟨h, _⟩ => exact ⟨v, rfl, h⟩
theorem hets2 {B : Hp} {vs : List V} {p q : SP} (h : Hets B vs [p, q]) : ∃ v u, vs = [v, u] ∧ p.P B v ∧ q.P B u := by
  match vs, h with
  | [v, u], ⟨h, h', _⟩ => exact ⟨v, u, rfl, h, h'⟩
/-- f(x), a builtin of one shared argument -/
theorem jn_b1 {x : Str} {id : String} {p : Pos} {r : List V → Hp → VK → Prop} {m : Option α} {E : α → SP} {f : α → Option γ} {R : γ → OP} (hc : ∀ X, S.In X → CallR X (.builtin id) r)
    (hr : ∀ W x v z, Ex W.B W.H → (E x).P W.B v → f x = some z → ∀ Q : VK, Got (R z) W Q → r [v] W.H Q) (hm : S.mg x = none) (ha : JN S a Γ m fun x => sh (E x))
    (hg : GlS S x := by rfl) (hv : bootBuiltins x = some (.builtin id) := by decide +kernel) (hn : x ≠ "__name__" := by decide) (hdb : (x == ("__debug__" : Str)) = false := by decide)
    (hs : ∀ env, starEach [a] env = [(false, eval a env)] := by intro _; rfl) : JN S (.Call (.Name x p) [a] [] pos) Γ (m.bind fun y => f y) R := fun σ W F sta z hz Q k => by
  obtain ⟨y, h1, h2⟩ := run1 hz
  exact ⟨tCB r (tCons (tOf S a) tNil), fun X hX => pe_callB (hc X hX) (hg.gl hX) (mgS hm hX) hv (pa_cons (peO hX) pa_nil (hs _)) hn hdb (hs _) rfl, ha σ W F sta y h1 _ fun v W' Fv e _ _ hh => hr W' y v z e.ok hh.2 h2 Q (k.ext e)⟩
theorem jn_t1 {x : Str} {T : String} {p : Pos} {r : List V → Hp → VK → Prop} {m : Option α} {E : α → SP} {f : α → Option γ} {R : γ → OP} (hc : ∀ X, S.In X → CallR X (.type T) r)
    (hr : ∀ W x v z, Ex W.B W.H → (E x).P W.B v → f x = some z → ∀ Q : VK, Got (R z) W Q → r [v] W.H Q) (hm : S.mg x = none) (ha : JN S a Γ m fun x => sh (E x))
    (hg : GlS S x := by rfl) (hv : bootBuiltins x = some (.type T) := by decide +kernel) (hn : x ≠ "__name__" := by decide) (hdb : (x == ("__debug__" : Str)) = false := by decide)
    (hs : ∀ env, starEach [a] env = [(false, eval a env)] := by intro _; rfl) : JN S (.Call (.Name x p) [a] [] pos) Γ (m.bind fun y => f y) R := fun σ W F sta z hz Q k => by
  obtain ⟨y, h1, h2⟩ := run1 hz
  exact ⟨tCB r (tCons (tOf S a) tNil), fun X hX => pe_callTy (hc X hX) (hg.gl hX) (mgS hm hX) hv (pa_cons (peO hX) pa_nil (hs _)) hn hdb (hs _) rfl, ha σ W F sta y h1 _ fun v W' Fv e _ _ hh => hr W' y v z e.ok hh.2 h2 Q (k.ext e)⟩
theorem len_lst {E : α → SP} {m : Option (List α)} {p : Pos} (hm : S.mg "len" = none) (h : JN S a Γ m fun x => sh (lstS E x)) (hg : GlS S "len" := by rfl) (hs : ∀ env, starEach [a] env = [(false, eval a env)] := by intro _; rfl) : JN S (.Call (.Name "len" p) [a] [] pos) Γ (m.bind fun xs => some (xs.length : Int)) fun z => sh (intS z) :=
  jn_b1 (r := fun xs H Q => ∃ p ys, xs = [.ref p] ∧ (SqL S.K H p ys ∨ SqT S.K H p ys) ∧ Q (.int ys.length) H) (f := fun xs : List α => some (xs.length : Int)) (fun X hX => hX.K ▸ call_len_seq) (fun W x v z ok hh e Q k => by
    cases e
    obtain ⟨p, vs, rfl, q2, q3⟩ := hh
    exact ⟨p, vs, rfl, .inl (.inl (.inl (ok p _ q2))), k.val ok (by rw [q3.len]; rfl)⟩) hm h hg PySem.boot_len (by decide) (by decide) hs
theorem len_tup {E : α → SP} {m : Option (List α)} {p : Pos} (hm : S.mg "len" = none) (h : JN S a Γ m fun x => sh (tupS E x)) (hg : GlS S "len" := by rfl) (hs : ∀ env, starEach [a] env = [(false, eval a env)] := by intro _; rfl) : JN S (.Call (.Name "len" p) [a] [] pos) Γ (m.bind fun xs => some (xs.length : Int)) fun z => sh (intS z) :=
  jn_b1 (r := fun xs H Q => ∃ p ys, xs = [.ref p] ∧ (SqL S.K H p ys ∨ SqT S.K H p ys) ∧ Q (.int ys.length) H) (f := fun xs : List α => some (xs.length : Int)) (fun X hX => hX.K ▸ call_len_seq) (fun W x v z ok hh e Q k => by
    cases e
    obtain ⟨p, vs, rfl, q2, q3⟩ := hh
    exact ⟨p, vs, rfl, .inr (.inl (.inl (ok p _ q2))), k.val ok (by rw [q3.len]; rfl)⟩) hm h hg PySem.boot_len (by decide) (by decide) hs
theorem int_int {m : Option Int} {p : Pos} (hm : S.mg "int" = none) (h : JN S a Γ m fun x => sh (intS x)) (hg : GlS S "int" := by rfl) (hs : ∀ env, starEach [a] env = [(false, eval a env)] := by intro _; rfl) : JN S (.Call (.Name "int" p) [a] [] pos) Γ (m.bind fun x => some x) fun z => sh (intS z) :=
  jn_t1 (f := fun x : Int => some x) (fun X hX => call_int1) (fun W x v z ok hh e Q k => by
    cases e
    cases hh
    exact .inl ⟨_, rfl, k.val ok rfl⟩) hm h hg (by decide +kernel) (by decide) (by decide) hs
def b2i (b : Bool) : Int := if b then 1 else 0
theorem int_bool {m : Option Bool} {p : Pos} (hm : S.mg "int" = none) (h : JN S a Γ m fun x => sh (boolS x)) (hg : GlS S "int" := by rfl) (hs : ∀ env, starEach [a] env = [(false, eval a env)] := by intro _; rfl) : JN S (.Call (.Name "int" p) [a] [] pos) Γ (m.bind fun x => some (b2i x)) fun z => sh (intS z) :=
  jn_t1 (f := fun x : Bool => some (b2i x)) (fun X hX => call_int1) (fun W x v z ok hh e Q k => by
    cases e
    cases hh
    exact .inr ⟨_, rfl, k.val ok rfl⟩) hm h hg (by decide +kernel) (by decide) (by decide) hs
def absI (i : Int) : Int := if i < 0 then -i else i
theorem abs_int {m : Option Int} {p : Pos} (hm : S.mg "abs" = none) (h : JN S a Γ m fun x => sh (intS x)) (hg : GlS S "abs" := by rfl) (hs : ∀ env, starEach [a] env = [(false, eval a env)] := by intro _; rfl) : JN S (.Call (.Name "abs" p) [a] [] pos) Γ (m.bind fun x => some (absI x)) fun z => sh (intS z) :=
  jn_b1 (f := fun x : Int => some (absI x)) (fun X hX => call_abs) (fun W x v z ok hh e Q k => by
    cases e
    cases hh
    exact ⟨_, rfl, k.val ok rfl⟩) hm h hg (by decide +kernel) (by decide) (by decide) hs
theorem sum_scr {m : Option (List Int)} {p : Pos} (hm : S.mg "sum" = none) (h : JN S a Γ m fun x => sh (scrS S.K x)) (hg : GlS S "sum" := by rfl) (hs : ∀ env, starEach [a] env = [(false, eval a env)] := by intro _; rfl) (hcm : S.calm = true := by rfl) : JN S (.Call (.Name "sum" p) [a] [] pos) Γ (m.bind fun x => some x.sum) fun z => sh (intS z) :=
  jn_b1 (f := fun x : List Int => some x.sum) (fun X hX => hX.K ▸ cr_sum (hX.calm.trans hcm)) (fun W x v z ok hh e Q k => by
    cases e
    obtain ⟨a, rfl, h2⟩ := hh
    refine ⟨a, x, rfl, ?_, k.val ok rfl⟩
    rcases h2 with (h | ⟨o, h⟩) | h
    · exact .inl (.inl (ok _ _ h))
    · exact .inl (.inr ⟨o, ok _ _ h⟩)
    · exact .inr h) hm h hg (by decide +kernel) (by decide) (by decide) hs
theorem fp_one {W : Wd} {l : Addr} {o : HO} (h : W.B l = none) : FpOk ⟨upd W.H l o, W.B⟩ [l] :=
  ⟨by simp, fun a ha => by
    rw [List.mem_singleton.mp ha]
    show upd W.H l o l ≠ none
    rw [upd_same]
    exact Option.some_ne_none _, fun a ha => by
    rw [List.mem_singleton.mp ha]
    exact h⟩
theorem Got.newL {W : Wd} {Q : VK} {E : α → SP} {xs : List α} {vs : List V} (k : Got (lstO (fun x => sh (E x)) xs) W Q) (ok : Ex W.B W.H) (h : Each E W.B vs xs) : ∀ l, W.H l = none → Q (.ref l) (upd W.H l (.lst vs)) := fun l hl =>
  k (.ref l) ⟨upd W.H l (.lst vs), W.B⟩ [l] (Ext.new ok hl) (fun a ha => by rw [List.mem_singleton.mp ha]; exact hl) (fp_one (ok.back hl)) ⟨l, vs, [], rfl, upd_same, rfl, Owns.of_each h⟩
theorem Got.newT {W : Wd} {Q : VK} {E : α → SP} {xs : List α} {vs : List V} (k : Got (sh (tupS E xs)) W Q) (ok : Ex W.B W.H) (h : Each E W.B vs xs) : ∀ l, W.H l = none → Q (.ref l) (upd W.H l (.tup vs)) := fun l hl =>
  k (.ref l) ⟨upd W.H l (.tup vs), upd W.B l (.tup vs)⟩ [] (Ext.newB ok hl) (by simp) FpOk.nil ⟨rfl, l, vs, rfl, upd_same, h.mono (Ext.newB ok hl).b⟩
theorem list_scr {m : Option (List Int)} {p : Pos} (hm : S.mg "list" = none) (h : JN S a Γ m fun x => sh (scrS S.K x)) (hg : GlS S "list" := by rfl) (hs : ∀ env, starEach [a] env = [(false, eval a env)] := by intro _; rfl) : JN S (.Call (.Name "list" p) [a] [] pos) Γ (m.bind fun x => some x) (lstO fun x => sh (intS x)) :=
  jn_t1 (f := fun x : List Int => some x) (fun X hX => hX.K ▸ call_list_of) (fun W x v z ok hh e Q k => by
    cases e
    obtain ⟨a, rfl, h2⟩ := hh
    have hq : SqL S.K W.H a (x.map V.int) := by
      rcases h2 with (h | ⟨o, h⟩) | h
      · exact .inl (.inl (ok _ _ h))
      · exact .inl (.inr ⟨o, ok _ _ h⟩)
      · exact .inr h
    have hE : Each intS W.B (x.map V.int) x := by
      clear k h2 hq h
      induction x with
      | nil => trivial
      | cons y x ih => exact ⟨rfl, ih⟩
    exact ⟨a, _, rfl, .inl hq, k.newL ok hE⟩) hm h hg (by decide +kernel) (by decide) (by decide) hs
theorem list_lst {E : α → SP} {m : Option (List α)} {p : Pos} (hm : S.mg "list" = none) (h : JN S a Γ m fun x => sh (lstS E x)) (hg : GlS S "list" := by rfl) (hs : ∀ env, starEach [a] env = [(false, eval a env)] := by intro _; rfl) : JN S (.Call (.Name "list" p) [a] [] pos) Γ (m.bind fun x => some x) (lstO fun x => sh (E x)) :=
  jn_t1 (f := fun x : List α => some x) (fun X hX => hX.K ▸ call_list_of) (fun W x v z ok hh e Q k => by
    cases e
    obtain ⟨a, vs, rfl, h2, h3⟩ := hh
    exact ⟨a, _, rfl, .inl (.inl (.inl (ok a _ h2))), k.newL ok h3⟩) hm h hg (by decide +kernel) (by decide) (by decide) hs
theorem list_tup {E : α → SP} {m : Option (List α)} {p : Pos} (hm : S.mg "list" = none) (h : JN S a Γ m fun x => sh (tupS E x)) (hg : GlS S "list" := by rfl) (hs : ∀ env, starEach [a] env = [(false, eval a env)] := by intro _; rfl) : JN S (.Call (.Name "list" p) [a] [] pos) Γ (m.bind fun x => some x) (lstO fun x => sh (E x)) :=
  jn_t1 (f := fun x : List α => some x) (fun X hX => hX.K ▸ call_list_of) (fun W x v z ok hh e Q k => by
    cases e
    obtain ⟨a, vs, rfl, h2, h3⟩ := hh
    exact ⟨a, _, rfl, .inr (.inl (.inl (ok a _ h2))), k.newL ok h3⟩) hm h hg (by decide +kernel) (by decide) (by decide) hs
/-- tuple of a list, fresh or shared -/
theorem tup_lst {E : α → SP} {m : Option (List α)} {p : Pos} (hm : S.mg "tuple" = none) (h : JN S a Γ m fun x => sh (lstS E x)) (hg : GlS S "tuple" := by rfl) (hs : ∀ env, starEach [a] env = [(false, eval a env)] := by intro _; rfl) : JN S (.Call (.Name "tuple" p) [a] [] pos) Γ (m.bind fun x => some x) fun x => sh (tupS E x) :=
  jn_t1 (f := fun x : List α => some x) (fun X hX => hX.K ▸ call_tuple_of) (fun W x v z ok hh e Q k => by
    cases e
    obtain ⟨a, vs, rfl, h2, h3⟩ := hh
    exact ⟨a, vs, rfl, .inl ⟨.inl (.inl (ok a _ h2)), k.newT ok h3⟩⟩) hm h hg (by decide +kernel) (by decide) (by decide) hs
theorem tup_own {E : α → SP} {m : Option (List α)} {p : Pos} (hm : S.mg "tuple" = none) (h : JR S a Γ m (lstO fun x => sh (E x))) (hg : GlS S "tuple" := by rfl) (hs : ∀ env, starEach [a] env = [(false, eval a env)] := by intro _; rfl) : JN S (.Call (.Name "tuple" p) [a] [] pos) Γ (m.bind fun x => some x) fun x => sh (tupS E x) := fun σ W F sta z hz Q kq => by
  obtain ⟨x, h1, h2⟩ := run1 hz
  cases h2
  refine ⟨tCB (fun xs H Q => ∃ p ys, xs = [.ref p] ∧ ((SqL S.K H p ys ∧ ∀ l, H l = none → Q (.ref l) (upd H l (.tup ys))) ∨ (SqT S.K H p ys ∧ Q (.ref p) H))) (tCons (tOf S a) tNil), fun X hX => pe_callTy (hX.K ▸ call_tuple_of) (hg.gl hX) (mgS hm hX) (by decide +kernel) (pa_cons (peO hX) pa_nil (hs _)) (by decide) (by decide) (hs _) rfl, h σ W F sta z h1 _ fun v W' ext ⟨F1, r, al⟩ => ?_⟩
  obtain ⟨p, vs, F2, rfl, q2, rfl, q3⟩ := r
  obtain ⟨_, q4⟩ := q3.each
  exact ⟨p, vs, rfl, .inl ⟨.inl (.inl q2), (kq.ext ext).newT ext.ok q4⟩⟩
/-- list(range(n)), tuple(range(n)) -/
theorem each_rg {B : Hp} (lo hi : Int) : Each intS B (rgV lo hi) ((List.range (hi - lo).toNat).map fun i : Nat => lo + (i : Int)) := by
  unfold rgV
  generalize List.range (hi - lo).toNat = l
  induction l with
  | nil => trivial
  | cons y l ih => exact ⟨rfl, ih⟩
theorem list_rng {m : Option Int} {p p2 pos2 : Pos} (hm : S.mg "list" = none) (hm2 : S.mg "range" = none) (h : JN S a Γ m fun x => sh (intS x)) (hg : GlS S "list" := by rfl) (hg2 : GlS S "range" := by rfl) (hs : ∀ env, starEach [a] env = [(false, eval a env)] := by intro _; rfl)
    (hs2 : ∀ env, starEach [Expr.Call (.Name "range" p2) [a] [] pos2] env = [(false, eval (Expr.Call (.Name "range" p2) [a] [] pos2) env)] := by intro _; rfl) (hcm : S.calm = true := by rfl) :
    JN S (.Call (.Name "list" p) [.Call (.Name "range" p2) [a] [] pos2] [] pos) Γ (m.bind fun n => rng 0 n) (lstO fun x => sh (intS x)) := fun σ W F sta z hz Q kq => by
  obtain ⟨n, h1, h2⟩ := run1 hz
  unfold rng at h2
  split at h2
  · rename_i hb
    cases h2
    refine ⟨tLstRg (tRg1 (tOf S a)), fun X hX => pe_listRg (hX.calm.trans hcm) (hg.gl hX) (mgS hm hX) (prg_1 (hg2.gl hX) (mgS hm2 hX) (peO hX) (hs _)) (hs2 _), h σ W F sta n h1 _ fun v W' Fv ext _ _ r => ?_⟩
    obtain ⟨_, rfl⟩ := r
    have z : (LIM : Int) = 1000000 := rfl
    exact ⟨n, rfl, ⟨by omega, by omega, by omega, by omega, by omega⟩, (kq.ext ext).newL ext.ok (each_rg 0 n)⟩
  · cases h2
theorem tup_rng {m : Option Int} {p p2 pos2 : Pos} (hm : S.mg "tuple" = none) (hm2 : S.mg "range" = none) (h : JN S a Γ m fun x => sh (intS x)) (hg : GlS S "tuple" := by rfl) (hg2 : GlS S "range" := by rfl) (hs : ∀ env, starEach [a] env = [(false, eval a env)] := by intro _; rfl)
    (hs2 : ∀ env, starEach [Expr.Call (.Name "range" p2) [a] [] pos2] env = [(false, eval (Expr.Call (.Name "range" p2) [a] [] pos2) env)] := by intro _; rfl) (hcm : S.calm = true := by rfl) :
    JN S (.Call (.Name "tuple" p) [.Call (.Name "range" p2) [a] [] pos2] [] pos) Γ (m.bind fun n => rng 0 n) (fun x => sh (tupS intS x)) := fun σ W F sta z hz Q kq => by
  obtain ⟨n, h1, h2⟩ := run1 hz
  unfold rng at h2
  split at h2
  · rename_i hb
    cases h2
    refine ⟨tTupRg (tRg1 (tOf S a)), fun X hX => pe_tupRg (hX.calm.trans hcm) (hg.gl hX) (mgS hm hX) (prg_1 (hg2.gl hX) (mgS hm2 hX) (peO hX) (hs _)) (hs2 _), h σ W F sta n h1 _ fun v W' Fv ext _ _ r => ?_⟩
    obtain ⟨_, rfl⟩ := r
    have z : (LIM : Int) = 1000000 := rfl
    exact ⟨n, rfl, ⟨by omega, by omega, by omega, by omega, by omega⟩, (kq.ext ext).newT ext.ok (each_rg 0 n)⟩
  · cases h2
/-- [] and displays of shared things -/
theorem jn_nilL {E : α → SP} : JN S (.List [] pos) Γ (some []) (lstO fun x => sh (E x)) := fun σ W F sta z hz Q kq => by
  cases hz
  exact ⟨tLst tNil, fun _ _ => pe_lst pa_nil, Nat.zero_le _, fun l hl => kq.newL sta.ok (vs := []) trivial l hl⟩
theorem jn_nilLO {E : α → OP} : JN S (.List [] pos) Γ (some []) (lstO E) := fun σ W F sta z hz Q kq => by
  cases hz
  refine ⟨tLst tNil, fun _ _ => pe_lst pa_nil, Nat.zero_le _, fun l hl => ?_⟩
  exact kq (.ref l) ⟨upd W.H l (.lst []), W.B⟩ [l] (Ext.new sta.ok hl) (fun a ha => by rw [List.mem_singleton.mp ha]; exact hl) (fp_one (sta.ok.back hl)) ⟨l, [], [], rfl, upd_same, rfl, rfl⟩
/-- a list of several kinds, all shared -/
theorem HetO.of_hets {W : Wd} : ∀ {vs : List V} {ps : List SP}, Hets W.B vs ps → HetO W vs (ps.map sh) []
  | [], [], _ => rfl
  | _ :: _, _ :: _, h => ⟨[], [], rfl, ⟨rfl, h.1⟩, HetO.of_hets h.2⟩
  | [], _ :: _, h => h.elim
  | _ :: _, [], h => h.elim
theorem jn_het {m : Option α} {R : α → List SP} (h : JA S es Γ m R) (hl : ∀ x, (R x).length ≤ 1000 := by intro _; decide) : JN S (.List es pos) Γ m fun x => hetO ((R x).map sh) := fun σ W F sta x hx Q kk =>
  ⟨tLst (taOf S es), fun X hX => pe_lst (paO hX), h σ W F sta x hx _ fun vs W' e hh => by
    refine ⟨Nat.le_trans (by rw [hh.len]; exact hl x) (by decide), fun q hq => ?_⟩
    exact kk (.ref q) ⟨upd W'.H q (.lst vs), W'.B⟩ [q] (e.trans (Ext.new e.ok hq)) (fun a ha => by rw [List.mem_singleton.mp ha]; exact e.h.back hq) (fp_one (e.ok.back hq))
      ⟨q, vs, [], rfl, upd_same, rfl, HetO.of_hets (W := ⟨upd W'.H q (.lst vs), W'.B⟩) hh⟩⟩
/-- the same, shared at once -/
theorem jn_hetS {m : Option α} {R : α → List SP} (h : JA S es Γ m R) (hl : ∀ x, (R x).length ≤ 1000 := by intro _; decide) : JN S (.List es pos) Γ m fun x => sh (hlstS (R x)) := fun σ W F sta x hx Q kk =>
  ⟨tLst (taOf S es), fun X hX => pe_lst (paO hX), h σ W F sta x hx _ fun vs W' e hh => by
    refine ⟨Nat.le_trans (by rw [hh.len]; exact hl x) (by decide), fun q hq => ?_⟩
    exact kk (.ref q) ⟨upd W'.H q (.lst vs), upd W'.B q (.lst vs)⟩ [] (e.trans (Ext.newB e.ok hq)) (by simp) FpOk.nil ⟨rfl, q, vs, rfl, upd_same, hh.mono (Ext.newB e.ok hq).b⟩⟩
/-- a display of shared things of one kind -/
theorem Hets.each {E : α → SP} {B : Hp} : ∀ {vs : List V} {xs : List α}, Hets B vs (xs.map E) → Each E B vs xs
  | [], [], _ => trivial
  | _ :: _, _ :: _, h => ⟨h.1, Hets.each h.2⟩
  | [], _ :: _, h => h.elim
  | _ :: _, [], h => h.elim
theorem jn_dispL {m : Option α} {E : β → SP} {g : α → List β} {R : α → List SP} (h : JA S es Γ m R) (hR : ∀ x, R x = (g x).map E := by intro _; rfl) (hl : ∀ x, (R x).length ≤ 1000 := by intro _; exact Nat.le_of_ble_eq_true rfl) : JN S (.List es pos) Γ (m.bind fun x => some (g x)) (lstO fun x => sh (E x)) := fun σ W F sta z hz Q kk => by
  obtain ⟨x, h1, h2⟩ := run1 hz
  cases h2
  refine ⟨tLst (taOf S es), fun X hX => pe_lst (paO hX), h σ W F sta x h1 _ fun vs W' e hh => ?_⟩
  refine ⟨Nat.le_trans (by rw [hh.len]; exact hl x) (by decide), fun q hq => ?_⟩
  rw [hR] at hh
  exact (kk.ext e).newL e.ok hh.each q hq
theorem jn_dispT {m : Option α} {E : β → SP} {g : α → List β} {R : α → List SP} {k : Nat} (h : JA S es Γ m R) (hR : ∀ x, R x = (g x).map E := by intro _; rfl) (hl : ∀ x, (R x).length ≤ 1000 := by intro _; exact Nat.le_of_ble_eq_true rfl) : JN S (.Tuple es k pos) Γ (m.bind fun x => some (g x)) fun x => sh (tupS E x) := fun σ W F sta z hz Q kk => by
  obtain ⟨x, h1, h2⟩ := run1 hz
  cases h2
  refine ⟨tTup (taOf S es), fun X hX => pe_tup (paO hX), h σ W F sta x h1 _ fun vs W' e hh => ?_⟩
  refine ⟨Nat.le_trans (by rw [hh.len]; exact hl x) (by decide), fun q hq => ?_⟩
  rw [hR] at hh
  exact (kk.ext e).newT e.ok hh.each q hq
end
end CC
set_option maxHeartbeats 4000000
/-! Items stored; defs; state. -/
namespace CC
open PySem PySem.Spec L2
open PyProof.Rows hiding St
variable {α β γ δ τ ω ρ υ : Type}
/-! ### xs[i] = e -/
def setAt (xs : List α) (i : Int) (x : α) : Option (List α) := (ixN xs.length i).bind fun j => some (xs.set j x)
section
variable {S : Stc} {Γ Δ : Ctx} {a b c e tg iter elt : Expr} {es ifs : List Expr} {pos : Pos} {st : Stmt} {rest A B : List Stmt}
theorem js_setI {x : Str} {p0 tpos : Pos} {E : α → OP} {xs : List α} {mv : Option α} {mi : Option Int} (i : Nat) (h : JN S e Γ mv E) (hb : JN S b Γ mi fun z => sh (intS z)) (hi : Γ[i]? = some (some (lstO E xs)) := by rfl) (hN : S.N[i]? = some x := by rfl) (hv : Vis S.sc x := by first | exact Or.inl rfl | exact Or.inr (Or.inl rfl) | exact Or.inr (Or.inr rfl))
    (hd : (x == ("__debug__" : Str)) = false := by decide) (hcd : (x == ("__classdict__" : Str)) = false := by decide)
    (ha : ∀ env v, assign (.Subscript (.Name x p0) b tpos) env v = (do
      let ov ← holding [v] (eval (.Name x p0) env)
      let iv ← holding [v, ov] (eval b env)
      standAt tpos
      holding [v, ov, iv] (setItem ov iv v)
      release [v, ov, iv] []) := by intro _ _; rfl) (hs : ∀ env, swapsWithSole [.Subscript (.Name x p0) b tpos] e pos.line env = pure false := by intro _; rfl) (hw : ∀ env, swappedStores [.Subscript (.Name x p0) b tpos] e env = pure none := by intro _; rfl)
    (h1 : ∀ env, (assignEach [.Subscript (.Name x p0) b tpos] env).map (·.2) = [assign (.Subscript (.Name x p0) b tpos) env] := by intro _; rfl) :
    JS S (.Assign [.Subscript (.Name x p0) b tpos] e pos) Γ (mv.bind fun v => mi.bind fun k => setAt xs k v) fun ys => .nx (Γ.set i (some (lstO E ys))) := fun σ W F sta z hz Ed kk => by
  obtain ⟨y, k, m1, m2, m3⟩ := run2 hz
  obtain ⟨j, j1, j2⟩ := run1 (f := fun j => some (xs.set j y)) m3
  cases j2
  refine ⟨tAsg (tOf S e) (gSub (tVar i) (tOf S b) rSetL), fun X hX => ps_asg (peO hX) (pg_sub (pe_var (by rw [hX.N]; exact hN) (visS hv hX) hd hcd) (peO hX) set_list (ha _)) (hs _) (hw _) (h1 _), ?_⟩
  refine h σ W F sta y m1 _ fun u W1 Fv ext fr fp r => ?_
  have sta1 := sta.ext ext
  obtain ⟨v, F1, F2, a1, a2, a3, a4⟩ := sta1.hold.at hi
  obtain ⟨p, vs, G2, rfl, b2, rfl, b4⟩ := a2
  refine ⟨.ref p, a1, ?_⟩
  refine hb σ W1 F sta1 k m2 _ fun t W2 _ ext2 _ _ r2 => ?_
  obtain ⟨_, rfl⟩ := r2
  have sta2 := sta1.ext ext2
  obtain ⟨v', F1', F2', c1, c2, c3, c4⟩ := sta2.hold.at hi
  have ev : v' = .ref p := by rw [a1] at c1; exact (Option.some.inj (Option.some.inj c1)).symm
  subst ev
  obtain ⟨p', vs', G2', e1, d2, rfl, d4⟩ := c2
  cases e1
  have hB : W2.B p = none := (sta2.fp.perm c3).fr p (by simp)
  have hx : xs[j]? ≠ none := by
    have := (ixN_seq j1).2.1
    rw [List.getElem?_eq_getElem this]
    exact Option.some_ne_none _
  obtain ⟨y0, hy0⟩ := Option.ne_none_iff_exists'.mp hx
  obtain ⟨w0, K1, K2, k1, k2, k3, k4⟩ := d4.at hy0
  have q : FpOk W2 (F ++ Fv) := (sta.fp.fresh ext fp fr).ext ext2
  have q2 : FpOk W2 (((p :: G2') ++ F2') ++ Fv) := q.perm (List.Perm.append_right Fv c3)
  have fpA : FpOk W2 ((p :: G2') ++ Fv) := by
    refine FpOk.left (F' := F2') (q2.perm ?_)
    rw [List.append_assoc, List.append_assoc]
    exact List.Perm.append_left _ List.perm_append_comm
  have nP : ∀ a ∈ G2' ++ Fv, a ≠ p := fun a ha z => (List.nodup_cons.mp fpA.nd).1 (z ▸ ha)
  have r' : (E y).C ⟨upd W2.H p (.lst (vs'.set j u)), W2.B⟩ u Fv := by
    refine OP.loc _ (OP.ext _ r ext2 fp) (fun _ _ h => h) fun a ha => ?_
    show upd W2.H p _ a = W2.H a
    exact upd_ne (nP a (List.mem_append_right _ ha))
  obtain ⟨G', g1, g2⟩ := k4 ⟨upd W2.H p (.lst (vs'.set j u)), W2.B⟩ y u Fv (fun _ _ h => h) (fun a ha => by
    show upd W2.H p _ a = W2.H a
    exact upd_ne (nP a (List.mem_append_left _ (k3.mem_iff.mpr (List.mem_append_right _ ha))))) r'
  refine ⟨p, vs', k, j, rfl, rfl, d2, by rw [d4.len]; exact j1, ?_⟩
  have fpB : FpOk W2 (p :: G') := by
    refine FpOk.left (F' := K1) (fpA.perm ?_)
    refine List.Perm.cons p ?_
    refine (List.Perm.append_right Fv k3).trans ?_
    refine List.Perm.trans ?_ (List.Perm.append_right K1 g2.symm)
    rw [List.append_assoc]
    refine List.perm_append_comm.trans ?_
    refine List.Perm.append_right K1 ?_
    exact List.perm_append_comm
  obtain ⟨F', s', stp⟩ := sta_own (W' := ⟨upd W2.H p (.lst (vs'.set j u)), W2.B⟩) (F1' := p :: G') (o' := lstO E (xs.set j y)) Fv sta2 q c1 c3 c4 (wr_ok ext2.ok hB) rfl (fun a ha _ => upd_ne fun z => ha (z ▸ List.mem_cons_self)) wr_al
    ⟨fpB.nd, fun a ha => wr_al a (fpB.al a ha), fpB.fr⟩ (fun a ha => by
      rcases List.mem_cons.mp ha with z | z
      · exact .inl (z ▸ List.mem_cons_self)
      · rcases List.mem_append.mp (g2.mem_iff.mp z) with z | z
        · exact .inr (.inl z)
        · exact .inl (List.mem_cons_of_mem _ (k3.mem_iff.mpr (List.mem_append_right _ z)))) ⟨p, vs'.set j u, G', rfl, upd_same, rfl, g1⟩
  have ext02 := ext.trans ext2
  exact kk σ _ F' Keep.refl ((ext02.stp fr).trans stp) s'
/-- xs[i][k] = e, the items of xs lists of one's own with shared items -/
def setAt2 (xss : List (List α)) (i k : Int) (x : α) : Option (List (List α)) := (atI xss i).bind fun xs => (setAt xs k x).bind fun ys => setAt xss i ys
theorem js_setI2 {x : Str} {p0 tpos tp2 : Pos} {E : α → SP} {xss : List (List α)} {mv : Option α} {mi mj : Option Int} (i : Nat) (h : JN S e Γ mv fun x => sh (E x)) (ha0 : JN S a Γ mi fun z => sh (intS z)) (hb : JN S b Γ mj fun z => sh (intS z)) (hi : Γ[i]? = some (some (lstO (fun xs => lstO (fun x => sh (E x)) xs) xss)) := by rfl) (hN : S.N[i]? = some x := by rfl) (hv : Vis S.sc x := by first | exact Or.inl rfl | exact Or.inr (Or.inl rfl) | exact Or.inr (Or.inr rfl))
    (hd : (x == ("__debug__" : Str)) = false := by decide) (hcd : (x == ("__classdict__" : Str)) = false := by decide) (hpl : PlainIx a := by exact fun _ _ => rfl)
    (ha : ∀ env v, assign (.Subscript (.Subscript (.Name x p0) a tp2) b tpos) env v = (do
      let ov ← holding [v] (eval (.Subscript (.Name x p0) a tp2) env)
      let iv ← holding [v, ov] (eval b env)
      standAt tpos
      holding [v, ov, iv] (setItem ov iv v)
      release [v, ov, iv] []) := by intro _ _; rfl) (hs : ∀ env, swapsWithSole [.Subscript (.Subscript (.Name x p0) a tp2) b tpos] e pos.line env = pure false := by intro _; rfl) (hw : ∀ env, swappedStores [.Subscript (.Subscript (.Name x p0) a tp2) b tpos] e env = pure none := by intro _; rfl)
    (h1 : ∀ env, (assignEach [.Subscript (.Subscript (.Name x p0) a tp2) b tpos] env).map (·.2) = [assign (.Subscript (.Subscript (.Name x p0) a tp2) b tpos) env] := by intro _; rfl) :
    JS S (.Assign [.Subscript (.Subscript (.Name x p0) a tp2) b tpos] e pos) Γ (mv.bind fun v => mi.bind fun k => mj.bind fun l => setAt2 xss k l v) fun ys => .nx (Γ.set i (some (lstO (fun xs => lstO (fun x => sh (E x)) xs) ys))) := fun σ W F sta z hz Ed kk => by
  obtain ⟨y, m1, m2⟩ := run1 hz
  obtain ⟨k, m3, m4⟩ := run1 (f := fun k => mj.bind fun l => setAt2 xss k l y) m2
  obtain ⟨l, m5, m6⟩ := run1 (f := fun l => setAt2 xss k l y) m4
  obtain ⟨xs, n1, n2⟩ := run1 (f := fun xs => (setAt xs l y).bind fun ys => setAt xss k ys) m6
  obtain ⟨ys, n3, n4⟩ := run1 (f := fun ys => setAt xss k ys) n2
  obtain ⟨jl, o1, o2⟩ := run1 (f := fun j => some (xs.set j y)) n3
  cases o2
  obtain ⟨jk, o3, o4⟩ := run1 (f := fun j => some (xss.set j (xs.set jl y))) n4
  cases o4
  have hxs : xss[jk]? = some xs := by
    unfold atI at n1
    rw [o3] at n1
    exact n1
  refine ⟨tAsg (tOf S e) (gSub (tOp (rIxL S.K) (tVar i) (tOf S a)) (tOf S b) rSetL), fun X hX => ps_asg (peO hX) (pg_sub (pe_ix (oIxL X hX) (pe_var (by rw [hX.N]; exact hN) (visS hv hX) hd hcd) (peO hX) hpl) (peO hX) set_list (ha _)) (hs _) (hw _) (h1 _), ?_⟩
  refine h σ W F sta y m1 _ fun u W1 Fv ext fr fp r => ?_
  obtain ⟨rfl, r⟩ := r
  have sta1 := sta.ext ext
  obtain ⟨v, F1, F2, a1, a2, a3, a4⟩ := sta1.hold.at hi
  obtain ⟨p, vs, G2, rfl, b2, rfl, b4⟩ := a2
  refine ⟨.ref p, a1, ?_⟩
  refine ha0 σ W1 F sta1 k m3 _ fun t W2 _ ext2 _ _ r2 => ?_
  obtain ⟨_, rfl⟩ := r2
  have sta2 := sta1.ext ext2
  obtain ⟨v', F1', F2', c1, c2, c3, c4⟩ := sta2.hold.at hi
  have ev : v' = .ref p := by rw [a1] at c1; exact (Option.some.inj (Option.some.inj c1)).symm
  subst ev
  obtain ⟨p', vs', G2', e1, d2, rfl, d4⟩ := c2
  cases e1
  obtain ⟨w0, K1, K2, k1, k2, k3, k4⟩ := d4.at hxs
  obtain ⟨p2, us, K3, rfl, l2, rfl, l4⟩ := k2
  refine ⟨p, vs', k, .ref p2, rfl, rfl, .inl (.inl d2), by unfold atI; rw [d4.len, o3]; exact k1, ?_⟩
  refine hb σ W2 F sta2 l m5 _ fun t W3 _ ext3 _ _ r3 => ?_
  obtain ⟨_, rfl⟩ := r3
  have sta3 := sta2.ext ext3
  -- the same facts, one world on
  obtain ⟨v', F1', F2', c1', c2', c3', c4'⟩ := sta3.hold.at hi
  have ev : v' = .ref p := by rw [a1] at c1'; exact (Option.some.inj (Option.some.inj c1')).symm
  subst ev
  obtain ⟨p', vs'', G3, e1, d2', rfl, d4'⟩ := c2'
  cases e1
  have evs : vs'' = vs' := by
    rw [ext3.h p _ d2] at d2'
    cases d2'
    rfl
  subst evs
  obtain ⟨w0, K1', K2', k1', k2', k3', k4'⟩ := d4'.at hxs
  rw [k1] at k1'
  cases k1'
  obtain ⟨p2', us', K3', e2, l2', rfl, l4'⟩ := k2'
  cases e2
  obtain ⟨rfl, l5⟩ := l4'.each
  have fpA := (sta3.fp.perm c3').left
  have hB : W3.B p2 = none := fpA.fr p2 (List.mem_cons_of_mem _ (k3'.mem_iff.mpr (by simp)))
  have hne : p ≠ p2 := fun z => (List.nodup_cons.mp fpA.nd).1 (z ▸ k3'.mem_iff.mpr (by simp))
  have hK : ∀ a ∈ K2', a ≠ p2 := fun a ha z => by
    have nd := (k3'.nodup_iff.mp (List.nodup_cons.mp fpA.nd).2)
    exact (List.nodup_cons.mp nd).1 (z ▸ ha)
  refine ⟨p2, us', l, jl, rfl, rfl, l2', by rw [l5.len]; exact o1, ?_⟩
  have rN : (lstO (fun x => sh (E x)) (xs.set jl y)).C ⟨upd W3.H p2 (.lst (us'.set jl u)), W3.B⟩ (.ref p2) [p2] :=
    ⟨p2, _, [], rfl, upd_same, rfl, Owns.of_each (l5.set (SP.mono _ r (ext2.b.trans ext3.b)) jl)⟩
  obtain ⟨G', g1, g2⟩ := k4' ⟨upd W3.H p2 (.lst (us'.set jl u)), W3.B⟩ (xs.set jl y) (.ref p2) [p2] (fun _ _ h => h) (fun a ha => upd_ne (hK a ha)) rN
  have hset : vs''.set jk (.ref p2) = vs'' := by
    refine List.ext_getElem? fun n => ?_
    by_cases z : jk = n
    · subst z
      rw [k1, List.getElem?_set_self (List.getElem?_eq_some_iff.mp k1).1]
    · rw [List.getElem?_set_ne z]
  rw [hset] at g1
  have pG : (p :: G').Perm (p :: G3) := List.Perm.cons p (g2.trans k3'.symm)
  have fpB := fpA.perm pG.symm
  obtain ⟨F', s', stp⟩ := sta_own (W' := ⟨upd W3.H p2 (.lst (us'.set jl u)), W3.B⟩) (F1' := p :: G') (o' := lstO (fun xs => lstO (fun x => sh (E x)) xs) (xss.set jk (xs.set jl y))) [] sta3 (by rw [List.append_nil]; exact sta3.fp) c1' c3' c4' (wr_ok ext3.ok hB) rfl
    (fun a ha _ => upd_ne fun z => ha (z ▸ List.mem_cons_of_mem _ (k3'.mem_iff.mpr (by simp)))) wr_al ⟨fpB.nd, fun a ha => wr_al a (fpB.al a ha), fpB.fr⟩ (fun a ha => .inl (pG.mem_iff.mp ha)) ⟨p, vs'', G', rfl, (upd_ne hne).trans d2', rfl, g1⟩
  rw [List.append_nil] at stp
  have ext03 := (ext.trans ext2).trans ext3
  have stpE : Stp W F W3 F := by have := ext03.stp (F := F) (Fv := []) (by simp); rwa [List.append_nil] at this
  exact kk σ _ F' Keep.refl (stpE.trans stp) s'
/-- xs[k] = e at a written place of a list of several kinds -/
theorem js_setH {x : Str} {p0 tpos : Pos} {ps : List OP} {E : α → SP} {o : OP} {mv : Option α} {j : Int} {kk p'} (i k : Nat) (h : JN S e Γ mv fun x => sh (E x)) (hi : Γ[i]? = some (some (hetO ps)) := by rfl) (hk : ps[k]? = some o := by rfl) (hj : j = (k : Int) := by rfl) (hN : S.N[i]? = some x := by rfl) (hv : Vis S.sc x := by first | exact Or.inl rfl | exact Or.inr (Or.inl rfl) | exact Or.inr (Or.inr rfl))
    (hd : (x == ("__debug__" : Str)) = false := by decide) (hcd : (x == ("__classdict__" : Str)) = false := by decide)
    (ha : ∀ env v, assign (.Subscript (.Name x p0) (.Constant (.int j) kk p') tpos) env v = (do
      let ov ← holding [v] (eval (.Name x p0) env)
      let iv ← holding [v, ov] (eval (.Constant (.int j) kk p') env)
      standAt tpos
      holding [v, ov, iv] (setItem ov iv v)
      release [v, ov, iv] []) := by intro _ _; rfl) (hs : ∀ env, swapsWithSole [.Subscript (.Name x p0) (.Constant (.int j) kk p') tpos] e pos.line env = pure false := by intro _; rfl) (hw : ∀ env, swappedStores [.Subscript (.Name x p0) (.Constant (.int j) kk p') tpos] e env = pure none := by intro _; rfl)
    (h1 : ∀ env, (assignEach [.Subscript (.Name x p0) (.Constant (.int j) kk p') tpos] env).map (·.2) = [assign (.Subscript (.Name x p0) (.Constant (.int j) kk p') tpos) env] := by intro _; rfl) :
    JS S (.Assign [.Subscript (.Name x p0) (.Constant (.int j) kk p') tpos] e pos) Γ mv fun y => .nx (Γ.set i (some (hetO (ps.set k (sh (E y)))))) := fun σ W F sta y m1 Ed kq => by
  refine ⟨tAsg (tOf S e) (gSub (tVar i) (tC (.int j)) rSetL), fun X hX => ps_asg (peO hX) (pg_sub (pe_var (by rw [hX.N]; exact hN) (visS hv hX) hd hcd) pe_int set_list (ha _)) (hs _) (hw _) (h1 _), ?_⟩
  refine h σ W F sta y m1 _ fun u W1 Fv ext fr fp r => ?_
  obtain ⟨rfl, r⟩ := r
  have sta1 := sta.ext ext
  obtain ⟨v, F1, F2, a1, a2, a3, a4⟩ := sta1.hold.at hi
  obtain ⟨p, vs, G2, rfl, b2, rfl, b4⟩ := a2
  have hB : W1.B p = none := (sta1.fp.perm a3).fr p (by simp)
  obtain ⟨w0, K1, K2, k1, k2, k3, k4⟩ := b4.at hk
  have fpA := (sta1.fp.perm a3).left
  have nP : ∀ a ∈ G2, a ≠ p := fun a ha z => (List.nodup_cons.mp fpA.nd).1 (z ▸ ha)
  obtain ⟨G', g1, g2⟩ := k4 ⟨upd W1.H p (.lst (vs.set k u)), W1.B⟩ (sh (E y)) u [] (fun _ _ h => h) (fun a ha => upd_ne (nP a (k3.mem_iff.mpr (List.mem_append_right _ ha)))) ⟨rfl, r⟩
  have sub : ∀ a ∈ p :: G', a ∈ p :: G2 := fun a ha => by
    rcases List.mem_cons.mp ha with z | z
    · exact z ▸ List.mem_cons_self
    · exact List.mem_cons_of_mem _ (k3.mem_iff.mpr (List.mem_append_right _ (by simpa using g2.mem_iff.mp z)))
  have fpB : FpOk W1 (p :: G') := by
    refine FpOk.left (F' := K1) (fpA.perm ?_)
    refine List.Perm.cons p ?_
    refine k3.trans (List.perm_append_comm.trans (List.Perm.append_right K1 ?_))
    simpa using g2.symm
  refine ⟨.ref p, a1, p, vs, j, k, rfl, rfl, b2, ?_, ?_⟩
  · rw [hj]
    have : k < vs.length := (List.getElem?_eq_some_iff.mp k1).1
    unfold ixN
    rw [if_pos (by omega), if_pos (by omega)]
    simp
  · obtain ⟨F', s', stp⟩ := sta_own (W' := ⟨upd W1.H p (.lst (vs.set k u)), W1.B⟩) (F1' := p :: G') (o' := hetO (ps.set k (sh (E y)))) [] sta1 (by rw [List.append_nil]; exact sta1.fp) a1 a3 a4 (wr_ok ext.ok hB) rfl (fun a ha _ => upd_ne fun z => ha (z ▸ List.mem_cons_self)) wr_al
      ⟨fpB.nd, fun a ha => wr_al a (fpB.al a ha), fpB.fr⟩ (fun a ha => .inl (sub a ha)) ⟨p, vs.set k u, G', rfl, upd_same, rfl, g1⟩
    rw [List.append_nil] at stp
    have stpE : Stp W F W1 F := by have := ext.stp (F := F) (Fv := []) (by simp); rwa [List.append_nil] at this
    exact kq σ _ F' Keep.refl (stpE.trans stp) s'
/-! ### defs -/
end
abbrev stcOf (P : Program) (w : World) (K : PySem.W.Frag) (mg : Str → Option Value) (base : Heap) (N : List Str) (sc : Scope) (k : Nat) (prot : List Nat) : Stc := { P := P, w := w, K := K, mg := mg, base := base, N := N, sc := sc, k := k, fn := fun _ => true, prot := prot }
def shC (ps : List SP) : Ctx := ps.map fun p => some (sh p)
def nonC (n : Nat) : Ctx := List.replicate n none
theorem holds_non {W : Wd} : ∀ (n : Nat) (σ : L2.St), Holds (nonC n) σ W []
  | 0, _ => rfl
  | n + 1, σ => holds_non n σ.tail
theorem holds_sh {W : Wd} {n : Nat} : ∀ {vs : List V} {ps : List SP} {r : L2.St}, Hets W.B vs ps → Holds (shC ps ++ nonC n) (vs.map some ++ r) W []
  | [], [], r, _ => holds_non n r
  | v :: vs, p :: ps, r, h => ⟨v, [], [], rfl, rfl, ⟨rfl, h.1⟩, holds_sh (n := n) h.2⟩
  | [], _ :: _, _, h => h.elim
  | _ :: _, [], _, h => h.elim
section
variable {P : Program} {w : World} {K : PySem.W.Frag} {mg : Str → Option Value} {base : Heap}
theorem in_cx {N : List Str} {st : Stmt} {k : Nat} {prot : List Nat} {qual : Str} {f : Addr} {cdv : Value} {A : Around} {outer : List Env} {s : Shared} {H : Hp} {E : XK} (hr : Room k (A.deeper (envOfC qual (defScope st) s.heap.objs.size f cdv))) :
    (stcOf P w K mg base N (defScope st) k prot).In (cxOf CX0 P w K mg base N qual (defScope st) f cdv A outer s H E).nox := ⟨rfl, rfl, rfl, rfl, rfl, rfl, rfl, rfl, rfl, fun _ => hr, hr.units, PassesOwn.never, takes_none, fun _ => ⟨rfl, rfl⟩, nofun⟩
theorem fn_pure {x qual : Str} {st : Stmt} {f : Addr} {fd : FuncData} {N ps : List Str} {k : Nat} {G : α → List SP} {fM : α → Option ρ} {R : ρ → OP} {Δ : Ctx} (F : Fun K x qual st f fd) (Sc : FnScope N ps (defScope st)) (hG : ∀ a, (G a).length = ps.length) (hn : ps.length ≤ N.length)
    (body : ∀ a, JB (stcOf P w K mg base N (defScope st) k []) (defBody st) (shC (G a) ++ nonC (N.length - ps.length)) (fM a) fun r => .rt Δ (R r)) : FnOk P w K mg base CX0 (k + 1) f fd ps (spP G fM R) := by
  refine F.ok Sc (fun vs H Q E h => ?_) (fun cdv A outer s H vs Q E hr h => ?_)
  · obtain ⟨a, W, r, _, _, h3, _⟩ := h
    rw [h3.len, hG]
  · obtain ⟨a, W, r, rfl, ok, h3, h4, kq⟩ := h
    refine ⟨tbOf (stcOf P w K mg base N (defScope st) k []) (defBody st), pbO (in_cx hr), ?_⟩
    have hl : vs.length = ps.length := h3.len.trans (hG a)
    have sta : Sta (shC (G a) ++ nonC (N.length - ps.length)) (L2.start N vs) W [] := ⟨ok, FpOk.nil, by unfold L2.start shC nonC; simp [h3.len, hG, hl], by unfold L2.start; rw [hl]; exact holds_sh h3⟩
    exact body a _ W [] sta r h4 _ fun v σ' W' F' Fv _ stp _ fp rr => by
      obtain ⟨ext, fr⟩ := stp.ext
      exact kq v W' Fv ext (fun a ha => fr a (List.mem_append_right _ ha)) fp.right rr
theorem fn_state {x qual : Str} {st : Stmt} {f : Addr} {fd : FuncData} {N ps : List Str} {k : Nat} {O : τ → OP} {G : α → List SP} {fM : α → τ → Option (ρ × τ)} {R : ρ → OP} (F : Fun K x qual st f fd) (Sc : FnScope N ps (defScope st)) (hG : ∀ a, (G a).length + 1 = ps.length) (hn : ps.length ≤ N.length)
    (body : ∀ a s, JB (stcOf P w K mg base N (defScope st) k [0]) (defBody st) (some (O s) :: (shC (G a) ++ nonC (N.length - ps.length))) (fM a s) fun r => .rt (some (O r.2) :: nonC (N.length - 1)) (R r.1)) : FnOk P w K mg base CX0 (k + 1) f fd ps (spS O G fM R) := by
  refine F.ok Sc (fun vs H Q E h => ?_) (fun cdv A outer s H vs Q E hr h => ?_)
  · obtain ⟨a, s, W, F, v0, vr, r, rfl, _, _, _, _, h3, _⟩ := h
    rw [List.length_cons, h3.len, hG]
  · obtain ⟨a, s0, W, Fp, v0, vr, r, rfl, rfl, ok, fp0, h0, h3, h4, kq⟩ := h
    refine ⟨tbOf (stcOf P w K mg base N (defScope st) k [0]) (defBody st), pbO (in_cx hr), ?_⟩
    have hl : (v0 :: vr).length = ps.length := by rw [List.length_cons, h3.len]; exact hG a
    have sta : Sta (some (O s0) :: (shC (G a) ++ nonC (N.length - ps.length))) (L2.start N (v0 :: vr)) W Fp := ⟨ok, fp0, by
      unfold L2.start shC nonC
      have := hG a
      simp [h3.len]
      omega, ⟨v0, Fp, [], rfl, (List.append_nil _).symm, h0, by
      unfold L2.start
      rw [hl]
      exact holds_sh h3⟩⟩
    refine body a s0 _ W Fp sta r h4 _ fun v σ' W' F' Fv kp stp sa fp rr => ?_
    obtain ⟨u, F1, F2, b1, b2, b3, b4⟩ := sa.hold
    have e0 : σ'[0]? = some (some v0) := (kp 0 (by simp)).trans rfl
    have eu : u = v0 := by
      rw [List.head?_eq_getElem?] at b1
      rw [e0] at b1
      exact (Option.some.inj (Option.some.inj b1)).symm
    subst eu
    have eF : F2 = [] := by
      have : ∀ (n : Nat) (σ : L2.St) (F : List Addr), Holds (nonC n) σ W' F → F = [] := by
        intro n
        induction n with
        | zero => intro σ F h; exact h
        | succ n ih => intro σ F h; exact ih σ.tail F h
      exact this _ _ _ b4
    subst eF
    rw [List.append_nil] at b2
    subst b2
    exact kq v W' F' Fv stp fp b3 rr
end
end CC
set_option maxHeartbeats 4000000
/-! Expressions that change what is owned. -/
namespace CC
open PySem PySem.Spec L2
open PyProof.Rows hiding St
variable {α β γ δ τ ω ρ υ : Type}
def JEA (S : Stc) (es : List Expr) (Γ : τ → Ctx) (s : τ) (m : Option (α × τ)) (G : α → List SP) : Prop :=
  ∀ σ W F, Sta (Γ s) σ W F → ∀ x, m = some x → ∀ Q : List V → Hp → Prop, (∀ vs W' F', Stp W F W' F' → Sta (Γ x.2) σ W' F' → Hets W'.B vs (G x.1) → Q vs W'.H) → taOf S es σ W.H Q
def JTE (S : Stc) (e : Expr) (Γ : τ → Ctx) (s : τ) (m : Option (Bool × τ)) : Prop :=
  ∀ σ W F, Sta (Γ s) σ W F → ∀ x, m = some x → ∀ Q : Bool → Hp → Prop, (∀ W' F', Stp W F W' F' → Sta (Γ x.2) σ W' F' → Q x.1 W'.H) → ttOf S e σ W.H Q
def JWE (S : Stc) (e : Expr) (Γ : τ → Ctx) (s : τ) (m : Option (Bool × τ)) : Prop :=
  ∀ σ W F, Sta (Γ s) σ W F → ∀ x, m = some x → ∀ Q : Bool → Hp → Prop, (∀ W' F', Stp W F W' F' → Sta (Γ x.2) σ W' F' → Q x.1 W'.H) → twOf S e σ W.H Q
def JIE (S : Stc) (tg iter : Expr) (Γ : τ → Ctx) (s : τ) (m : Option (List α × τ)) (E : α → SP) : Prop :=
  ∀ σ W F, Sta (Γ s) σ W F → ∀ x, m = some x → ∀ R : It → Hp → Prop, (∀ J W' F', Stp W F W' F' → Sta (Γ x.2) σ W' F' → ItOk J (fun W1 => Ex W1.B W1.H ∧ Ex W'.B W1.B) x.1 E → R J W'.H) → tiOf S tg iter σ W.H R
theorem Ext.stp0 {W W' : Wd} {F : List Addr} (e : Ext W W') : Stp W F W' F := by
  have := e.stp (F := F) (Fv := []) (by simp)
  rwa [List.append_nil] at this
section
variable {S : Stc} {Γ : τ → Ctx} {s : τ} {a b c e tg iter elt : Expr} {es ifs : List Expr} {pos : Pos} {st : Stmt} {rest A B : List Stmt}
theorem je_of {m : Option α} {R : α → OP} (h : JN S e (Γ s) m R) : JE S e Γ s (m.bind fun x => some (x, s)) R := fun σ W F sta z hz Q k => by
  obtain ⟨x, h1, h2⟩ := run1 hz
  cases h2
  exact h σ W F sta x h1 Q fun v W' Fv ext fr fp r => k v W' F Fv (ext.stp fr) (sta.ext ext) (sta.fp.fresh ext fp fr) r
theorem jte_of {m : Option Bool} (h : JT S e (Γ s) m) : JTE S e Γ s (m.bind fun x => some (x, s)) := fun σ W F sta z hz Q k => by
  obtain ⟨x, h1, h2⟩ := run1 hz
  cases h2
  exact h σ W F sta x h1 Q fun W' ext => k W' F ext.stp0 (sta.ext ext)
theorem jea_of {m : Option α} {G : α → List SP} (h : JA S es (Γ s) m G) : JEA S es Γ s (m.bind fun x => some (x, s)) G := fun σ W F sta z hz Q k => by
  obtain ⟨x, h1, h2⟩ := run1 hz
  cases h2
  exact h σ W F sta x h1 Q fun vs W' ext hh => k vs W' F ext.stp0 (sta.ext ext) hh
theorem jie_of {m : Option (List α)} {E : α → SP} (h : JI S tg iter (Γ s) m E) : JIE S tg iter Γ s (m.bind fun x => some (x, s)) E := fun σ W F sta z hz R k => by
  obtain ⟨x, h1, h2⟩ := run1 hz
  cases h2
  exact h σ W F sta x h1 R fun J W' ext ok => k J W' F ext.stp0 (sta.ext ext) ok
/-- a shared value behind a step: its footprint is nothing -/
theorem JE.sh {m : Option (α × τ)} {E : α → SP} (h : JE S e Γ s m fun x => CC.sh (E x)) {σ : L2.St} {W : Wd} {F : List Addr} (sta : Sta (Γ s) σ W F) {x : α × τ} (hx : m = some x) {Q : VK}
    (k : ∀ v W' F', Stp W F W' F' → Sta (Γ x.2) σ W' F' → (E x.1).P W'.B v → Q v W'.H) : tOf S e σ W.H Q :=
  h σ W F sta x hx Q fun v W' F' Fv stp sa fp r => by
    obtain ⟨rfl, r⟩ := r
    rw [List.append_nil] at stp
    exact k v W' F' stp sa r
theorem JE.of_sh {m : Option (α × τ)} {E : α → SP} (h : ∀ σ W F, Sta (Γ s) σ W F → ∀ x, m = some x → ∀ Q : VK, (∀ v W' F', Stp W F W' F' → Sta (Γ x.2) σ W' F' → (E x.1).P W'.B v → Q v W'.H) → tOf S e σ W.H Q) : JE S e Γ s m fun x => CC.sh (E x) :=
  fun σ W F sta x hx Q k => h σ W F sta x hx Q fun v W' F' stp sa r => k v W' F' [] (by rw [List.append_nil]; exact stp) sa (by rw [List.append_nil]; exact sa.fp) ⟨rfl, r⟩
theorem jea_nil : JEA S [] Γ s (some ((), s)) fun _ => [] := fun σ W F sta x hx Q k => by
  cases hx
  exact ⟨tNil, fun _ _ => pa_nil, k [] W F (Stp.refl sta.ok) sta trivial⟩
theorem jea_cons {ma : Option (α × τ)} {mb : τ → Option (β × τ)} {E : α → SP} {G : β → List SP} (ha : JE S e Γ s ma fun x => sh (E x)) (hb : ∀ s1, JEA S es Γ s1 (mb s1) G) (hs : ∀ env, starEach (e :: es) env = (false, eval e env) :: starEach es env := by intro _; rfl) :
    JEA S (e :: es) Γ s (ma.bind fun p => (mb p.2).bind fun q => some ((p.1, q.1), q.2)) fun z => E z.1 :: G z.2 := fun σ W F sta z hz Q k => by
  obtain ⟨p, h1, h2⟩ := run1 hz
  obtain ⟨q, h3, h4⟩ := run1 (f := fun q : β × τ => some ((p.1, q.1), q.2)) h2
  cases h4
  refine ⟨tCons (tOf S e) (taOf S es), fun X hX => pa_cons (peO hX) (paO hX) (hs _), ?_⟩
  refine ha.sh sta h1 fun v W1 F1 stp1 sa1 r1 => ?_
  exact hb p.2 σ W1 F1 sa1 q h3 _ fun vs W2 F2 stp2 sa2 hh => k (v :: vs) W2 F2 (stp1.trans stp2) sa2 ⟨SP.mono _ r1 stp2.b, hh⟩
/-- operators -/
theorem tOp_runE {r : R2} {E : α → SP} {G : β → SP} {f : α → β → Option γ} {R : γ → OP} {ma : Option (α × τ)} {mb : τ → Option (β × τ)} (ha : JE S a Γ s ma fun x => sh (E x)) (hb : ∀ s1, JE S b Γ s1 (mb s1) fun y => sh (G y)) (hr : OpV r E G f R)
    {σ : L2.St} {W : Wd} {F : List Addr} (sta : Sta (Γ s) σ W F) {z : γ × τ} (hz : (ma.bind fun p => (mb p.2).bind fun q => (f p.1 q.1).bind fun z => some (z, q.2)) = some z) {Q : VK}
    (k : ∀ v W' F' Fv, Stp W F W' (F' ++ Fv) → Sta (Γ z.2) σ W' F' → FpOk W' (F' ++ Fv) → (R z.1).C W' v Fv → Q v W'.H) : tOp r (tOf S a) (tOf S b) σ W.H Q := by
  obtain ⟨p, h1, h2⟩ := run1 hz
  obtain ⟨q, h3, h4⟩ := run1 (f := fun q : β × τ => (f p.1 q.1).bind fun z => some (z, q.2)) h2
  obtain ⟨y, h5, h6⟩ := run1 (f := fun z : γ => some (z, q.2)) h4
  cases h6
  refine ha.sh sta h1 fun v W1 F1 stp1 sa1 r1 => ?_
  refine (hb p.2).sh sa1 h3 fun u W2 F2 stp2 sa2 r2 => ?_
  refine hr W2 p.1 q.1 v u y sa2.ok (SP.mono _ r1 stp2.b) r2 h5 Q fun t W3 Fv ext fr fp rr => ?_
  exact k t W3 F2 Fv ((stp1.trans stp2).trans (ext.stp fr)) (sa2.ext ext) (sa2.fp.fresh ext fp fr) rr
theorem je_bin {op : Operator} {r : R2} {E : α → SP} {G : β → SP} {f : α → β → Option γ} {R : γ → OP} {ma : Option (α × τ)} {mb : τ → Option (β × τ)} (ho : ∀ X, S.In X → OpR X (binaryOp op) r) (hr : OpV r E G f R)
    (ha : JE S a Γ s ma fun x => sh (E x)) (hb : ∀ s1, JE S b Γ s1 (mb s1) fun y => sh (G y)) : JE S (.BinOp a op b pos) Γ s (ma.bind fun p => (mb p.2).bind fun q => (f p.1 q.1).bind fun z => some (z, q.2)) R := fun σ W F sta z hz Q k =>
  ⟨tOp r (tOf S a) (tOf S b), fun X hX => pe_op (ho X hX) (peO hX) (peO hX), tOp_runE ha hb hr sta hz k⟩
theorem je_cmp {op : CmpOp} {r : R2} {E : α → SP} {G : β → SP} {f : α → β → Option γ} {R : γ → OP} {ma : Option (α × τ)} {mb : τ → Option (β × τ)} (ho : ∀ X, S.In X → OpR X (compareOp op) r) (hr : OpV r E G f R)
    (ha : JE S a Γ s ma fun x => sh (E x)) (hb : ∀ s1, JE S b Γ s1 (mb s1) fun y => sh (G y)) (hm : behindInMarks op b = false := by first | exact nomark _ | rfl) : JE S (.Compare a [op] [b] pos) Γ s (ma.bind fun p => (mb p.2).bind fun q => (f p.1 q.1).bind fun z => some (z, q.2)) R := fun σ W F sta z hz Q k =>
  ⟨tOp r (tOf S a) (tOf S b), fun X hX => pe_cmpR (ho X hX) (peO hX) (peO hX) hm, tOp_runE ha hb hr sta hz k⟩
theorem jte_cmp {op : CmpOp} {r : R2} {E : α → SP} {G : β → SP} {f : α → β → Option Bool} {ma : Option (α × τ)} {mb : τ → Option (β × τ)} (ho : ∀ X, S.In X → OpR X (compareOp op) r) (hr : OpV r E G f fun z => sh (boolS z))
    (ha : JE S a Γ s ma fun x => sh (E x)) (hb : ∀ s1, JE S b Γ s1 (mb s1) fun y => sh (G y)) (hm : behindInMarks op b = false := by first | exact nomark _ | rfl) : JTE S (.Compare a [op] [b] pos) Γ s (ma.bind fun p => (mb p.2).bind fun q => (f p.1 q.1).bind fun z => some (z, q.2)) := fun σ W F sta z hz Q k =>
  ⟨tTest (tOp r (tOf S a) (tOf S b)), fun X hX => pt_cmpR (ho X hX) (peO hX) (peO hX) hm, tOp_runE ha hb hr sta hz fun v W' F' Fv stp sa fp rr => by
    obtain ⟨rfl, h⟩ := rr
    rw [List.append_nil] at stp
    exact ⟨z.1, h, k W' F' stp sa⟩⟩
theorem jte_val {m : Option (Bool × τ)} (h : JE S e Γ s m fun z => sh (boolS z)) (he : ∀ env whole, isTrue e env whole = (do let v ← whole; standAt e.pos; holding [v] (truthy v)) := by intro _ _; rfl) : JTE S e Γ s m := fun σ W F sta z hz Q k =>
  ⟨tB (tOf S e), fun X hX => pt_val (peO hX) (he _), h.sh sta hz fun v W' F' stp sa r => ⟨z.1, r, k W' F' stp sa⟩⟩
theorem jte_not {m : Option (Bool × τ)} (h : JTE S e Γ s m) : JTE S (.UnaryOp .Not e pos) Γ s (m.bind fun x => some (!x.1, x.2)) := fun σ W F sta z hz Q k => by
  obtain ⟨x, h1, h2⟩ := run1 hz
  cases h2
  exact ⟨tNot (ttOf S e), fun X hX => pt_not (ptO hX), h σ W F sta x h1 _ fun W' F' stp sa => k W' F' stp sa⟩
theorem jwe_and1 {m : Option (Bool × τ)} (h : JTE S a Γ s m) : JWE S (.BoolOp .And [a] pos) Γ s m := fun σ W F sta z hz Q k => ⟨ttOf S a, fun X hX => pw_and1 (ptO hX), h σ W F sta z hz _ k⟩
theorem jwe_or1 {m : Option (Bool × τ)} (h : JTE S a Γ s m) : JWE S (.BoolOp .Or [a] pos) Γ s m := fun σ W F sta z hz Q k => ⟨ttOf S a, fun X hX => pw_or1 (ptO hX), h σ W F sta z hz _ k⟩
theorem jwe_and {ma : Option (Bool × τ)} {mb : τ → Option (Bool × τ)} (ha : JTE S a Γ s ma) (hb : ∀ s1, JWE S (.BoolOp .And (b :: es) pos) Γ s1 (mb s1)) : JWE S (.BoolOp .And (a :: b :: es) pos) Γ s (ma.bind fun p => bif p.1 then mb p.2 else some (false, p.2)) := fun σ W F sta z hz Q k => by
  obtain ⟨x, h1, h2⟩ := run1 hz
  refine ⟨tAnd (ttOf S a) (twOf S (.BoolOp .And (b :: es) pos)), fun X hX => pw_and (ptO hX) (pwO hX), ha σ W F sta x h1 _ fun W' F' stp sa => ?_⟩
  obtain ⟨x1, x2⟩ := x
  cases x1 with
  | true => exact iteT (hb x2 σ W' F' sa z h2 Q fun W2 F2 stp2 sa2 => k W2 F2 (stp.trans stp2) sa2)
  | false =>
    cases h2
    exact iteF (k W' F' stp sa)
theorem jwe_or {ma : Option (Bool × τ)} {mb : τ → Option (Bool × τ)} (ha : JTE S a Γ s ma) (hb : ∀ s1, JWE S (.BoolOp .Or (b :: es) pos) Γ s1 (mb s1)) : JWE S (.BoolOp .Or (a :: b :: es) pos) Γ s (ma.bind fun p => bif p.1 then some (true, p.2) else mb p.2) := fun σ W F sta z hz Q k => by
  obtain ⟨x, h1, h2⟩ := run1 hz
  refine ⟨tOr (ttOf S a) (twOf S (.BoolOp .Or (b :: es) pos)), fun X hX => pw_or (ptO hX) (pwO hX), ha σ W F sta x h1 _ fun W' F' stp sa => ?_⟩
  obtain ⟨x1, x2⟩ := x
  cases x1 with
  | false => exact iteF (hb x2 σ W' F' sa z h2 Q fun W2 F2 stp2 sa2 => k W2 F2 (stp.trans stp2) sa2)
  | true =>
    cases h2
    exact iteT (k W' F' stp sa)
theorem jte_w {m : Option (Bool × τ)} (h : JWE S e Γ s m) : JTE S e Γ s m := fun σ W F sta z hz Q k => ⟨twOf S e, fun X hX => (pwO hX).pt, h σ W F sta z hz Q k⟩
theorem je_if {mc : Option (Bool × τ)} {ma mb : τ → Option (α × τ)} {R : α → OP} (hc : JTE S c Γ s mc) (ha : ∀ s1, JE S a Γ s1 (ma s1) R) (hb : ∀ s1, JE S b Γ s1 (mb s1) R) : JE S (.IfExp c a b pos) Γ s (mc.bind fun p => bif p.1 then ma p.2 else mb p.2) R := fun σ W F sta z hz Q k => by
  obtain ⟨x, h1, h2⟩ := run1 hz
  refine ⟨tIf (ttOf S c) (tOf S a) (tOf S b), fun X hX => pe_ifExp (ptO hX) (peO hX) (peO hX), hc σ W F sta x h1 _ fun W' F' stp sa => ?_⟩
  obtain ⟨x1, x2⟩ := x
  cases x1 with
  | true => exact iteT (ha x2 σ W' F' sa z h2 Q fun v W2 F2 Fv stp2 sa2 fp r => k v W2 F2 Fv (stp.trans stp2) sa2 fp r)
  | false => exact iteF (hb x2 σ W' F' sa z h2 Q fun v W2 F2 Fv stp2 sa2 fp r => k v W2 F2 Fv (stp.trans stp2) sa2 fp r)
/-- a shared thing's item at a drawn place -/
theorem je_ix {r : R2} {P : α → SP} {G : β → SP} {f : α → β → Option γ} {E : γ → SP} {ma : Option (α × τ)} {mb : τ → Option (β × τ)} (ho : ∀ X, S.In X → IxR X r) (hr : IxV r (fun x => sh (P x)) G f fun z => sh (E z))
    (ha : JE S a Γ s ma fun x => sh (P x)) (hb : ∀ s1, JE S b Γ s1 (mb s1) fun y => sh (G y)) (hs : PlainIx b := by exact fun _ _ => rfl) : JE S (.Subscript a b pos) Γ s (ma.bind fun p => (mb p.2).bind fun q => (f p.1 q.1).bind fun z => some (z, q.2)) fun z => sh (E z) := JE.of_sh fun σ W F sta z hz Q k => by
  refine ⟨tOp r (tOf S a) (tOf S b), fun X hX => pe_ix (ho X hX) (peO hX) (peO hX) hs, ?_⟩
  obtain ⟨p, h1, h2⟩ := run1 hz
  obtain ⟨q, h3, h4⟩ := run1 (f := fun q : β × τ => (f p.1 q.1).bind fun z => some (z, q.2)) h2
  obtain ⟨y, h5, h6⟩ := run1 (f := fun z : γ => some (z, q.2)) h4
  cases h6
  refine ha.sh sta h1 fun v W1 F1 stp1 sa1 r1 => ?_
  refine (hb p.2).sh sa1 h3 fun u W2 F2 stp2 sa2 r2 => ?_
  exact hr W2 p.1 q.1 v u y [] sa2.ok ⟨rfl, SP.mono _ r1 stp2.b⟩ r2 h5 _ fun t ⟨F3, q1, _⟩ => k t W2 F2 (stp1.trans stp2) sa2 q1.2
/-- builtins of one argument -/
theorem je_b1 {x : Str} {id : String} {p : Pos} {r : List V → Hp → VK → Prop} {m : Option (α × τ)} {E : α → SP} {f : α → Option γ} {R : γ → OP} (hc : ∀ X, S.In X → CallR X (.builtin id) r)
    (hr : ∀ W x v z, Ex W.B W.H → (E x).P W.B v → f x = some z → ∀ Q : VK, Got (R z) W Q → r [v] W.H Q) (hm : S.mg x = none) (ha : JE S a Γ s m fun x => sh (E x))
    (hg : GlS S x := by rfl) (hv : bootBuiltins x = some (.builtin id) := by decide +kernel) (hn : x ≠ "__name__" := by decide) (hdb : (x == ("__debug__" : Str)) = false := by decide)
    (hs : ∀ env, starEach [a] env = [(false, eval a env)] := by intro _; rfl) : JE S (.Call (.Name x p) [a] [] pos) Γ s (m.bind fun q => (f q.1).bind fun z => some (z, q.2)) R := fun σ W F sta z hz Q k => by
  obtain ⟨q, h1, h2⟩ := run1 hz
  obtain ⟨y, h3, h4⟩ := run1 (f := fun z : γ => some (z, q.2)) h2
  cases h4
  refine ⟨tCB r (tCons (tOf S a) tNil), fun X hX => pe_callB (hc X hX) (hg.gl hX) (mgS hm hX) hv (pa_cons (peO hX) pa_nil (hs _)) hn hdb (hs _) rfl, ha.sh sta h1 fun v W1 F1 stp1 sa1 r1 => ?_⟩
  exact hr W1 q.1 v y sa1.ok r1 h3 Q fun t W3 Fv ext fr fp rr => k t W3 F1 Fv (stp1.trans (ext.stp fr)) (sa1.ext ext) (sa1.fp.fresh ext fp fr) rr
theorem je_t1 {x : Str} {T : String} {p : Pos} {r : List V → Hp → VK → Prop} {m : Option (α × τ)} {E : α → SP} {f : α → Option γ} {R : γ → OP} (hc : ∀ X, S.In X → CallR X (.type T) r)
    (hr : ∀ W x v z, Ex W.B W.H → (E x).P W.B v → f x = some z → ∀ Q : VK, Got (R z) W Q → r [v] W.H Q) (hm : S.mg x = none) (ha : JE S a Γ s m fun x => sh (E x))
    (hg : GlS S x := by rfl) (hv : bootBuiltins x = some (.type T) := by decide +kernel) (hn : x ≠ "__name__" := by decide) (hdb : (x == ("__debug__" : Str)) = false := by decide)
    (hs : ∀ env, starEach [a] env = [(false, eval a env)] := by intro _; rfl) : JE S (.Call (.Name x p) [a] [] pos) Γ s (m.bind fun q => (f q.1).bind fun z => some (z, q.2)) R := fun σ W F sta z hz Q k => by
  obtain ⟨q, h1, h2⟩ := run1 hz
  obtain ⟨y, h3, h4⟩ := run1 (f := fun z : γ => some (z, q.2)) h2
  cases h4
  refine ⟨tCB r (tCons (tOf S a) tNil), fun X hX => pe_callTy (hc X hX) (hg.gl hX) (mgS hm hX) hv (pa_cons (peO hX) pa_nil (hs _)) hn hdb (hs _) rfl, ha.sh sta h1 fun v W1 F1 stp1 sa1 r1 => ?_⟩
  exact hr W1 q.1 v y sa1.ok r1 h3 Q fun t W3 Fv ext fr fp rr => k t W3 F1 Fv (stp1.trans (ext.stp fr)) (sa1.ext ext) (sa1.fp.fresh ext fp fr) rr
theorem je_int {m : Option (Int × τ)} {p : Pos} (hm : S.mg "int" = none) (h : JE S a Γ s m fun x => sh (intS x)) (hg : GlS S "int" := by rfl) (hs : ∀ env, starEach [a] env = [(false, eval a env)] := by intro _; rfl) : JE S (.Call (.Name "int" p) [a] [] pos) Γ s (m.bind fun q => some (q.1, q.2)) fun z => sh (intS z) :=
  je_t1 (f := fun x : Int => some x) (fun X hX => call_int1) (fun W x v z ok hh e Q k => by
    cases e
    cases hh
    exact .inl ⟨_, rfl, k.val ok rfl⟩) hm h hg (by decide +kernel) (by decide) (by decide) hs
/-- a fresh value frozen on the way -/
theorem JE.frz {m : Option (α × τ)} {R : α → OP} {P : α → SP} (f : ∀ x, FrzN (R x) (P x)) (h : JE S e Γ s m R) : JE S e Γ s m fun x => CC.sh (P x) := JE.of_sh fun σ W F sta x hx Q k =>
  h σ W F sta x hx Q fun v W' F' Fv stp sa fp r => by
    obtain ⟨B', b1, b2, b3, b4⟩ := (f x.1).run r fp.right.nd fp.right.fr stp.ok
    have fpB : FpOk ⟨W'.H, B'⟩ F' := ⟨fp.left.nd, fp.left.al, fun a ha => b3 a (fp.left.fr a ha) (fp.disj a ha)⟩
    refine k v ⟨W'.H, B'⟩ F' ⟨b2, stp.b.trans b1, stp.h, stp.al, fun a h1 h2 n => b3 a (stp.fr a h1 h2 n) fun z => ?_, fun a ha => stp.fp a (List.mem_append_left _ ha)⟩ ⟨b2, fpB, sa.len, sa.hold.loc b1 fun _ _ => rfl⟩ b4
    rcases stp.fp a (List.mem_append_right _ z) with q | q
    · exact n q
    · exact h1 q
/-- a call of a def that changes its first argument, the slot i -/
theorem je_callS {x y : Str} {p p1 : Pos} {f : Addr} {fd : FuncData} {ps : List Str} {k : Nat} {O : υ → OP} {G : α → List SP} {fM : α → υ → Option (ρ × υ)} {R : ρ → OP} {m : Option (α × τ)} (i : Nat) (get : τ → υ) (put : τ → υ → τ) (Fn : FnOk S.P S.w S.K S.mg S.base CX0 k f fd ps (spS O G fM R)) (hm : S.mg x = some (.ref f)) (kp : PySem.W.keepIn S.K (.ref f) = true) (hb : Binds S.K fd ps [])
    (hk : k ≤ S.k) (ha : JEA S es Γ s m G) (hi : ∀ s, (Γ s)[i]? = some (some (O (get s))) := by intro _; rfl) (hp : ∀ s u, (Γ s).set i (some (O u)) = Γ (put s u) := by intro _ _; rfl) (hN : S.N[i]? = some y := by rfl) (hv : Vis S.sc y := by first | exact Or.inl rfl | exact Or.inr (Or.inl rfl) | exact Or.inr (Or.inr rfl))
    (hd : (y == ("__debug__" : Str)) = false := by decide) (hcd : (y == ("__classdict__" : Str)) = false := by decide) (hg : GlS S x := by rfl) (hdb : (x == ("__debug__" : Str)) = false := by decide)
    (he : ∀ env, starEach (Expr.Name y p1 :: es) env = (false, eval (.Name y p1) env) :: starEach es env := by intro _; rfl) (hpl : ∀ env, (backTo pos (starEach es env)).any (·.1) = false := by intro _; rfl) (hcm : S.calm = true := by rfl) :
    JE S (.Call (.Name x p) (.Name y p1 :: es) [] pos) Γ s (m.bind fun q => (fM q.1 (get q.2)).bind fun r => some (r.1, put q.2 r.2)) R := fun σ W F sta z hz Q kk => by
  obtain ⟨q, h1, h2⟩ := run1 hz
  obtain ⟨r, h3, h4⟩ := run1 (f := fun r : ρ × υ => some (r.1, put q.2 r.2)) h2
  cases h4
  refine ⟨tCall (spS O G fM R) [] E0 (tCons (tVar i) (taOf S es)), fun X hX => pe_call (fnokS Fn hX) ((hX.room hcm).mono hk) (hg.gl hX) (mgS hm hX) (by rw [hX.K]; exact kp) (bindsS hX hb) .nil passE0 (pa_cons (pe_var (by rw [hX.N]; exact hN) (visS hv hX) hd hcd) (paO hX) (he _)) hdb (he _) (hpl _), ?_⟩
  obtain ⟨v0, F1, F2, a1, _, _, _⟩ := sta.hold.at (hi s)
  refine ⟨v0, a1, ha σ W F sta q h1 _ fun vs W1 Fa stp1 sa1 hh => ?_⟩
  show spS O G fM R ((v0 :: vs) ++ []) W1.H Q E0
  rw [List.append_nil]
  obtain ⟨v1, F1, F2, b1, b2, b3, b4⟩ := sa1.hold.at (hi q.2)
  have ev : v1 = v0 := by rw [a1] at b1; exact (Option.some.inj (Option.some.inj b1)).symm
  subst ev
  have fpP := sa1.fp.perm b3
  refine ⟨q.1, get q.2, W1, F1, v1, vs, r, rfl, rfl, sa1.ok, fpP.left, b2, hh, h3, fun v W2 F1' Fv stp2 fp2 o2 r2 => ?_⟩
  have ne2 : ∀ a ∈ F2, a ∉ F1 := fun a ha h => fpP.disj a h ha
  have hH : ∀ a ∈ F2, W2.H a = W1.H a := fun a ha => by
    cases qa : W1.H a with
    | none => exact absurd qa (fpP.right.al a ha)
    | some o => exact stp2.h a o qa (ne2 a ha)
  obtain ⟨F', c1, c2⟩ := b4 W2 (O r.2) v1 F1' stp2.b hH o2
  rw [set_back b1, hp] at c1
  have fpN : FpOk W2 ((F1' ++ F2) ++ Fv) := by
    have fA : FpOk W2 ((F1' ++ Fv) ++ F2) := fp2.app ⟨fpP.right.nd, fun a ha => stp2.al a (fpP.right.al a ha), fun a ha => stp2.fr a (fpP.right.al a ha) (fpP.right.fr a ha) (ne2 a ha)⟩ fun a ha h => by
      rcases stp2.fp a ha with z | z
      · exact ne2 a h z
      · exact fpP.right.al a h z
    refine fA.perm ?_
    rw [List.append_assoc, List.append_assoc]
    exact List.Perm.append_left _ List.perm_append_comm
  have fpF : FpOk W2 (F' ++ Fv) := fpN.perm (List.Perm.append_right Fv c2.symm)
  refine kk v W2 F' Fv (stp1.trans ?_) ⟨stp2.ok, fpF.left, by rw [← hp, List.length_set]; exact sa1.len, c1⟩ fpF r2
  refine ⟨stp2.ok, stp2.b, fun a o h n => stp2.h a o h fun z => n (b3.mem_iff.mpr (List.mem_append_left _ z)), stp2.al, fun a x1 x2 n => stp2.fr a x1 x2 fun z => n (b3.mem_iff.mpr (List.mem_append_left _ z)), fun a ha => ?_⟩
  rcases List.mem_append.mp ha with z | z
  · rcases List.mem_append.mp (c2.mem_iff.mp z) with z | z
    · exact (stp2.fp a (List.mem_append_left _ z)).imp (fun w => b3.mem_iff.mpr (List.mem_append_left _ w)) id
    · exact .inl (b3.mem_iff.mpr (List.mem_append_right _ z))
  · exact (stp2.fp a (List.mem_append_right _ z)).imp (fun w => b3.mem_iff.mpr (List.mem_append_left _ w)) id
/-- a pure def with such arguments -/
theorem je_call {x : Str} {p : Pos} {f : Addr} {fd : FuncData} {ps : List Str} {k : Nat} {G : α → List SP} {fM : α → Option ρ} {R : ρ → OP} {m : Option (α × τ)} (Fn : FnOk S.P S.w S.K S.mg S.base CX0 k f fd ps (spP G fM R)) (hm : S.mg x = some (.ref f)) (kp : PySem.W.keepIn S.K (.ref f) = true) (hb : Binds S.K fd ps [])
    (hk : k ≤ S.k) (ha : JEA S (e :: es) Γ s m G) (hg : GlS S x := by rfl) (hdb : (x == ("__debug__" : Str)) = false := by decide) (he : ∀ env, starEach (e :: es) env = (false, eval e env) :: starEach es env := by intro _; rfl) (hpl : ∀ env, (backTo pos (starEach es env)).any (·.1) = false := by intro _; rfl) (hcm : S.calm = true := by rfl) :
    JE S (.Call (.Name x p) (e :: es) [] pos) Γ s (m.bind fun q => (fM q.1).bind fun r => some (r, q.2)) R := fun σ W F sta z hz Q kk => by
  obtain ⟨q, h1, h2⟩ := run1 hz
  obtain ⟨r, h3, h4⟩ := run1 (f := fun r : ρ => some (r, q.2)) h2
  cases h4
  refine ⟨tCall (spP G fM R) [] E0 (taOf S (e :: es)), fun X hX => pe_call (fnokS Fn hX) ((hX.room hcm).mono hk) (hg.gl hX) (mgS hm hX) (by rw [hX.K]; exact kp) (bindsS hX hb) .nil passE0 (paO hX) hdb (he _) (hpl _), ha σ W F sta q h1 _ fun vs W1 F1 stp1 sa1 hh => ?_⟩
  show spP G fM R (vs ++ []) W1.H Q E0
  rw [List.append_nil]
  exact ⟨q.1, W1, r, rfl, sa1.ok, hh, h3, fun v W2 Fv ext fr fp rr => kk v W2 F1 Fv (stp1.trans (ext.stp fr)) (sa1.ext ext) (sa1.fp.fresh ext fp fr) rr⟩
/-- xs.pop(i) of an owned list -/
def popAt (xs : List α) (i : Int) : Option (α × List α) := if 0 ≤ i ∧ xs.length ≤ LIM then (xs[i.toNat]?).bind fun x => some (x, xs.eraseIdx i.toNat) else none
theorem Owns.erase {E : α → OP} {W : Wd} : ∀ {vs : List V} {xs : List α} {F : List Addr} {i : Nat} {x : α}, Owns E W vs xs F → xs[i]? = some x →
    ∃ v F1 F2, vs[i]? = some v ∧ (E x).C W v F1 ∧ F.Perm (F1 ++ F2) ∧ Owns E W (vs.eraseIdx i) (xs.eraseIdx i) F2
  | [], [], _, _, _, _, e => by simp at e
  | v :: vs, y :: xs, _, 0, x, ⟨F1, F2, h1, h2, h3⟩, e => by
    have : y = x := by simpa using e
    subst this h1
    exact ⟨v, F1, F2, rfl, h2, .refl _, h3⟩
  | v :: vs, y :: xs, _, i + 1, x, ⟨F1, F2, h1, h2, h3⟩, e => by
    subst h1
    obtain ⟨u, G1, G2, a1, a2, a3, a4⟩ := Owns.erase (i := i) h3 (by simpa using e)
    refine ⟨u, G1, F1 ++ G2, by simpa using a1, a2, ?_, F1, G2, rfl, h2, a4⟩
    refine (List.Perm.append_left F1 a3).trans ?_
    rw [← List.append_assoc, ← List.append_assoc]
    exact List.Perm.append_right G2 List.perm_append_comm
  | [], _ :: _, _, _, _, h, _ => h.elim
  | _ :: _, [], _, _, _, h, _ => h.elim
theorem je_popAt {x : Str} {p0 apos : Pos} {E : α → OP} {m : Option (Int × τ)} (i : Nat) (get : τ → List α) (put : τ → List α → τ) (h : JE S e Γ s m fun z => sh (intS z)) (hi : ∀ s, (Γ s)[i]? = some (some (lstO E (get s))) := by intro _; rfl) (hp : ∀ s u, (Γ s).set i (some (lstO E u)) = Γ (put s u) := by intro _ _; rfl)
    (hN : S.N[i]? = some x := by rfl) (hv : Vis S.sc x := by first | exact Or.inl rfl | exact Or.inr (Or.inl rfl) | exact Or.inr (Or.inr rfl)) (hd : (x == ("__debug__" : Str)) = false := by decide) (hcd : (x == ("__classdict__" : Str)) = false := by decide)
    (hbase : ∀ env, attributeBase (.Name x p0) "pop" env (eval (.Name x p0) env) = eval (.Name x p0) env := by intro _; rfl)
    (hfew : ∀ env, ((backTo pos (starEach [e] env)).all (fun x => !x.1) && (backToKw pos (keywordEach [] env)).all (fun x => x.1.isSome) && decide ([e].length + ([] : List Keyword).length + (if ([] : List Keyword).isEmpty then 0 else 1) < 30)) = true := by intro _; rfl)
    (hline : (apos.endLine == pos.line) = true := by rfl) (hs : ∀ env, starEach [e] env = (false, eval e env) :: starEach [] env := by intro _; rfl) :
    JE S (.Call (.Attribute (.Name x p0) "pop" apos) [e] [] pos) Γ s (m.bind fun q => (popAt (get q.2) q.1).bind fun r => some (r.1, put q.2 r.2)) E := fun σ W F sta z hz Q kk => by
  obtain ⟨q, h1, h2⟩ := run1 hz
  obtain ⟨r, h3, h4⟩ := run1 (f := fun r : α × List α => some (r.1, put q.2 r.2)) h2
  cases h4
  unfold popAt at h3
  split at h3
  · rename_i hb
    obtain ⟨y, h5, h6⟩ := run1 (f := fun y : α => some (y, (get q.2).eraseIdx q.1.toNat)) h3
    cases h6
    refine ⟨tBM S.K "list" rPopAt (tVar i) (tCons (tOf S e) tNil), fun X hX => hX.K ▸ pe_bm PySem.F.plainAttrs_list PySem.F.slot_list_pop PySem.F.type_list_pop mt_popAt (pe_var (by rw [hX.N]; exact hN) (visS hv hX) hd hcd) (pa_cons (peO hX) pa_nil (hs _)) (hbase _) (hfew _) hline (hs _) rfl, ?_⟩
    obtain ⟨v, F1, F2, a1, a2, a3, a4⟩ := sta.hold.at (hi s)
    obtain ⟨p, vs, G2, rfl, b2, rfl, b4⟩ := id a2
    refine ⟨.ref p, a1, .inl ⟨rfl, vs, .inl (.inl b2)⟩, h.sh sta h1 fun u W1 Fa stp1 sa1 r1 => ?_⟩
    cases r1
    obtain ⟨v', F1', F2', c1, c2, c3, c4⟩ := sa1.hold.at (hi q.2)
    have ev : v' = .ref p := by rw [a1] at c1; exact (Option.some.inj (Option.some.inj c1)).symm
    subst ev
    obtain ⟨p', vs', G2', e1, d2, rfl, d4⟩ := c2
    cases e1
    have hB : W1.B p = none := (sa1.fp.perm c3).fr p (by simp)
    obtain ⟨w, K1, K2, k1, k2, k3, k4⟩ := d4.erase h5
    have hlen := d4.len
    have hlt : q.1.toNat < (get q.2).length := (List.getElem?_eq_some_iff.mp h5).1
    have z : LIM = 1000000 := rfl
    have fpA := (sa1.fp.perm c3).left
    have fpK : FpOk W1 (p :: (K2 ++ K1)) := fpA.perm (List.Perm.cons p (k3.trans List.perm_append_comm))
    have nP : ∀ a ∈ K2 ++ K1, a ≠ p := fun a ha z => (List.nodup_cons.mp fpK.nd).1 (z ▸ ha)
    have eseq : seqIndex? q.1 vs'.length = some q.1.toNat := by
      have hx : ixN vs'.length q.1 = some q.1.toNat := by
        unfold ixN
        rw [if_pos hb.1, if_pos (by omega)]
      exact (ixN_seq hx).1
    refine ⟨p, vs', q.1, q.1.toNat, w, rfl, rfl, d2, by omega, by omega, eseq, k1, ?_⟩
    have ke : (lstO E ((get q.2).eraseIdx q.1.toNat)).C ⟨upd W1.H p (.lst (vs'.eraseIdx q.1.toNat)), W1.B⟩ (.ref p) (p :: K2) :=
      ⟨p, _, K2, rfl, upd_same, rfl, Owns.loc (W := W1) (W' := ⟨upd W1.H p (.lst (vs'.eraseIdx q.1.toNat)), W1.B⟩) (fun _ _ h => h) k4 fun a ha => by
        show upd W1.H p (.lst (vs'.eraseIdx q.1.toNat)) a = W1.H a
        exact upd_ne (nP a (List.mem_append_left _ ha))⟩
    have fpN : FpOk W1 ((p :: K2) ++ K1) := fpK
    -- the item's own things leave the list
    have fpG : FpOk W1 (((p :: K2) ++ F2') ++ K1) := by
      refine (sa1.fp.perm c3).perm ?_
      have e1 : ((p :: G2') ++ F2').Perm ((p :: (K2 ++ K1)) ++ F2') := List.Perm.append_right F2' (List.Perm.cons p (k3.trans List.perm_append_comm))
      refine e1.trans ?_
      show ((p :: K2) ++ K1 ++ F2').Perm _
      rw [List.append_assoc, List.append_assoc]
      exact List.Perm.append_left _ List.perm_append_comm
    obtain ⟨F', s1, s2⟩ := c4 ⟨upd W1.H p (.lst (vs'.eraseIdx q.1.toNat)), W1.B⟩ _ (.ref p) (p :: K2) (fun _ _ h => h) (fun a ha => by
      show upd W1.H p (.lst (vs'.eraseIdx q.1.toNat)) a = W1.H a
      refine upd_ne fun z => ?_
      exact (sa1.fp.perm c3).disj p List.mem_cons_self (z ▸ ha)) ke
    rw [set_back c1, hp] at s1
    have fpF : FpOk ⟨upd W1.H p (.lst (vs'.eraseIdx q.1.toNat)), W1.B⟩ (F' ++ K1) := by
      have := fpG.perm (List.Perm.append_right K1 s2.symm)
      exact ⟨this.nd, fun a ha => wr_al a (this.al a ha), this.fr⟩
    refine kk w ⟨upd W1.H p (.lst (vs'.eraseIdx q.1.toNat)), W1.B⟩ F' K1 (stp1.trans ?_) ⟨wr_ok sa1.ok hB, fpF.left, by rw [← hp, List.length_set]; exact sa1.len, s1⟩ fpF ?_
    · refine ⟨wr_ok sa1.ok hB, Ex.refl _, fun a o h n => ?_, wr_al, fun a _ h2 _ => h2, fun a ha => .inl (c3.mem_iff.mpr ?_)⟩
      · show upd W1.H p _ a = some o
        rw [upd_ne fun z => n (c3.mem_iff.mpr (by rw [z]; simp))]
        exact h
      · rcases List.mem_append.mp ha with z | z
        · rcases List.mem_append.mp (s2.mem_iff.mp z) with z | z
          · rcases List.mem_cons.mp z with z | z
            · rw [z]; simp
            · exact List.mem_append_left _ (List.mem_cons_of_mem _ (k3.mem_iff.mpr (List.mem_append_right _ z)))
          · exact List.mem_append_right _ z
        · exact List.mem_append_left _ (List.mem_cons_of_mem _ (k3.mem_iff.mpr (List.mem_append_left _ z)))
    · exact OP.loc _ k2 (fun _ _ h => h) fun a ha => by
        show upd W1.H p (.lst (vs'.eraseIdx q.1.toNat)) a = W1.H a
        exact upd_ne (nP a (List.mem_append_right _ ha))
  · cases h3
/-! ### statements -/
theorem js_setE {x : Str} {pos' : Pos} {m : Option (α × τ)} {R : α → OP} (i : Nat) (nd : S.N.Nodup) (h : JE S e Γ s m R) (hi : ∀ s, ((Γ s)[i]?).isSome = true := by intro _; rfl) (hN : S.N[i]? = some x := by rfl) (hx : Loc S.sc x := by first | exact Or.inl rfl | exact Or.inr rfl) (hp : (S.prot.contains i) = false := by rfl)
    (hs : ∀ env, swapsWith e (some (.Name x pos')) pos.line env = pure false := by intro _; rfl) (hf : S.fn x = true ∨ S.sc.names.lookup x = some .local := by first | exact .inl rfl | exact .inr rfl) : JS S (.Assign [.Name x pos'] e pos) (Γ s) m fun q => .nx ((Γ q.2).set i (some (R q.1))) := fun σ W F sta y hy E k => by
  refine ⟨tAsg (tOf S e) (gName i), fun X hX => ps_set (by rw [hX.N]; exact nd) (by rw [hX.N]; exact hN) (locS hx hX) (peO hX) (hs _) (by rw [hX.fn, hX.sc]; exact hf), h σ W F sta y hy _ fun v W' F' Fv stp sa fp r => ?_⟩
  have hl : i < (Γ y.2).length := by
    have := hi y.2
    cases h : (Γ y.2)[i]? with
    | none => rw [h] at this; cases this
    | some o => exact (List.getElem?_eq_some_iff.mp h).1
  obtain ⟨F2, s', sub⟩ := sa.put hl r fp
  exact k _ W' F2 (Keep.set (ncon hp)) (stp.perm sub) s'
theorem js_asgE {m : Option (α × τ)} {E : α → SP} {up : α → Ctx → Ctx} {ws : List Nat} (h : JE S e Γ s m fun x => sh (E x)) (hg : JG S tg E up ws) (hl : ∀ s, ∀ i ∈ ws, i < (Γ s).length) (hs : ∀ env, swapsWithSole [tg] e pos.line env = pure false := by intro _; rfl) (hw : ∀ env, swappedStores [tg] e env = pure none := by intro _; rfl)
    (h1 : ∀ env, (assignEach [tg] env).map (·.2) = [assign tg env] := by intro _; rfl) : JS S (.Assign [tg] e pos) (Γ s) m fun q => .nx (up q.1 (Γ q.2)) := fun σ W F sta y hy Ed k => by
  refine ⟨tAsg (tOf S e) (tgOf S tg), fun X hX => ps_asg (peO hX) (pgO hX) (hs _) (hw _) (h1 _), h.sh sta hy fun v W' F' stp sa r => ?_⟩
  refine hg _ σ W' F' y.1 v sa (hl _) r _ fun σ' F2 _ kp s' sub => ?_
  exact k σ' W' F2 kp (stp.perm sub) s'
theorem js_drop {m : Option (α × τ)} {R : α → OP} (h : JE S e Γ s m R) (hs : ∀ env, swapsWith e none pos.line env = pure false := by intro _; rfl) : JS S (.Expr e pos) (Γ s) m fun q => .nx (Γ q.2) := fun σ W F sta y hy Ed k => by
  refine ⟨tDrop (tOf S e), fun X hX => ps_expr (peO hX) (hs _), h σ W F sta y hy _ fun v W' F' Fv stp sa fp r => ?_⟩
  exact k σ W' F' Keep.refl (stp.perm fun a ha => List.mem_append_left _ ha) sa
theorem js_ifE {mc : Option (Bool × τ)} {ma mb : τ → Option ω} {D : ω → Kd} (hc : JTE S c Γ s mc) (ha : ∀ s1, JB S A (Γ s1) (ma s1) D) (hb : ∀ s1, JB S B (Γ s1) (mb s1) D) : JS S (.If c A B pos) (Γ s) (mc.bind fun p => bif p.1 then ma p.2 else mb p.2) D := fun σ W F sta z hz E k => by
  obtain ⟨x, h1, h2⟩ := run1 hz
  refine ⟨tIfS (ttOf S c) (tbOf S A) (tbOf S B), fun X hX => ps_if (ptO hX) (pbO hX) (pbO hX), ?_⟩
  refine hc σ W F sta x h1 _ fun W' F' stp sa => ?_
  obtain ⟨x1, x2⟩ := x
  cases x1 with
  | true => exact iteT (ha x2 σ W' F' sa z h2 _ (k.before Keep.refl stp))
  | false => exact iteF (hb x2 σ W' F' sa z h2 _ (k.before Keep.refl stp))
theorem jb_ifrE {mc : Option (Bool × τ)} {ma mr : τ → Option ω} {D : ω → Kd} (hc : JTE S c Γ s mc) (ha : ∀ s1, JB S A (Γ s1) (ma s1) D) (hn : ∀ x, NoNx (D x)) (hr : ∀ s1, JB S rest (Γ s1) (mr s1) D) : JB S (.If c A [] pos :: rest) (Γ s) (mc.bind fun p => bif p.1 then ma p.2 else mr p.2) D := fun σ W F sta z hz E k => by
  obtain ⟨x, h1, h2⟩ := run1 hz
  refine ⟨tSeq (tIfS (ttOf S c) (tbOf S A) tNext) (tbOf S rest), fun X hX => pss_cons (ps_if (ptO hX) (pbO hX) pss_nil) (pbO hX), ?_⟩
  refine hc σ W F sta x h1 _ fun W' F' stp sa => ?_
  obtain ⟨x1, x2⟩ := x
  cases x1 with
  | true => exact iteT (ha x2 σ W' F' sa z h2 _ (post_nox (k.before Keep.refl stp) (hn z)))
  | false => exact iteF (hr x2 σ W' F' sa z h2 E (k.before Keep.refl stp))
theorem jb_ifxE {mc : Option (Bool × τ)} {ma : τ → Option υ} {mr : τ → Option ω} {D : ω → Kd} {D' : υ → Kd} (ι : υ → ω) (hc : JTE S c Γ s mc) (ha : ∀ s1, JB S A (Γ s1) (ma s1) D') (hι : ∀ x, D (ι x) = D' x) (hn : ∀ x, NoNx (D' x)) (hr : ∀ s1, JB S rest (Γ s1) (mr s1) D) :
    JB S (.If c A [] pos :: rest) (Γ s) (mc.bind fun p => bif p.1 then (ma p.2).bind fun x => some (ι x) else mr p.2) D := fun σ W F sta z hz E k => by
  obtain ⟨x, h1, h2⟩ := run1 hz
  refine ⟨tSeq (tIfS (ttOf S c) (tbOf S A) tNext) (tbOf S rest), fun X hX => pss_cons (ps_if (ptO hX) (pbO hX) pss_nil) (pbO hX), ?_⟩
  refine hc σ W F sta x h1 _ fun W' F' stp sa => ?_
  obtain ⟨x1, x2⟩ := x
  cases x1 with
  | true =>
    obtain ⟨y, h3, h4⟩ := run1 h2
    cases h4
    refine iteT (ha x2 σ W' F' sa y h3 _ ?_)
    rw [hι] at k
    exact post_nox (k.before Keep.refl stp) (hn y)
  | false => exact iteF (hr x2 σ W' F' sa z h2 E (k.before Keep.refl stp))
theorem jb_retE {m : Option (α × τ)} {R : α → OP} {Δ : τ → Ctx} (w : ∀ s, Weak (Γ s) (Δ s)) (h : JE S e Γ s m R) : JB S (.Return (some e) pos :: rest) (Γ s) m fun q => .rt (Δ q.2) (R q.1) := fun σ W F sta x hx E k => by
  refine ⟨tSeq (tRet (tOf S e)) tNever, fun X hX => pss_cons (ps_ret (peO hX)) pss_never, h σ W F sta x hx _ fun v W' F' Fv stp sa fp r => ?_⟩
  obtain ⟨F2, s', sub⟩ := sa.weak (w x.2)
  have fpB : FpOk W' (F2 ++ Fv) := s'.fp.app fp.right fun a ha => fp.disj a (sub a ha)
  refine k v σ W' F2 Fv Keep.refl (stp.perm fun a ha => ?_) s' fpB r
  rcases List.mem_append.mp ha with h | h
  · exact List.mem_append_left _ (sub a h)
  · exact List.mem_append_right _ h
/-- found.append(e) -/
theorem js_appE {x : Str} {p0 apos cpos spos : Pos} {E : α → OP} {m : Option (α × τ)} (i : Nat) (get : τ → List α) (h : JE S e Γ s m E) (hi : ∀ s, (Γ s)[i]? = some (some (lstO E (get s))) := by intro _; rfl) (hN : S.N[i]? = some x := by rfl) (hv : Vis S.sc x := by first | exact Or.inl rfl | exact Or.inr (Or.inl rfl) | exact Or.inr (Or.inr rfl))
    (hd : (x == ("__debug__" : Str)) = false := by decide) (hcd : (x == ("__classdict__" : Str)) = false := by decide)
    (hbase : ∀ env, attributeBase (.Name x p0) "append" env (eval (.Name x p0) env) = eval (.Name x p0) env := by intro _; rfl)
    (hfew : ∀ env, ((backTo cpos (starEach [e] env)).all (fun x => !x.1) && (backToKw cpos (keywordEach [] env)).all (fun x => x.1.isSome) && decide ([e].length + ([] : List Keyword).length + (if ([] : List Keyword).isEmpty then 0 else 1) < 30)) = true := by intro _; rfl)
    (hline : (apos.endLine == cpos.line) = true := by rfl) (hs : ∀ env, starEach [e] env = (false, eval e env) :: starEach [] env := by intro _; rfl) (hsw : ∀ env, swapsWith (.Call (.Attribute (.Name x p0) "append" apos) [e] [] cpos) none spos.line env = pure false := by intro _; rfl) :
    JS S (.Expr (.Call (.Attribute (.Name x p0) "append" apos) [e] [] cpos) spos) (Γ s) (m.bind fun q => (appM (get q.2) q.1).bind fun ys => some (ys, q.2)) fun q => .nx ((Γ q.2).set i (some (lstO E q.1))) := fun σ W F sta z hz Ed k => by
  obtain ⟨q, h1, h2⟩ := run1 hz
  obtain ⟨ys, h3, h4⟩ := run1 (f := fun ys : List α => some (ys, q.2)) h2
  cases h4
  unfold appM at h3
  split at h3
  · rename_i hlen
    cases h3
    refine ⟨tDrop (tBM S.K "list" rAppend (tVar i) (tCons (tOf S e) tNil)), fun X hX => ps_expr (hX.K ▸ pe_bm PySem.F.plainAttrs_list PySem.F.slot_list_append PySem.F.type_list_append mt_append (pe_var (by rw [hX.N]; exact hN) (visS hv hX) hd hcd) (pa_cons (peO hX) pa_nil (hs _)) (hbase _) (hfew _) hline (hs _) rfl) (hsw _), ?_⟩
    obtain ⟨v, F1, F2, a1, a2, a3, a4⟩ := sta.hold.at (hi s)
    obtain ⟨p, vs, G2, rfl, b2, rfl, b4⟩ := id a2
    refine ⟨.ref p, a1, .inl ⟨rfl, vs, .inl (.inl b2)⟩, h σ W F sta q h1 _ fun u W1 Fa Fv stp1 sa1 fp1 r => ?_⟩
    obtain ⟨v', F1', F2', c1, c2, c3, c4⟩ := sa1.hold.at (hi q.2)
    have ev : v' = .ref p := by rw [a1] at c1; exact (Option.some.inj (Option.some.inj c1)).symm
    subst ev
    obtain ⟨p', vs', G2', e1, d2, rfl, d4⟩ := c2
    cases e1
    have hB : W1.B p = none := (sa1.fp.perm c3).fr p (by simp)
    have fpA : FpOk W1 ((p :: G2') ++ Fv) := by
      have q2 : FpOk W1 (((p :: G2') ++ F2') ++ Fv) := fp1.perm (List.Perm.append_right Fv c3)
      refine FpOk.left (F' := F2') (q2.perm ?_)
      rw [List.append_assoc, List.append_assoc]
      exact List.Perm.append_left _ List.perm_append_comm
    refine ⟨p, vs', u, rfl, rfl, d2, lim_lt (by rw [d4.len]; exact hlen), ?_⟩
    have nP : ∀ a ∈ G2' ++ Fv, a ≠ p := fun a ha z => (List.nodup_cons.mp fpA.nd).1 (z ▸ ha)
    have A3 : Owns E W1 (vs' ++ [u]) (get q.2 ++ [q.1]) (G2' ++ Fv) := d4.app ⟨Fv, [], (List.append_nil _).symm, r, rfl⟩
    have A4 : Owns E ⟨upd W1.H p (.lst (vs' ++ [u])), W1.B⟩ (vs' ++ [u]) (get q.2 ++ [q.1]) (G2' ++ Fv) := Owns.loc (W := W1) (W' := ⟨upd W1.H p (.lst (vs' ++ [u])), W1.B⟩) (fun _ _ h => h) A3 fun a ha => by
      show upd W1.H p (.lst (vs' ++ [u])) a = W1.H a
      exact upd_ne (nP a ha)
    obtain ⟨F', s', stp⟩ := sta_own (W' := ⟨upd W1.H p (.lst (vs' ++ [u])), W1.B⟩) (F1' := p :: (G2' ++ Fv)) (o' := lstO E (get q.2 ++ [q.1])) Fv sa1 fp1 c1 c3 c4 (wr_ok sa1.ok hB) rfl (fun a ha _ => upd_ne fun z => ha (z ▸ List.mem_cons_self)) wr_al
      ⟨fpA.nd, fun a ha => wr_al a (fpA.al a ha), fpA.fr⟩ (fun a ha => by
        rcases List.mem_cons.mp ha with z | z
        · exact .inl (z ▸ List.mem_cons_self)
        · rcases List.mem_append.mp z with z | z
          · exact .inl (List.mem_cons_of_mem _ z)
          · exact .inr (.inl z)) ⟨p, vs' ++ [u], G2' ++ Fv, rfl, upd_same, rfl, A4⟩
    exact k σ _ F' Keep.refl (stp1.trans stp) s'
  · cases h3
/-- range of a drawn number -/
theorem jie_rng1 {p : Pos} {m : Option (Int × τ)} (hm : S.mg "range" = none) (h : JE S a Γ s m fun x => sh (intS x)) (hg : GlS S "range" := by rfl) (hs : ∀ env, starEach [a] env = [(false, eval a env)] := by intro _; rfl) :
    JIE S tg (.Call (.Name "range" p) [a] [] pos) Γ s (m.bind fun q => (rng 0 q.1).bind fun xs => some (xs, q.2)) intS := fun σ W F sta z hz R k => by
  obtain ⟨q, h1, h2⟩ := run1 hz
  obtain ⟨xs, h3, h4⟩ := run1 (f := fun xs : List Int => some (xs, q.2)) h2
  cases h4
  unfold rng at h3
  split at h3
  · rename_i hb
    cases h3
    refine ⟨iRng1 (tCons (tOf S a) tNil), fun X hX => pi_range1 (hg.gl hX) (mgS hm hX) (pa_cons (peO hX) pa_nil (hs _)) (hs _), h.sh sta h1 fun v W' F' stp sa r => ?_⟩
    cases r
    have z : (LIM : Int) = 1000000 := rfl
    refine ⟨q.1, rfl, by omega, by omega, ?_⟩
    have e : (q.1 - 0).toNat = q.1.toNat := by rw [Int.sub_zero]
    rw [← e]
    exact k _ W' F' stp sa (ok_rng fun W1 c => c.1)
  · cases h3
/-- for over a walk that is drawn -/
theorem js_forE {mi : Option (List α × τ)} {E : α → SP} {up : α → Ctx → Ctx} {ws : List Nat} {Γl : τ → υ → Ctx} {T : ρ → Kd} {f : τ → α → υ → Option (Out υ ρ)} (s0 : τ → υ) (hi : JIE S tg iter Γ s mi E) (hg : JG S tg E up ws) (w : ∀ s, Weak (Γ s) (Γl s (s0 s))) (hl : ∀ t s, ∀ i ∈ ws, i < (Γl t s).length)
    (hT : ∀ r, NoNx (T r) ∧ (∀ Δ, T r ≠ .bk Δ) ∧ ∀ Δ, T r ≠ .ct Δ) (hb : ∀ t x s, JB S A (up x (Γl t s)) (f t x s) (DL (Γl t) T)) (hs : ∀ env x, foldedSetIterable iter env x = pure x := by intro _ _; rfl) (hcm : S.calm = true := by rfl) :
    JS S (.For tg iter A [] pos) (Γ s) (mi.bind fun q => (loopGo (f q.2) q.1 (s0 q.2)).bind fun o => some (q.2, o)) fun o => DF (Γl o.1) T o.2 := fun σ W F sta z hz Ed k => by
  obtain ⟨q, h1, h2⟩ := run1 hz
  obtain ⟨o, h3, h4⟩ := run1 (f := fun o : Out υ ρ => some (q.2, o)) h2
  cases h4
  refine ⟨tFor (tiOf S tg iter) (tgOf S tg) (tbOf S A), fun X hX => ps_for hX.pass (hX.calm.trans hcm) (piO hX) (pgO hX) (pbO hX) (hs _), ?_⟩
  refine hi σ W F sta q h1 _ fun J W' Fi stp0 sai iok => ?_
  obtain ⟨F0, sa0, sub0⟩ := sai.weak (w q.2)
  refine ⟨fun i m σ1 H => m = q.1.length - i ∧ i ≤ q.1.length ∧ ∃ (W1 : Wd) (F1 : List Addr) (s : υ), W1.H = H ∧ Keep S.prot σ σ1 ∧ Stp W' Fi W1 F1 ∧ Sta (Γl q.2 s) σ1 W1 F1 ∧ loopGo (f q.2) (q.1.drop i) s = some o,
    ⟨q.1.length, by simp, Nat.zero_le _, W', F0, s0 q.2, rfl, Keep.refl, (Stp.refl sai.ok).perm sub0, sa0, by simpa using h3⟩, ?_⟩
  rintro i m σ1 H ⟨rfl, hi', W1, F1, s, rfl, kp, stp, sa, go⟩
  obtain ⟨iok1, iok2⟩ := iok W1 ⟨sa.ok, stp.b⟩
  by_cases hlt : i < q.1.length
  · obtain ⟨g1, g2⟩ := iok1 i q.1[i] (List.getElem?_eq_getElem hlt)
    refine .inr ⟨g1, fun σ' H' => ∃ m', m' < q.1.length - i ∧ (m' = q.1.length - (i + 1) ∧ i + 1 ≤ q.1.length ∧ ∃ (W1 : Wd) (F1 : List Addr) (s : υ), W1.H = H' ∧ Keep S.prot σ σ' ∧ Stp W' Fi W1 F1 ∧ Sta (Γl q.2 s) σ' W1 F1 ∧ loopGo (f q.2) (q.1.drop (i + 1)) s = some o), fun σ' H' h => h, fun v H' y => ?_⟩
    obtain ⟨W2, rfl, e2, p2⟩ := g2 v H' y
    refine hg (Γl q.2 s) σ1 W2 F1 q.1[i] v (sa.ext e2) (hl _ s) p2 _ fun σ2 F2 _ kp2 sa2 sub2 => ?_
    rw [List.drop_eq_getElem_cons hlt] at go
    obtain ⟨oo, o1, o2⟩ := run1 (f := fun o : Out υ ρ => o.step fun s' => loopGo (f q.2) (q.1.drop (i + 1)) s') go
    have stpA : Stp W' Fi W2 F2 := (stp.trans e2.stp0).perm sub2
    refine hb q.2 q.1[i] s σ2 W2 F2 sa2 oo o1 _ ?_
    cases oo with
    | nx s' => exact fun σ3 W3 F3 k3 t3 a3 => ⟨q.1.length - (i + 1), by omega, rfl, hlt, W3, F3, s', rfl, (kp.trans kp2).trans k3, stpA.trans t3, a3, o2⟩
    | ct s' => exact fun σ3 W3 F3 k3 t3 a3 => ⟨q.1.length - (i + 1), by omega, rfl, hlt, W3, F3, s', rfl, (kp.trans kp2).trans k3, stpA.trans t3, a3, o2⟩
    | bk s' =>
      cases o2
      exact fun σ3 W3 F3 k3 t3 a3 => k σ3 W3 F3 ((kp.trans kp2).trans k3) (stp0.trans (stpA.trans t3)) a3
    | rt r =>
      cases o2
      obtain ⟨n1, n2, n3⟩ := hT r
      have k' : Post S.W S.prot σ W F Ed (T r) := k
      show Post S.W S.prot σ2 W2 F2 _ (T r)
      have k'' := k'.before (kp.trans kp2) (stp0.trans stpA)
      generalize hq : T r = qq at k'' n1
      cases qq with
      | nx Γ => exact n1.elim
      | bk Γ => exact absurd hq (n2 Γ)
      | ct Γ => exact absurd hq (n3 Γ)
      | rt Γ R => exact k''
      | xc Γ R => exact k''
  · have ei : i = q.1.length := by omega
    subst ei
    rw [List.drop_length] at go
    cases go
    exact .inl ⟨iok2 _ (Nat.le_refl _), k σ1 W1 F1 kp (stp0.trans stp) sa⟩
end
end CC
set_option maxHeartbeats 4000000
/-! Comprehensions whose items change what is owned; further operations. -/
namespace CC
open PySem PySem.Spec L2
open PyProof.Rows hiding St
variable {α β γ δ τ ω ρ υ : Type}
def compGoE (t : α → τ → Option (Bool × τ)) (f : α → τ → Option (β × τ)) : List α → τ → Option (List β × τ)
  | [], s => some ([], s)
  | x :: xs, s => (t x s).bind fun b => bif b.1 then (f x b.2).bind fun y => (compGoE t f xs y.2).bind fun r => some (y.1 :: r.1, r.2) else compGoE t f xs b.2
def compME (t : α → τ → Option (Bool × τ)) (f : α → τ → Option (β × τ)) (xs : List α) (s : τ) : Option (List β × τ) := if xs.length ≤ LIM then compGoE t f xs s else none
def mapGoE (f : α → τ → Option (β × τ)) : List α → τ → Option (List β × τ)
  | [], s => some ([], s)
  | x :: xs, s => (f x s).bind fun y => (mapGoE f xs y.2).bind fun r => some (y.1 :: r.1, r.2)
def mapME (f : α → τ → Option (β × τ)) (xs : List α) (s : τ) : Option (List β × τ) := if xs.length ≤ LIM then mapGoE f xs s else none
theorem compGoE_yes (f : α → τ → Option (β × τ)) : ∀ (xs : List α) (s : τ), compGoE (fun _ s => some (true, s)) f xs s = mapGoE f xs s
  | [], s => rfl
  | x :: xs, s => by
    show (f x s).bind (fun y => (compGoE (fun _ s => some (true, s)) f xs y.2).bind fun r => some (y.1 :: r.1, r.2)) = (f x s).bind fun y => (mapGoE f xs y.2).bind fun r => some (y.1 :: r.1, r.2)
    congr 1
    funext y
    rw [compGoE_yes f xs y.2]
theorem mapM_eq (f : α → Option β) (xs : List α) : compM (fun _ => some true) f xs = mapM f xs := by
  unfold compM mapM
  rw [compGo_yes]
theorem mapME_eq (f : α → τ → Option (β × τ)) (xs : List α) (s : τ) : compME (fun _ s => some (true, s)) f xs s = mapME f xs s := by
  unfold compME mapME
  rw [compGoE_yes]
theorem Holds.move {W : Wd} : ∀ {Γ Δ : Ctx} {σ σ2 : L2.St} {F : List Addr}, Γ.length = Δ.length → (∀ (i : Nat) (o : OP), Γ[i]? = some (some o) → Δ[i]? = some (some o) ∧ σ2[i]? = σ[i]?) → Holds Δ σ2 W F → ∃ F' G, Holds Γ σ W F' ∧ F.Perm (F' ++ G)
  | [], [], σ, σ2, F, _, _, h => ⟨[], F, rfl, .refl _⟩
  | [], _ :: _, _, _, _, h, _, _ => by simp at h
  | _ :: _, [], _, _, _, h, _, _ => by simp at h
  | g :: Γ, d :: Δ, σ, σ2, F, hl, hi, h => by
    have hi' : ∀ (i : Nat) (o : OP), Γ[i]? = some (some o) → Δ[i]? = some (some o) ∧ σ2.tail[i]? = σ.tail[i]? := fun i o e => by
      have q := hi (i + 1) o (by simpa using e)
      refine ⟨by simpa using q.1, ?_⟩
      rw [List.getElem?_tail, List.getElem?_tail]
      exact q.2
    have hl' : Γ.length = Δ.length := by simpa using hl
    cases g with
    | none =>
      cases d with
      | none => exact Holds.move (Γ := Γ) (Δ := Δ) (σ := σ.tail) (σ2 := σ2.tail) hl' hi' h
      | some o =>
        obtain ⟨v, F1, F2, h1, h2, h3, h4⟩ := h
        obtain ⟨F', G, a1, a2⟩ := Holds.move (Γ := Γ) (Δ := Δ) (σ := σ.tail) (σ2 := σ2.tail) hl' hi' h4
        subst h2
        refine ⟨F', G ++ F1, a1, ?_⟩
        rw [← List.append_assoc]
        exact (List.Perm.append_left F1 a2).trans List.perm_append_comm
    | some o =>
      obtain ⟨e1, e2⟩ := hi 0 o rfl
      have : d = some o := by simpa using e1
      subst this
      obtain ⟨v, F1, F2, h1, h2, h3, h4⟩ := h
      obtain ⟨F', G, a1, a2⟩ := Holds.move (Γ := Γ) (Δ := Δ) (σ := σ.tail) (σ2 := σ2.tail) hl' hi' h4
      subst h2
      refine ⟨F1 ++ F', G, ⟨v, F1, F', ?_, rfl, h3, a1⟩, ?_⟩
      · rw [List.head?_eq_getElem?] at h1 ⊢
        rw [← e2]
        exact h1
      · rw [List.append_assoc]
        exact List.Perm.append_left F1 a2
def JTsE (S : Stc) (ifs : List Expr) (Γ : τ → Ctx) (s : τ) (m : Option (Bool × τ)) : Prop :=
  ∀ σ W F, Sta (Γ s) σ W F → ∀ x, m = some x → ∀ Q : Bool → Hp → Prop, (∀ W' F', Stp W F W' F' → Sta (Γ x.2) σ W' F' → Q x.1 W'.H) → ttsOf S ifs σ W.H Q
def JCE (S : Stc) (elt tg iter : Expr) (ifs : List Expr) (scope : Scope) (Γ : τ → Ctx) (s : τ) (m : Option (α × τ)) (R : α → OP) : Prop :=
  ∃ own : List (Str × Nat), BlkOk S.N S.sc scope own ∧ ∀ σ W F, Sta (Γ s) σ W F → ∀ x, m = some x → ∀ Q : VK, (∀ v W' F' Fv, Stp W F W' (F' ++ Fv) → Sta (Γ x.2) σ W' F' → FpOk W' (F' ++ Fv) → (R x.1).C W' v Fv → Q v W'.H) →
    tLc (tiOf S tg iter) (tgOf (S.blk scope) tg) (ttsOf (S.blk scope) ifs) (tOf (S.blk scope) elt) (own.map (·.2)) σ W.H Q
section
variable {S : Stc} {Γ : τ → Ctx} {s : τ} {a b c e tg iter elt : Expr} {es ifs : List Expr} {pos : Pos} {st : Stmt} {rest A B : List Stmt}
theorem jtse_nil : JTsE S [] Γ s (some (true, s)) := fun σ W F sta b hb Q k => by
  cases hb
  exact ⟨tYes, fun _ _ => pts_nil, k W F (Stp.refl sta.ok) sta⟩
theorem jtse_one {m : Option (Bool × τ)} (h : JTE S c Γ s m) : JTsE S [c] Γ s m := fun σ W F sta b hb Q k => ⟨ttOf S c, fun X hX => pts_one (ptO hX), h σ W F sta b hb Q k⟩
theorem je_lc {scope : Scope} {m : Option (α × τ)} {R : α → OP} (nd : S.N.Nodup) (h : JCE S elt tg iter ifs scope Γ s m R) (hs : ∀ env x, foldedSetIterable iter env x = pure x := by intro _ _; rfl) (hcm : S.calm = true := by rfl) : JE S (.ListComp elt [⟨tg, iter, ifs, 0⟩] scope pos) Γ s m R := fun σ W F sta x hx Q k => by
  obtain ⟨own, ok, go⟩ := h
  exact ⟨_, fun X hX => pe_lc (hX.calm.trans hcm) (by rw [hX.N]; exact nd) (piO hX) (by rw [hX.N, hX.sc]; exact ok) (fun s H C cl fp => pgO (hX.blk scope s H C cl fp)) (fun s H C cl fp => ptsO (hX.blk scope s H C cl fp)) (fun s H C cl fp => peO (hX.blk scope s H C cl fp)) (hs _), go σ W F sta x hx Q k⟩
theorem js_setLcE {x : Str} {py spos : Pos} {scope : Scope} {m : Option (α × τ)} {R : α → OP} (i : Nat) (nd : S.N.Nodup) (h : JCE S elt tg iter ifs scope Γ s m R) (hi : ∀ s, ((Γ s)[i]?).isSome = true := by intro _; rfl) (hN : S.N[i]? = some x := by rfl) (hx : S.sc.names.lookup x = some .local := by rfl) (hp : (S.prot.contains i) = false := by rfl)
    (hk : S.sc.kind = .function := by rfl) (hl : (py.line == pos.line) = true := by rfl) (hown : (scope.names.any fun (n, k) => n == x && (k == .local || k == .cell)) = false := by decide +kernel) (hs : ∀ env x, foldedSetIterable iter env x = pure x := by intro _ _; rfl) (hcm : S.calm = true := by rfl) :
    JS S (.Assign [.Name x py] (.ListComp elt [⟨tg, iter, ifs, 0⟩] scope pos) spos) (Γ s) m fun q => .nx ((Γ q.2).set i (some (R q.1))) := fun σ W F sta y hy E k => by
  obtain ⟨own, ok, go⟩ := h
  refine ⟨_, fun X hX => ps_setLc (hX.calm.trans hcm) (by rw [hX.N]; exact nd) (by rw [hX.N]; exact hN) (by rw [hX.sc]; exact hx) (sw_true (by rw [hX.sc]; exact hk) (by rw [hX.sc]; exact hx) hl hown) (piO hX) (by rw [hX.N, hX.sc]; exact ok) (fun s H C cl fp => pgO (hX.blk scope s H C cl fp)) (fun s H C cl fp => ptsO (hX.blk scope s H C cl fp)) (fun s H C cl fp => peO (hX.blk scope s H C cl fp)) (hs _), go σ W F sta y hy _ fun v W' F' Fv stp sa fp r => ?_⟩
  have hl : i < (Γ y.2).length := by
    have := hi y.2
    cases h : (Γ y.2)[i]? with
    | none => rw [h] at this; cases this
    | some o => exact (List.getElem?_eq_some_iff.mp h).1
  obtain ⟨F2, s', sub⟩ := sa.put hl r fp
  exact k _ W' F2 (Keep.set (ncon hp)) (stp.perm sub) s'
theorem wipeC_get {Γ : Ctx} {i : Nat} : ∀ {vs : List Nat}, i ∉ vs → (wipeC Γ vs)[i]? = Γ[i]?
  | [], _ => rfl
  | v :: vs, h => by
    show ((wipeC Γ vs).set v none)[i]? = _
    rw [List.getElem?_set_ne fun z => h (by rw [z]; exact List.mem_cons_self), wipeC_get fun z => h (List.mem_cons_of_mem _ z)]
/-- the block's turns; the block's own slots hold nothing outside -/
theorem jce_of {scope : Scope} {mi : Option (List α × τ)} {E : α → SP} {up : α → Ctx → Ctx} {ws : List Nat} {mt : α → τ → Option (Bool × τ)} {me : α → τ → Option (β × τ)} {R : β → OP} (own : List (Str × Nat)) (hi : JIE S tg iter Γ s mi E) (ok : blkC S.N S.sc scope own = true) (hg : JG (S.blk scope) tg E up ws)
    (hw : ∀ i ∈ ws, i ∈ own.map (·.2)) (hl : ∀ s, ∀ i ∈ ws, i < (Γ s).length) (hu : ∀ x Γ i, i ∉ ws → (up x Γ)[i]? = Γ[i]?) (hul : ∀ x Γ, (up x Γ).length = Γ.length) (hz : ∀ s, ∀ i ∈ own.map (·.2), (Γ s)[i]? = some none)
    (ht : ∀ x s, JTsE (S.blk scope) ifs (fun s => up x (wipeC (Γ s) (own.map (·.2)))) s (mt x s)) (he : ∀ x s, JE (S.blk scope) elt (fun s => up x (wipeC (Γ s) (own.map (·.2)))) s (me x s) R) :
    JCE S elt tg iter ifs scope Γ s (mi.bind fun q => compME mt me q.1 q.2) fun ys => lstO R ys := by
  refine ⟨own, blkOk_by ok, fun σ W F sta ys hx Q k => ?_⟩
  obtain ⟨q0, h1, h2⟩ := run1 hx
  unfold compME at h2
  split at h2
  · rename_i hlen
    refine hi σ W F sta q0 h1 _ fun J W' Fi stp0 sai iok => fun D hD => ?_
    have back : ∀ {x : α} {s : τ} {σ2 : L2.St} {W1 : Wd} {F1 : List Addr}, (∀ i, i ∉ own.map (·.2) → σ2[i]? = σ[i]?) → Sta (up x (wipeC (Γ s) (own.map (·.2)))) σ2 W1 F1 → ∃ F', Sta (Γ s) σ W1 F' ∧ ∀ a ∈ F', a ∈ F1 := by
      intro x s σ2 W1 F1 hσ sa
      have hlen : (Γ s).length = (up x (wipeC (Γ s) (own.map (·.2)))).length := by rw [hul, wipeC_len]
      obtain ⟨F', G, a1, a2⟩ := sa.hold.move (Γ := Γ s) (σ := σ) hlen fun i o e => by
        have hn : i ∉ own.map (·.2) := fun z => by
          rw [hz s i z] at e
          cases e
        refine ⟨?_, hσ i hn⟩
        rw [hu x _ i fun z => hn (hw i z), wipeC_get hn]
        exact e
      refine ⟨F', ⟨sa.ok, (sa.fp.perm a2).left, ?_, a1⟩, fun a ha => a2.mem_iff.mpr (List.mem_append_left _ ha)⟩
      have l1 : σ.length = (Γ s).length := by
        have e1 := sai.len
        have e2 : (Γ q0.2).length = σ.length := e1.symm
        have e3 := sa.len
        -- all contexts have the slots' number
        rw [hul, wipeC_len] at e3
        have e4 : σ2.length = σ.length := by
          have i1 : ∀ i, i ∉ own.map (·.2) → σ2[i]? = σ[i]? := hσ
          refine Nat.le_antisymm ?_ ?_
          · refine Nat.le_of_not_lt fun h => ?_
            by_cases hm : σ.length ∈ own.map (·.2)
            · have := hz q0.2 _ hm
              rw [List.getElem?_eq_none (by omega)] at this
              cases this
            · have := i1 σ.length hm
              rw [List.getElem?_eq_getElem h, List.getElem?_eq_none (Nat.le_refl _)] at this
              cases this
          · refine Nat.le_of_not_lt fun h => ?_
            by_cases hm : σ2.length ∈ own.map (·.2)
            · have := hz s _ hm
              rw [List.getElem?_eq_none (by omega)] at this
              cases this
            · have := i1 σ2.length hm
              rw [List.getElem?_eq_getElem h, List.getElem?_eq_none (Nat.le_refl _)] at this
              cases this
        omega
      exact l1
    refine ⟨fun i m H => m = q0.1.length - i ∧ i ≤ q0.1.length ∧ ∃ (W1 : Wd) (Fs : List Addr) (s : τ) (acc : List V) (as : List β) (bs : List β × τ) (Fa : List Addr), W1.H = H ∧ Stp W F W1 (Fs ++ (D :: Fa)) ∧ Ex W'.B W1.B ∧ Sta (Γ s) σ W1 Fs ∧ W1.H D = some (.lst acc) ∧ as.length ≤ i ∧
      compGoE mt me (q0.1.drop i) s = some bs ∧ (as ++ bs.1, bs.2) = ys ∧ Owns R W1 acc as Fa ∧ FpOk W1 (Fs ++ (D :: Fa)),
      ⟨q0.1.length, by simp, Nat.zero_le _, ⟨upd W'.H D (.lst []), W'.B⟩, Fi, q0.2, [], [], ys, [], rfl, ?_, Ex.refl _, sai.ext (Ext.new sai.ok hD), upd_same, Nat.le_refl _, by simpa using h2, rfl, rfl, ?_⟩, ?_⟩
    · refine stp0.trans ((Ext.new (o := .lst []) sai.ok hD).stp fun a ha => ?_)
      rw [List.mem_singleton.mp ha]
      exact hD
    · exact sai.fp.fresh (Ext.new (o := .lst []) sai.ok hD) (fp_one (sai.ok.back hD)) fun a ha => by rw [List.mem_singleton.mp ha]; exact hD
    rintro i m H ⟨rfl, hi', W1, Fs, s1, acc, as, bs, Fa, rfl, stp1, eb1, sa1, d1, la, c1, c2, o1, f1⟩
    obtain ⟨iok1, iok2⟩ := iok W1 ⟨sa1.ok, eb1⟩
    by_cases hlt : i < q0.1.length
    · obtain ⟨g1, g2⟩ := iok1 i q0.1[i] (List.getElem?_eq_getElem hlt)
      refine .inr ⟨g1, fun H' => ∃ m', m' < q0.1.length - i ∧ (m' = q0.1.length - (i + 1) ∧ i + 1 ≤ q0.1.length ∧ ∃ (W1 : Wd) (Fs : List Addr) (s : τ) (acc : List V) (as : List β) (bs : List β × τ) (Fa : List Addr), W1.H = H' ∧ Stp W F W1 (Fs ++ (D :: Fa)) ∧ Ex W'.B W1.B ∧ Sta (Γ s) σ W1 Fs ∧ W1.H D = some (.lst acc) ∧ as.length ≤ i + 1 ∧
        compGoE mt me (q0.1.drop (i + 1)) s = some bs ∧ (as ++ bs.1, bs.2) = ys ∧ Owns R W1 acc as Fa ∧ FpOk W1 (Fs ++ (D :: Fa))), fun H' h => h, fun v H' y => ?_⟩
      obtain ⟨W2, rfl, e2, p2⟩ := g2 v H' y
      have hDrop : q0.1.drop i = q0.1[i] :: q0.1.drop (i + 1) := List.drop_eq_getElem_cons hlt
      rw [hDrop] at c1
      obtain ⟨b, t1, t2⟩ := run1 (f := fun b : Bool × τ => bif b.1 then (me q0.1[i] b.2).bind fun y => (compGoE mt me (q0.1.drop (i + 1)) y.2).bind fun r => some (y.1 :: r.1, r.2) else compGoE mt me (q0.1.drop (i + 1)) b.2) c1
      obtain ⟨Fw, sw, subw⟩ := (sa1.ext e2).wipe (own.map (·.2))
      refine hg _ _ W2 Fw q0.1[i] v sw (fun j hj => by rw [wipeC_len]; exact hl s1 j hj) p2 _ fun σ2 F2 wp _ s2 sub2 => ?_
      have hσ : ∀ i, i ∉ own.map (·.2) → σ2[i]? = σ[i]? := fun i hn => by
        have e := wp _ hw
        have e1 : (wipe σ2 (own.map (·.2)))[i]? = (wipe (wipe σ (own.map (·.2))) (own.map (·.2)))[i]? := by rw [e]
        rw [wipe_out hn, wipe_out hn, wipe_out hn] at e1
        exact e1
      refine ⟨by rw [wp _ hw]; exact jc_of.wipe_wipe σ (own.map (·.2)), ?_⟩
      have sub12 : ∀ a ∈ F2, a ∈ Fs := fun a ha => subw a (sub2 a ha)
      refine ht q0.1[i] s1 σ2 W2 F2 s2 b t1 _ fun W3 F3 stp3 sa3 => ?_
      -- what is owned beside the block stays
      have keep3 : ∀ a, a ∈ D :: Fa → W3.H a = W1.H a := fun a ha => by
        have n1 : a ∉ Fs := fun z => f1.disj a z ha
        have al := f1.al a (List.mem_append_right _ ha)
        have h2 := e2.h.eq al
        cases q : W2.H a with
        | none => rw [h2] at q; exact absurd q al
        | some o => rw [stp3.h a o q fun z => n1 (sub12 a z), ← q, h2]
      have fr3 : ∀ a, a ∈ D :: Fa → W3.B a = none := fun a ha => by
        have n1 : a ∉ Fs := fun z => f1.disj a z ha
        have al := f1.al a (List.mem_append_right _ ha)
        exact stp3.fr a (e2.h.ne al) (e2.fr a al (f1.fr a (List.mem_append_right _ ha))) fun z => n1 (sub12 a z)
      have al3 : ∀ a, a ∈ D :: Fa → W3.H a ≠ none := fun a ha => by rw [keep3 a ha]; exact f1.al a (List.mem_append_right _ ha)
      have stp13 : Stp W1 Fs W3 F3 := (((e2.stp0 (F := Fs)).perm sub12).trans stp3)
      have stpT : ∀ {W4 : Wd} {F4 G : List Addr}, Stp W1 Fs W4 (F4 ++ G) → Stp W1 (Fs ++ (D :: Fa)) W4 (F4 ++ ((D :: Fa) ++ G)) := fun {W4 F4 G} st => by
        refine ⟨st.ok, st.b, fun a o h n => st.h a o h fun z => n (List.mem_append_left _ z), st.al, fun a h1 h2 n => st.fr a h1 h2 fun z => n (List.mem_append_left _ z), fun a ha => ?_⟩
        rcases List.mem_append.mp ha with z | z
        · exact (st.fp a (List.mem_append_left _ z)).imp (fun w => List.mem_append_left _ w) id
        · rcases List.mem_append.mp z with z | z
          · exact .inl (List.mem_append_right _ z)
          · exact (st.fp a (List.mem_append_right _ z)).imp (fun w => List.mem_append_left _ w) id
      obtain ⟨b1, b2⟩ := b
      cases b1 with
      | true =>
        obtain ⟨y1, t3, t4⟩ := run1 (f := fun y : β × τ => (compGoE mt me (q0.1.drop (i + 1)) y.2).bind fun r => some (y.1 :: r.1, r.2)) t2
        obtain ⟨r1, t5, t6⟩ := run1 (f := fun r : List β × τ => some (y1.1 :: r.1, r.2)) t4
        cases t6
        refine iteT (he q0.1[i] b2 σ2 W3 F3 sa3 y1 t3 _ fun u W4 F4 Fu stp4 sa4 fp4 r4 => ?_)
        obtain ⟨F5, sa5, sub5⟩ := back hσ sa4
        have stp14 : Stp W1 Fs W4 (F4 ++ Fu) := stp13.trans stp4
        have keep4 : ∀ a, a ∈ D :: Fa → W4.H a = W1.H a := fun a ha => by
          have n1 : a ∉ Fs := fun z => f1.disj a z ha
          have al := f1.al a (List.mem_append_right _ ha)
          cases q : W1.H a with
          | none => exact absurd q al
          | some o => exact stp14.h a o q n1
        have fr4 : ∀ a, a ∈ D :: Fa → W4.B a = none := fun a ha => by
          have n1 : a ∉ Fs := fun z => f1.disj a z ha
          exact stp14.fr a (f1.al a (List.mem_append_right _ ha)) (f1.fr a (List.mem_append_right _ ha)) n1
        have hD4 : W4.H D = some (.lst acc) := (keep4 D List.mem_cons_self).trans d1
        have ha4 : acc.length < LIM := by
          have := o1.len
          omega
        have nd1 := List.nodup_cons.mp f1.right.nd
        have apart : ∀ a ∈ F4 ++ Fu, a ∉ D :: Fa := fun a ha z => by
          rcases stp14.fp a ha with w | w
          · exact f1.disj a w z
          · exact f1.al a (List.mem_append_right _ z) w
        have nD : ∀ a ∈ Fa ++ Fu, a ≠ D := fun a ha z => by
          rcases List.mem_append.mp ha with h | h
          · exact nd1.1 (z ▸ h)
          · exact apart a (List.mem_append_right _ h) (z ▸ List.mem_cons_self)
        have nD5 : ∀ a ∈ F5, a ≠ D := fun a ha z => apart a (List.mem_append_left _ (sub5 a ha)) (z ▸ List.mem_cons_self)
        have A1 : Owns R W4 acc as Fa := o1.loc stp14.b fun a ha => keep4 a (List.mem_cons_of_mem _ ha)
        have A3 : Owns R W4 (acc ++ [u]) (as ++ [y1.1]) (Fa ++ Fu) := A1.app ⟨Fu, [], (List.append_nil _).symm, r4, rfl⟩
        have fA : FpOk W4 (F5 ++ ((D :: Fa) ++ Fu)) := by
          have x1 : FpOk W4 (D :: Fa) := ⟨f1.right.nd, fun a ha => by rw [keep4 a ha]; exact f1.al a (List.mem_append_right _ ha), fr4⟩
          have x2 : FpOk W4 ((D :: Fa) ++ Fu) := x1.app fp4.right fun a ha z => apart a (List.mem_append_right _ z) ha
          refine sa5.fp.app x2 fun a ha z => ?_
          rcases List.mem_append.mp z with z | z
          · exact apart a (List.mem_append_left _ (sub5 a ha)) z
          · exact fp4.disj a (sub5 a ha) z
        have hBD : W4.B D = none := fr4 D List.mem_cons_self
        refine ⟨acc, hD4, lim_lt ha4, q0.1.length - (i + 1), by omega, rfl, hlt, ⟨upd W4.H D (.lst (acc ++ [u])), W4.B⟩, F5, y1.2, acc ++ [u], as ++ [y1.1], r1, Fa ++ Fu, rfl, ?_, eb1.trans stp14.b, ?_, upd_same, ?_, t5, ?_, ?_, ?_⟩
        · have z1 : Stp W F W4 (F4 ++ ((D :: Fa) ++ Fu)) := stp1.trans (stpT stp14)
          have z2 : Stp W F W4 (F5 ++ ((D :: Fa) ++ Fu)) := z1.perm fun a ha => by
            rcases List.mem_append.mp ha with h | h
            · exact List.mem_append_left _ (sub5 a h)
            · exact List.mem_append_right _ h
          refine z2.trans ⟨wr_ok sa5.ok hBD, Ex.refl _, fun a o h n => ?_, wr_al, fun a _ h2 _ => h2, fun a ha => .inl ha⟩
          show upd W4.H D _ a = some o
          rw [upd_ne fun z => n (by rw [z]; simp)]
          exact h
        · refine ⟨wr_ok sa5.ok hBD, ⟨sa5.fp.nd, fun a ha => wr_al a (sa5.fp.al a ha), sa5.fp.fr⟩, sa5.len, Holds.loc (W := W4) (W' := ⟨upd W4.H D (.lst (acc ++ [u])), W4.B⟩) (fun _ _ h => h) sa5.hold fun a ha => ?_⟩
          show upd W4.H D _ a = W4.H a
          exact upd_ne (nD5 a ha)
        · rw [List.length_append, List.length_singleton]
          omega
        · rw [← c2]
          simp
        · exact Owns.loc (W := W4) (W' := ⟨upd W4.H D (.lst (acc ++ [u])), W4.B⟩) (fun _ _ h => h) A3 fun a ha => by
            show upd W4.H D (.lst (acc ++ [u])) a = W4.H a
            exact upd_ne (nD a ha)
        · exact ⟨fA.nd, fun a ha => wr_al a (fA.al a ha), fA.fr⟩
      | false =>
        obtain ⟨F5, sa5, sub5⟩ := back hσ sa3
        have stp14 : Stp W1 Fs W3 (F3 ++ []) := by rw [List.append_nil]; exact stp13
        refine iteF ⟨q0.1.length - (i + 1), by omega, rfl, hlt, W3, F5, b2, acc, as, bs, Fa, rfl, ?_, eb1.trans stp13.b, sa5, (keep3 D List.mem_cons_self).trans d1, by omega, t2, c2, o1.loc stp13.b fun a ha => keep3 a (List.mem_cons_of_mem _ ha), ?_⟩
        · have z1 := stp1.trans (stpT stp14)
          rw [List.append_nil] at z1
          exact z1.perm fun a ha => by
            rcases List.mem_append.mp ha with h | h
            · exact List.mem_append_left _ (sub5 a h)
            · exact List.mem_append_right _ h
        · refine sa5.fp.app ⟨f1.right.nd, al3, fr3⟩ fun a ha z => ?_
          rcases stp13.fp a (sub5 a ha) with w | w
          · exact f1.disj a w z
          · exact f1.al a (List.mem_append_right _ z) w
    · have ei : i = q0.1.length := by omega
      subst ei
      rw [List.drop_length] at c1
      cases c1
      rw [List.append_nil] at c2
      subst c2
      exact .inl ⟨iok2 _ (Nat.le_refl _), k (.ref D) W1 Fs (D :: Fa) stp1 sa1 f1 ⟨D, acc, Fa, rfl, d1, rfl, o1⟩⟩
  · cases h2
/-- what a target changes -/
theorem up1 {E : α → SP} (i : Nat) : ∀ (x : α) (Γ : Ctx) (j : Nat), j ∉ [i] → (Γ.set i (some (sh (E x))))[j]? = Γ[j]? := fun x Γ j h => List.getElem?_set_ne fun z => h (by simp [z])
theorem up1l {E : α → SP} (i : Nat) : ∀ (x : α) (Γ : Ctx), (Γ.set i (some (sh (E x)))).length = Γ.length := fun x Γ => List.length_set
theorem up2 {E : α → SP} {G : β → SP} (i k : Nat) : ∀ (x : α × β) (Γ : Ctx) (j : Nat), j ∉ [i, k] → ((Γ.set i (some (sh (E x.1)))).set k (some (sh (G x.2))))[j]? = Γ[j]? := fun x Γ j h => by
  rw [List.getElem?_set_ne fun z => h (by simp [z]), List.getElem?_set_ne fun z => h (by simp [z])]
theorem up2l {E : α → SP} {G : β → SP} (i k : Nat) : ∀ (x : α × β) (Γ : Ctx), ((Γ.set i (some (sh (E x.1)))).set k (some (sh (G x.2)))).length = Γ.length := fun x Γ => by rw [List.length_set, List.length_set]
/-- without tests -/
theorem JC.cong {scope : Scope} {Γ : Ctx} {m m' : Option α} {R : α → OP} (h : JC S elt tg iter ifs scope Γ m R) (q : m = m') : JC S elt tg iter ifs scope Γ m' R := q ▸ h
theorem JCE.cong {scope : Scope} {m m' : Option (α × τ)} {R : α → OP} (h : JCE S elt tg iter ifs scope Γ s m R) (q : m = m') : JCE S elt tg iter ifs scope Γ s m' R := q ▸ h
theorem jc_map {scope : Scope} {Γ : Ctx} {mi : Option (List α)} {E : α → SP} {up : α → Ctx → Ctx} {ws : List Nat} {me : α → Option β} {R : β → OP} (own : List (Str × Nat)) (hi : JIc S tg iter Γ mi E) (ok : blkC S.N S.sc scope own = true) (hg : JG (S.blk scope) tg E up ws)
    (hw : ∀ i ∈ ws, i ∈ own.map (·.2)) (hl : ∀ i ∈ ws, i < Γ.length) (he : ∀ x, JN (S.blk scope) elt (up x (wipeC Γ (own.map (·.2)))) (me x) R) : JC S elt tg iter [] scope Γ (mi.bind fun xs => mapM me xs) fun ys => lstO R ys :=
  (jc_of own hi ok hg hw hl (fun _ => jts_nil) he).cong (by simp only [mapM_eq])
theorem jce_map {scope : Scope} {mi : Option (List α × τ)} {E : α → SP} {up : α → Ctx → Ctx} {ws : List Nat} {me : α → τ → Option (β × τ)} {R : β → OP} (own : List (Str × Nat)) (hi : JIE S tg iter Γ s mi E) (ok : blkC S.N S.sc scope own = true) (hg : JG (S.blk scope) tg E up ws)
    (hw : ∀ i ∈ ws, i ∈ own.map (·.2)) (hl : ∀ s, ∀ i ∈ ws, i < (Γ s).length) (hu : ∀ x Γ i, i ∉ ws → (up x Γ)[i]? = Γ[i]?) (hul : ∀ x Γ, (up x Γ).length = Γ.length) (hz : ∀ s, ∀ i ∈ own.map (·.2), (Γ s)[i]? = some none)
    (he : ∀ x s, JE (S.blk scope) elt (fun s => up x (wipeC (Γ s) (own.map (·.2)))) s (me x s) R) : JCE S elt tg iter [] scope Γ s (mi.bind fun q => mapME me q.1 q.2) fun ys => lstO R ys :=
  (jce_of own hi ok hg hw hl hu hul hz (fun _ _ => jtse_nil) he).cong (by simp only [mapME_eq])
end
end CC
set_option maxHeartbeats 4000000
/-! Further rules: keywords, moves, sorting, isinstance. -/
namespace CC
open PySem PySem.Spec L2
open PyProof.Rows hiding St
variable {α β γ δ τ ω ρ υ : Type}
/-! ### what is reckoned -/
def maskC : List Bool → Ctx → Ctx
  | b :: bs, e :: Γ => (if b then e else none) :: maskC bs Γ
  | _, Γ => Γ.map fun _ => none
theorem weak_none : ∀ Γ : Ctx, Weak Γ (Γ.map fun _ => none)
  | [] => .nil
  | _ :: Γ => .drop (weak_none Γ)
theorem weak_mask : ∀ (bs : List Bool) (Γ : Ctx), Weak Γ (maskC bs Γ)
  | [], [] => .nil
  | [], e :: Γ => .drop (weak_none Γ)
  | _ :: _, [] => .nil
  | true :: bs, e :: Γ => .same (weak_mask bs Γ)
  | false :: bs, e :: Γ => .drop (weak_mask bs Γ)
theorem all_lt {ws : List Nat} {Γ : Ctx} (h : (ws.all fun i => (Γ[i]?).isSome) = true) : ∀ i ∈ ws, i < Γ.length := fun i hi => by
  have := List.all_eq_true.mp h i hi
  cases q : Γ[i]? with
  | none => rw [q] at this; cases this
  | some o => exact (List.getElem?_eq_some_iff.mp q).1
def isNon : Option (Option OP) → Bool
  | some none => true
  | _ => false
theorem all_non {ws : List Nat} {Γ : Ctx} (h : (ws.all fun i => isNon Γ[i]?) = true) : ∀ i ∈ ws, Γ[i]? = some none := fun i hi => by
  have := List.all_eq_true.mp h i hi
  cases q : Γ[i]? with
  | none => rw [q] at this; cases this
  | some o =>
    rw [q] at this
    cases o with
    | none => rfl
    | some o => cases this
/-! ### sorting -/
def ins (le : α → α → Bool) (x : α) : List α → List α
  | [] => [x]
  | y :: ys => if le x y then x :: y :: ys else y :: ins le x ys
def isort (le : α → α → Bool) : List α → List α
  | [] => []
  | x :: xs => ins le x (isort le xs)
theorem ins_perm (le : α → α → Bool) (x : α) : ∀ ys : List α, (ins le x ys).Perm (x :: ys)
  | [] => .refl _
  | y :: ys => by
    show (if le x y then x :: y :: ys else y :: ins le x ys).Perm _
    split
    · exact .refl _
    · exact (List.Perm.cons y (ins_perm le x ys)).trans (.swap x y ys)
theorem isort_perm (le : α → α → Bool) : ∀ xs : List α, (isort le xs).Perm xs
  | [] => .refl _
  | x :: xs => (ins_perm le x _).trans (.cons x (isort_perm le xs))
theorem ins_srt {le : α → α → Bool} (tot : ∀ a b, le a b = true ∨ le b a = true) (tr : ∀ a b c, le a b = true → le b c = true → le a c = true) (x : α) : ∀ ys : List α, ys.Pairwise (fun a b => le a b = true) → (ins le x ys).Pairwise fun a b => le a b = true
  | [], _ => by simp [ins]
  | y :: ys, h => by
    obtain ⟨h1, h2⟩ := List.pairwise_cons.mp h
    show (if le x y then x :: y :: ys else y :: ins le x ys).Pairwise _
    split
    · rename_i hle
      refine List.pairwise_cons.mpr ⟨fun z hz => ?_, h⟩
      rcases List.mem_cons.mp hz with e | hz
      · rw [e]; exact hle
      · exact tr x y z hle (h1 z hz)
    · rename_i hle
      refine List.pairwise_cons.mpr ⟨fun z hz => ?_, ins_srt tot tr x ys h2⟩
      rcases List.mem_cons.mp ((ins_perm le x ys).mem_iff.mp hz) with e | hz
      · rw [e]; exact (tot x y).resolve_left hle
      · exact h1 z hz
theorem isort_srt {le : α → α → Bool} (tot : ∀ a b, le a b = true ∨ le b a = true) (tr : ∀ a b c, le a b = true → le b c = true → le a c = true) : ∀ xs : List α, (isort le xs).Pairwise fun a b => le a b = true
  | [] => .nil
  | x :: xs => ins_srt tot tr x _ (isort_srt tot tr xs)
/-- two sorted lists of the same things are one -/
theorem srt_uniq {le : α → α → Bool} (an : ∀ a b, le a b = true → le b a = true → a = b) : ∀ {xs ys : List α}, xs.Pairwise (fun a b => le a b = true) → ys.Pairwise (fun a b => le a b = true) → xs.Perm ys → xs = ys
  | [], ys, _, _, p => (List.Perm.nil_eq p)
  | x :: xs, [], _, _, p => by have := p.length_eq; simp at this
  | x :: xs, y :: ys, h, k, p => by
    obtain ⟨h1, h2⟩ := List.pairwise_cons.mp h
    obtain ⟨k1, k2⟩ := List.pairwise_cons.mp k
    have e : x = y := by
      rcases List.mem_cons.mp (p.mem_iff.mp List.mem_cons_self) with e | m1
      · exact e
      rcases List.mem_cons.mp (p.mem_iff.mpr List.mem_cons_self) with e | m2
      · exact e.symm
      exact an x y (h1 y m2) (k1 x m1)
    subst e
    rw [srt_uniq an h2 k2 (List.Perm.cons_inv p)]
def leI (a b : Int) : Bool := decide (a ≤ b)
def leP (a b : Int × Int) : Bool := decide (a.1 < b.1) || (decide (a.1 = b.1) && decide (a.2 ≤ b.2))
theorem leP_iff {a b : Int × Int} : leP a b = true ↔ a.1 < b.1 ∨ (a.1 = b.1 ∧ a.2 ≤ b.2) := by
  unfold leP
  simp
theorem leP_tot (a b : Int × Int) : leP a b = true ∨ leP b a = true := by rw [leP_iff, leP_iff]; omega
theorem leP_tr (a b c : Int × Int) (h : leP a b = true) (k : leP b c = true) : leP a c = true := by rw [leP_iff] at *; omega
theorem leP_an (a b : Int × Int) (h : leP a b = true) (k : leP b a = true) : a = b := by
  rw [leP_iff] at *
  obtain ⟨a1, a2⟩ := a
  obtain ⟨b1, b2⟩ := b
  simp only at h k
  have e1 : a1 = b1 := by omega
  have e2 : a2 = b2 := by omega
  rw [e1, e2]
theorem leI_tot (a b : Int) : leI a b = true ∨ leI b a = true := by unfold leI; simp; omega
theorem leI_tr (a b c : Int) (h : leI a b = true) (k : leI b c = true) : leI a c = true := by unfold leI at *; simp at *; omega
theorem leI_an (a b : Int) (h : leI a b = true) (k : leI b a = true) : a = b := by unfold leI at *; simp at *; omega
def sortP (xs : List (Int × Int)) : List (Int × Int) := isort leP xs
def sortI (xs : List Int) : List Int := isort leI xs
section
variable {S : Stc} {Γ Δ : Ctx} {a b c e tg iter elt : Expr} {es ifs : List Expr} {pos : Pos} {st : Stmt} {rest A B : List Stmt}
/-- an owned slot is handed back, or moved -/
theorem sta_take {σ : L2.St} {W : Wd} {F : List Addr} {i : Nat} {o : OP} (sta : Sta Γ σ W F) (hi : Γ[i]? = some (some o)) : ∃ v F1 F2, σ[i]? = some (some v) ∧ o.C W v F1 ∧ F.Perm (F2 ++ F1) ∧ Sta (Γ.set i none) σ W F2 := by
  have go : ∀ {Γ : Ctx} {σ : L2.St} {F : List Addr} {i : Nat}, Holds Γ σ W F → Γ[i]? = some (some o) → ∃ v F1 F2, σ[i]? = some (some v) ∧ o.C W v F1 ∧ F.Perm (F2 ++ F1) ∧ Holds (Γ.set i none) σ W F2 := by
    intro Γ
    induction Γ with
    | nil => intro σ F i h e; simp at e
    | cons g Γ ih =>
      intro σ F i h e
      cases i with
      | zero =>
        have : g = some o := by simpa using e
        subst this
        obtain ⟨v, F1, F2, h1, h2, h3, h4⟩ := h
        refine ⟨v, F1, F2, ?_, h3, by subst h2; exact List.perm_append_comm, h4⟩
        rw [← List.head?_eq_getElem?]
        exact h1
      | succ i =>
        cases g with
        | none =>
          obtain ⟨v, F1, F2, a1, a2, a3, a4⟩ := ih (σ := σ.tail) (i := i) h (by simpa using e)
          rw [List.getElem?_tail] at a1
          exact ⟨v, F1, F2, a1, a2, a3, a4⟩
        | some p =>
          obtain ⟨u, G1, G2, h1, h2, h3, h4⟩ := h
          obtain ⟨v, F1, F2, a1, a2, a3, a4⟩ := ih (σ := σ.tail) (i := i) h4 (by simpa using e)
          rw [List.getElem?_tail] at a1
          subst h2
          refine ⟨v, F1, G1 ++ F2, a1, a2, ?_, u, G1, F2, h1, rfl, h3, a4⟩
          rw [List.append_assoc]
          exact List.Perm.append_left G1 a3
  obtain ⟨v, F1, F2, a1, a2, a3, a4⟩ := go sta.hold hi
  exact ⟨v, F1, F2, a1, a2, a3, sta.ok, (sta.fp.perm a3).left, by rw [List.length_set]; exact sta.len, a4⟩
theorem jb_retO {x : Str} {p0 : Pos} {R : α → OP} {a : α} (i : Nat) (w : Weak (Γ.set i none) Δ) (hi : Γ[i]? = some (some (R a)) := by rfl) (hN : S.N[i]? = some x := by rfl) (hv : Vis S.sc x := by first | exact Or.inl rfl | exact Or.inr (Or.inl rfl) | exact Or.inr (Or.inr rfl))
    (hd : (x == ("__debug__" : Str)) = false := by decide) (hcd : (x == ("__classdict__" : Str)) = false := by decide) : JB S (.Return (some (.Name x p0)) pos :: rest) Γ (some a) fun r => .rt Δ (R r) := fun σ W F sta y hy E k => by
  cases hy
  obtain ⟨v, F1, F2, h1, h2, h3, h4⟩ := sta_take sta hi
  obtain ⟨F', s', sub⟩ := h4.weak w
  have fp := sta.fp.perm h3
  refine ⟨tSeq (tRet (tVar i)) tNever, fun X hX => pss_cons (ps_ret (pe_var (by rw [hX.N]; exact hN) (visS hv hX) hd hcd)) pss_never, v, h1, ?_⟩
  refine k v σ W F' F1 Keep.refl ((Stp.refl sta.ok).perm fun a ha => ?_) s' (s'.fp.app fp.right fun a ha => fp.disj a (sub a ha)) h2
  rcases List.mem_append.mp ha with h | h
  · exact h3.mem_iff.mpr (List.mem_append_left _ (sub a h))
  · exact h3.mem_iff.mpr (List.mem_append_right _ h)
/-- the same beside a state -/
theorem jb_retOS {x : Str} {p0 : Pos} {R : α → OP} {a : α} {s : τ} {Δ : τ → Ctx} (i : Nat) (w : Weak (Γ.set i none) (Δ s)) (hi : Γ[i]? = some (some (R a)) := by rfl) (hN : S.N[i]? = some x := by rfl) (hv : Vis S.sc x := by first | exact Or.inl rfl | exact Or.inr (Or.inl rfl) | exact Or.inr (Or.inr rfl))
    (hd : (x == ("__debug__" : Str)) = false := by decide) (hcd : (x == ("__classdict__" : Str)) = false := by decide) : JB S (.Return (some (.Name x p0)) pos :: rest) Γ (some (a, s)) fun q => .rt (Δ q.2) (R q.1) := fun σ W F sta y hy E k => by
  cases hy
  obtain ⟨v, F1, F2, h1, h2, h3, h4⟩ := sta_take sta hi
  obtain ⟨F', s', sub⟩ := h4.weak w
  have fp := sta.fp.perm h3
  refine ⟨tSeq (tRet (tVar i)) tNever, fun X hX => pss_cons (ps_ret (pe_var (by rw [hX.N]; exact hN) (visS hv hX) hd hcd)) pss_never, v, h1, ?_⟩
  refine k v σ W F' F1 Keep.refl ((Stp.refl sta.ok).perm fun a ha => ?_) s' (s'.fp.app fp.right fun a ha => fp.disj a (sub a ha)) h2
  rcases List.mem_append.mp ha with h | h
  · exact h3.mem_iff.mpr (List.mem_append_left _ (sub a h))
  · exact h3.mem_iff.mpr (List.mem_append_right _ h)
/-- a pure expression handed back beside a state -/
theorem jb_retS {m : Option α} {s : τ} {R : α → OP} {Δ : τ → Ctx} (w : Weak Γ (Δ s)) (h : JN S e Γ m R) : JB S (.Return (some e) pos :: rest) Γ (m.bind fun x => some (x, s)) fun q => .rt (Δ q.2) (R q.1) := fun σ W F sta z hz E k => by
  obtain ⟨x, h1, h2⟩ := run1 hz
  cases h2
  exact jb_ret (rest := rest) (pos := pos) w h σ W F sta x h1 E k
/-- y = x, what x owned is y's now -/
theorem js_move {x y : Str} {p0 p1 : Pos} {o : OP} (i j : Nat) (nd : S.N.Nodup) (hj : Γ[j]? = some (some o) := by rfl) (hi : (Γ[i]?).isSome = true := by rfl) (hNj : S.N[j]? = some y := by rfl) (hN : S.N[i]? = some x := by rfl) (hv : Vis S.sc y := by first | exact Or.inl rfl | exact Or.inr (Or.inl rfl) | exact Or.inr (Or.inr rfl)) (hx : Loc S.sc x := by first | exact Or.inl rfl | exact Or.inr rfl)
    (hp : (S.prot.contains i) = false := by rfl) (hd : (y == ("__debug__" : Str)) = false := by decide) (hcd : (y == ("__classdict__" : Str)) = false := by decide) (hs : ∀ env, swapsWith (.Name y p1) (some (.Name x p0)) pos.line env = pure false := by intro _; rfl) (hf : S.fn x = true ∨ S.sc.names.lookup x = some .local := by first | exact .inl rfl | exact .inr rfl) :
    JS S (.Assign [.Name x p0] (.Name y p1) pos) Γ (some ()) fun _ => .nx ((Γ.set j none).set i (some o)) := fun σ W F sta z hz E k => by
  obtain ⟨v, F1, F2, h1, h2, h3, h4⟩ := sta_take sta hj
  have hl : i < (Γ.set j none).length := by
    rw [List.length_set]
    cases h : Γ[i]? with
    | none => rw [h] at hi; cases hi
    | some o => exact (List.getElem?_eq_some_iff.mp h).1
  obtain ⟨F', s', sub⟩ := h4.put hl h2 (sta.fp.perm h3)
  refine ⟨tAsg (tVar j) (gName i), fun X hX => ps_set (by rw [hX.N]; exact nd) (by rw [hX.N]; exact hN) (locS hx hX) (pe_var (by rw [hX.N]; exact hNj) (visS hv hX) hd hcd) (hs _) (by rw [hX.fn, hX.sc]; exact hf), v, h1, ?_⟩
  exact k _ W F' (Keep.set fun z => by rw [List.contains_iff_mem.mpr z] at hp; cases hp) ((Stp.refl sta.ok).perm fun a ha => h3.mem_iff.mpr (sub a ha)) s'
/-! ### xs[::-1], xs + ys -/
theorem jn_revL {E : α → SP} {m : Option (List α)} {k : Nat} {p1 p2 p3 : Pos} (h : JR S a Γ m (lstO fun x => sh (E x))) : JN S (.Subscript a (.Slice none none (some (.UnaryOp .USub (.Constant (.int 1) k p1) p2)) p3) pos) Γ (m.bind fun xs => some xs.reverse) (lstO fun x => sh (E x)) := fun σ W F sta z hz Q kq => by
  obtain ⟨x, h1, h2⟩ := run1 hz
  cases h2
  refine ⟨tRevL S.K (tOf S a), fun X hX => hX.K ▸ pe_revL (peO hX), h σ W F sta x h1 _ fun v W' ext ⟨F1, r, al⟩ => ?_⟩
  obtain ⟨p, vs, F2, rfl, q2, rfl, q3⟩ := r
  obtain ⟨_, q4⟩ := q3.each
  exact ⟨p, vs, rfl, .inl (.inl q2), (kq.ext ext).newL ext.ok q4.rev⟩
theorem jn_revS {E : α → SP} {m : Option (List α)} {k : Nat} {p1 p2 p3 : Pos} (h : JN S a Γ m fun x => sh (lstS E x)) : JN S (.Subscript a (.Slice none none (some (.UnaryOp .USub (.Constant (.int 1) k p1) p2)) p3) pos) Γ (m.bind fun xs => some xs.reverse) (lstO fun x => sh (E x)) := fun σ W F sta z hz Q kq => by
  obtain ⟨x, h1, h2⟩ := run1 hz
  cases h2
  refine ⟨tRevL S.K (tOf S a), fun X hX => hX.K ▸ pe_revL (peO hX), h σ W F sta x h1 _ fun v W' Fv ext _ _ r => ?_⟩
  obtain ⟨_, p, vs, rfl, q2, q3⟩ := r
  exact ⟨p, vs, rfl, .inl (.inl (ext.ok p _ q2)), (kq.ext ext).newL ext.ok q3.rev⟩
def catM (xs ys : List α) : Option (List α) := if xs.length + ys.length ≤ LIM then some (xs ++ ys) else none
theorem ov_cat {E : α → SP} : OpV rCat (lstS E) (lstS E) catM (lstO fun x => sh (E x)) := fun W x y v u z ok hx hy e Q k => by
  unfold catM at e
  split at e
  · rename_i hl
    cases e
    obtain ⟨a, vs, rfl, a2, a3⟩ := hx
    obtain ⟨b, us, rfl, b2, b3⟩ := hy
    exact ⟨a, b, vs, us, rfl, rfl, ok a _ a2, ok b _ b2, lim_le (by rw [a3.len, b3.len]; exact hl), k.newL ok (a3.app b3)⟩
  · cases e
theorem oCat : ∀ X, S.In X → OpR X (binaryOp .Add) rCat := fun _ _ => op_cat
/-! ### isinstance -/
class HasTy (E : α → SP) (n : outParam String) : Prop where
  ty : ∀ K x B H v, Ex B H → (E x).P B v → TyX K H v (.type n)
instance : HasTy intS "int" := ⟨fun K x B H v _ h => by cases h; exact .base (.int x)⟩
instance : HasTy boolS "bool" := ⟨fun K x B H v _ h => by cases h; exact .base (.bl x)⟩
instance : HasTy strS "str" := ⟨fun K x B H v _ h => by cases h; exact .base (.str x)⟩
instance : HasTy (fun _ : Unit => nonS) "NoneType" := ⟨fun K x B H v _ h => by cases h; exact .base .non⟩
instance {E : α → SP} : HasTy (lstS E) "list" := ⟨fun K x B H v e h => by obtain ⟨a, vs, rfl, h2, _⟩ := h; exact .base (.lst (e a _ h2))⟩
instance {E : α → SP} : HasTy (tupS E) "tuple" := ⟨fun K x B H v e h => by obtain ⟨a, vs, rfl, h2, _⟩ := h; exact .base (.tup (e a _ h2))⟩
instance {E : α → SP} {G : β → SP} : HasTy (prS E G) "tuple" := ⟨fun K x B H v e h => by obtain ⟨a, vs, rfl, h2, _⟩ := h; exact .base (.tup (e a _ h2))⟩
theorem jn_ty {x : Str} {n : String} (hm : S.mg x = none) (hg : GlS S x := by rfl) (hv : bootBuiltins x = some (.type n) := by decide +kernel) (hn : x ≠ "__name__" := by decide) (hdb : (x == ("__debug__" : Str)) = false := by decide) : JN S (.Name x pos) Γ (some ()) fun _ => sh (valS (.ty n)) :=
  jn_c (E := fun _ : Unit => valS (.ty n)) (fun X hX => pe_bltn (v := .ty n) (hg.gl hX) (mgS hm hX) hv rfl hn hdb) fun _ => rfl
theorem jn_isi {p pc : Pos} {c : Str} {E : α → SP} {n cn : String} [ht : HasTy E n] {m : Option α} (bb : Bool) (hm : S.mg "isinstance" = none) (hmc : S.mg c = none) (h : JN S a Γ m fun x => sh (E x)) (hk : kitB n cn = some bb := by decide +kernel) (hg : GlS S "isinstance" := by rfl) (hgc : GlS S c := by rfl) (hvc : bootBuiltins c = some (.type cn) := by decide +kernel) (hn : c ≠ "__name__" := by decide) (hdb : (c == ("__debug__" : Str)) = false := by decide)
    (hs : ∀ env, starEach [a, .Name c pc] env = [(false, eval a env), (false, eval (.Name c pc) env)] := by intro _; rfl) (hs2 : ∀ env, starEach [Expr.Name c pc] env = [(false, eval (.Name c pc) env)] := by intro _; rfl) : JN S (.Call (.Name "isinstance" p) [a, .Name c pc] [] pos) Γ (m.bind fun _ => some bb) fun z => sh (boolS z) := fun σ W F sta z hz Q kq => by
  obtain ⟨x, h1, h2⟩ := run1 hz
  cases h2
  refine ⟨tCB (rIsi S.K) (tCons (tOf S a) (tCons (tC (.ty cn)) tNil)), fun X hX => pe_callB (hX.K ▸ call_isi) (hg.gl hX) (mgS hm hX) (by decide +kernel) (pa_cons (peO hX) (pa_cons (pe_bltn (v := .ty cn) (hgc.gl hX) (mgS hmc hX) hvc rfl hn hdb) pa_nil (hs2 _)) ((hs _).trans (by rw [hs2]))) (by decide) (by decide) ((hs _).trans (by rw [hs2])) (by rw [hs2]; rfl), h σ W F sta x h1 _ fun v W' Fv ext _ _ r => ?_⟩
  exact ⟨v, .ty cn, .type n, .type cn, bb, rfl, .ty cn, ht.ty S.K x W'.B W'.H v ext.ok r.2, kit_ty hk, (kq.ext ext).val ext.ok rfl⟩
/-! ### all, any, sorted -/
theorem each_bl {B : Hp} : ∀ {vs : List V} {xs : List Bool}, Each boolS B vs xs → vs = xs.map V.bl
  | [], [], _ => rfl
  | v :: vs, x :: xs, h => by
    have e : v = .bl x := h.1
    rw [e, each_bl h.2]
    rfl
  | [], _ :: _, h => h.elim
  | _ :: _, [], h => h.elim
theorem each_int {B : Hp} : ∀ {vs : List V} {xs : List Int}, Each intS B vs xs → vs = xs.map V.int
  | [], [], _ => rfl
  | v :: vs, x :: xs, h => by
    have e : v = .int x := h.1
    rw [e, each_int h.2]
    rfl
  | [], _ :: _, h => h.elim
  | _ :: _, [], h => h.elim
theorem each_of_int {B : Hp} : ∀ xs : List Int, Each intS B (xs.map V.int) xs
  | [] => trivial
  | x :: xs => ⟨rfl, each_of_int xs⟩
theorem all_lst {m : Option (List Bool)} {p : Pos} (hm : S.mg "all" = none) (h : JN S a Γ m fun x => sh (lstS boolS x)) (hg : GlS S "all" := by rfl) (hs : ∀ env, starEach [a] env = [(false, eval a env)] := by intro _; rfl) (hcm : S.calm = true := by rfl) : JN S (.Call (.Name "all" p) [a] [] pos) Γ (m.bind fun xs => some (xs.all id)) fun z => sh (boolS z) :=
  jn_b1 (f := fun xs : List Bool => some (xs.all id)) (fun X hX => hX.K ▸ cr_all (hX.calm.trans hcm)) (fun W x v z ok hh e Q k => by
    cases e
    obtain ⟨a, vs, rfl, h2, h3⟩ := hh
    rw [each_bl h3] at h2
    exact ⟨a, x, rfl, .inl (.inl (ok a _ h2)), k.val ok rfl⟩) hm h hg (by decide +kernel) (by decide) (by decide) hs
theorem any_lst {m : Option (List Bool)} {p : Pos} (hm : S.mg "any" = none) (h : JN S a Γ m fun x => sh (lstS boolS x)) (hg : GlS S "any" := by rfl) (hs : ∀ env, starEach [a] env = [(false, eval a env)] := by intro _; rfl) (hcm : S.calm = true := by rfl) : JN S (.Call (.Name "any" p) [a] [] pos) Γ (m.bind fun xs => some (xs.any id)) fun z => sh (boolS z) :=
  jn_b1 (f := fun xs : List Bool => some (xs.any id)) (fun X hX => hX.K ▸ cr_any (hX.calm.trans hcm)) (fun W x v z ok hh e Q k => by
    cases e
    obtain ⟨a, vs, rfl, h2, h3⟩ := hh
    rw [each_bl h3] at h2
    exact ⟨a, x, rfl, .inl (.inl (ok a _ h2)), k.val ok rfl⟩) hm h hg (by decide +kernel) (by decide) (by decide) hs
theorem each_mem {E : α → SP} {B : Hp} : ∀ {vs : List V} {xs : List α} {v : V}, Each E B vs xs → v ∈ vs → ∃ x, x ∈ xs ∧ (E x).P B v
  | [], [], v, _, h => by simp at h
  | u :: vs, x :: xs, v, h, hv => by
    rcases List.mem_cons.mp hv with e | hv
    · rw [e]; exact ⟨x, List.mem_cons_self, h.1⟩
    · obtain ⟨y, h1, h2⟩ := each_mem h.2 hv
      exact ⟨y, List.mem_cons_of_mem _ h1, h2⟩
  | [], _ :: _, _, h, _ => h.elim
  | _ :: _, [], _, h, _ => h.elim
theorem pr_tup {B : Hp} {p : Int × Int} {v : V} (h : (prS intS intS p).P B v) : ∃ t, v = .ref t ∧ B t = some (.tup [.int p.1, .int p.2]) := by
  obtain ⟨t, vs, rfl, h2, h3⟩ := h
  obtain ⟨v, u, rfl, h4, h5⟩ := hets2 h3
  cases h4
  cases h5
  exact ⟨t, rfl, h2⟩
theorem tup_pr {B : Hp} {p : Int × Int} {t : Addr} (h : B t = some (.tup [.int p.1, .int p.2])) : (prS intS intS p).P B (.ref t) := ⟨t, _, rfl, h, rfl, rfl, trivial⟩
open Classical in
/-- sorted of a list of pairs of whole numbers -/
theorem sorted_prs {m : Option (List (Int × Int))} {p : Pos} (hm : S.mg "sorted" = none) (h : JN S a Γ m fun x => sh (lstS (prS intS intS) x)) (hg : GlS S "sorted" := by rfl) (hs : ∀ env, starEach [a] env = [(false, eval a env)] := by intro _; rfl) : JN S (.Call (.Name "sorted" p) [a] [] pos) Γ (m.bind fun xs => some (sortP xs)) (lstO fun x => sh (prS intS intS x)) :=
  jn_b1 (f := fun xs : List (Int × Int) => some (sortP xs)) (fun X hX => hX.K ▸ cr_sortedPO) (fun W x v z ok hh e Q k => by
    cases e
    obtain ⟨a, vs, rfl, h2, h3⟩ := hh
    -- the pair behind a value
    let kk : V → Int × Int := fun u => if h : ∃ q : Int × Int, (prS intS intS q).P W.B u then h.choose else (0, 0)
    have kspec : ∀ (q : Int × Int) (u : V), (prS intS intS q).P W.B u → kk u = q := fun q u hu => by
      have hex : ∃ q : Int × Int, (prS intS intS q).P W.B u := ⟨q, hu⟩
      have e1 : kk u = hex.choose := dif_pos hex
      have e2 := hex.choose_spec
      rw [← e1] at e2
      obtain ⟨t, rfl, b1⟩ := pr_tup hu
      obtain ⟨t', e3, b2⟩ := pr_tup e2
      cases e3
      rw [b1] at b2
      injection b2 with b2
      injection b2 with b2
      injection b2 with c1 c2
      injection c2 with c2 _
      injection c1 with c1
      injection c2 with c2
      exact Prod.ext c1.symm c2.symm
    refine ⟨a, vs, kk, rfl, .inl (.inl (ok a _ h2)), fun u hu => ?_, fun ys p srt stb np => ?_⟩
    · obtain ⟨q, _, hq⟩ := each_mem h3 hu
      obtain ⟨t, rfl, b1⟩ := pr_tup hq
      rw [kspec q _ hq]
      exact ⟨t, rfl, ok t _ b1⟩
    · have perm : ys.Perm vs := SrtO.Stb.perm stb
      have hmap : vs.map kk = x := by
        clear stb perm h2 k srt np
        induction vs generalizing x with
        | nil => cases x with
          | nil => rfl
          | cons _ _ => exact h3.elim
        | cons u vs ih => cases x with
          | nil => exact h3.elim
          | cons q x => rw [List.map_cons, kspec q u h3.1, ih _ h3.2]
      have hys : ∀ u ∈ ys, (prS intS intS (kk u)).P W.B u := fun u hu => by
        obtain ⟨q, _, hq⟩ := each_mem h3 (perm.mem_iff.mp hu)
        rw [kspec q u hq]
        exact hq
      have hE : Each (prS intS intS) W.B ys (ys.map kk) := by
        clear stb perm srt
        induction ys with
        | nil => trivial
        | cons u ys ih => exact ⟨hys u List.mem_cons_self, ih fun w hw => hys w (List.mem_cons_of_mem _ hw)⟩
      have hsrt : (ys.map kk).Pairwise fun a b => leP a b = true := by
        rw [List.pairwise_map]
        refine List.Pairwise.imp (fun {u w} hn => ?_) srt
        have := SrtO.lexB_no.mp hn
        rw [leP_iff]
        omega
      have e : ys.map kk = sortP x := srt_uniq leP_an hsrt (isort_srt leP_tot leP_tr x) (by
        refine (perm.map kk).trans ?_
        rw [hmap]
        exact (isort_perm leP x).symm)
      rw [e] at hE
      exact k.newL ok hE p np) hm h hg (by decide +kernel) (by decide) (by decide) hs
/-! ### keywords and defaults -/
def tkOf (S : Stc) (kws : List Keyword) : TA := fun σ H Q => ∃ t : TA, (∀ X, S.In X → PK X kws t) ∧ t σ H Q
theorem pkO {X : Cx} {kws : List Keyword} (h : S.In X) : PK X kws (tkOf S kws) := ⟨fun pos pins s σ H Q I ⟨_, p, q⟩ => (p X h).run pos pins s σ H Q I q⟩
def JK (S : Stc) (kws : List Keyword) (Γ : Ctx) (m : Option α) (R : α → List SP) : Prop :=
  ∀ σ W F, Sta Γ σ W F → ∀ x, m = some x → ∀ Q : List V → Hp → Prop, (∀ vs W', Ext W W' → Hets W'.B vs (R x) → Q vs W'.H) → tkOf S kws σ W.H Q
theorem jk_nil : JK S [] Γ (some ()) fun _ => [] := fun σ W F st x hx Q k => ⟨tNil, fun _ _ => pk_nil, k [] W (Ext.refl st.ok) trivial⟩
theorem jk_cons {nm : Option Str} {kpos : Pos} {kws : List Keyword} {ma : Option α} {mb : Option β} {E : α → SP} {G : β → List SP} (ha : JN S e Γ ma fun x => sh (E x)) (hb : JK S kws Γ mb G) : JK S (⟨nm, e, kpos⟩ :: kws) Γ (ma.bind fun x => mb.bind fun y => some (x, y)) fun p => E p.1 :: G p.2 := fun σ W F st z hz Q k => by
  obtain ⟨x, y, h1, h2, h3⟩ := run2 hz
  cases h3
  refine ⟨tCons (tOf S e) (tkOf S kws), fun X hX => pk_cons (peO hX) (pkO hX), ?_⟩
  refine ha σ W F st x h1 _ fun v W1 F1 e1 _ _ r1 => ?_
  exact hb σ W1 F (st.ext e1) y h2 _ fun vs W2 e2 h => k (v :: vs) W2 (e1.trans e2) ⟨SP.mono _ r1.2 e2.b, h⟩
theorem Hets.app {B : Hp} : ∀ {vs us : List V} {ps qs : List SP}, Hets B vs ps → Hets B us qs → Hets B (vs ++ us) (ps ++ qs)
  | [], _, [], _, _, k => k
  | _ :: _, _, _ :: _, _, h, k => ⟨h.1, Hets.app h.2 k⟩
  | [], _, _ :: _, _, h, _ => h.elim
  | _ :: _, _, [], _, h, _ => h.elim
/-- f(e, ..), the lacking parameters by their defaults dvs -/
theorem jn_callD {x : Str} {p : Pos} {f : Addr} {fd : FuncData} {ps : List Str} {k : Nat} {G : γ → List SP} {Ga : α → List SP} {fM : γ → Option ρ} {R : ρ → OP} {m : Option α} {ds : List Value} (dvs : List V) (g : α → γ) (Fn : FnOk S.P S.w S.K S.mg S.base CX0 k f fd ps (spP G fM R)) (hm : S.mg x = some (.ref f)) (kp : PySem.W.keepIn S.K (.ref f) = true) (hd : Vals dvs ds) (hb : Binds S.K fd ps ds)
    (hG : ∀ x B vs, Hets B vs (Ga x) → Hets B (vs ++ dvs) (G (g x))) (hk : k ≤ S.k) (ha : JA S (e :: es) Γ m Ga) (hg : GlS S x := by rfl) (hdb : (x == ("__debug__" : Str)) = false := by decide) (he : ∀ env, starEach (e :: es) env = (false, eval e env) :: starEach es env := by intro _; rfl) (hpl : ∀ env, (backTo pos (starEach es env)).any (·.1) = false := by intro _; rfl) (hcm : S.calm = true := by rfl) :
    JN S (.Call (.Name x p) (e :: es) [] pos) Γ (m.bind fun y => fM (g y)) R := fun σ W F st z hz Q kk => by
  obtain ⟨y, h1, h2⟩ := run1 hz
  refine ⟨tCall (spP G fM R) dvs E0 (taOf S (e :: es)), fun X hX => pe_call (fnokS Fn hX) ((hX.room hcm).mono hk) (hg.gl hX) (mgS hm hX) (by rw [hX.K]; exact kp) (bindsS hX hb) hd passE0 (paO hX) hdb (he _) (hpl _), ha σ W F st y h1 _ fun vs W' ext hh => ?_⟩
  exact ⟨g y, W', z, rfl, ext.ok, hG y _ vs hh, h2, kk.ext ext⟩
theorem kbnS {X : Cx} {fd : FuncData} {ps ks : List Str} {n : Nat} {g : List Value → List Value → List Value} {gV : List V → List V → List V} (h : S.In X) (b : KBn S.K fd ps n ks g gV) : KBn X.K fd ps n ks g gV := by rw [h.K]; exact b
theorem jn_callN {x : Str} {p : Pos} {f : Addr} {fd : FuncData} {ps ks : List Str} {k n : Nat} {G : γ → List SP} {Ga : α → List SP} {Gk : β → List SP} {fM : γ → Option ρ} {R : ρ → OP} {m : Option α} {mk : Option β} {kws : List Keyword} {gv : List Value → List Value → List Value} {gV : List V → List V → List V} (g : α → β → γ) (Fn : FnOk S.P S.w S.K S.mg S.base CX0 k f fd ps (spP G fM R)) (hm : S.mg x = some (.ref f)) (kp : PySem.W.keepIn S.K (.ref f) = true) (hb : KBn S.K fd ps n ks gv gV)
    (hG : ∀ x z B vs zs, Hets B vs (Ga x) → Hets B zs (Gk z) → Hets B (gV vs zs) (G (g x z))) (hl : ∀ x, (Ga x).length = n) (hlk : ∀ z, (Gk z).length = ks.length) (hk : k ≤ S.k) (ha : JA S (e :: es) Γ m Ga) (hkw : JK S kws Γ mk Gk) (hg : GlS S x := by rfl) (hdb : (x == ("__debug__" : Str)) = false := by decide)
    (hall : ∀ env, (backToKw pos (keywordEach kws env)).all (·.1.isSome) = true := by intro _; rfl) (hks : ∀ env, (backToKw pos (keywordEach kws env)).filterMap (·.1) = ks := by intro _; rfl) (he : ∀ env, starEach (e :: es) env = (false, eval e env) :: starEach es env := by intro _; rfl)
    (hpl : ∀ env, ((backTo pos (starEach (e :: es) env)).any (·.1) || (backToKw pos (keywordEach kws env)).any (·.1.isNone)) = false := by intro _; rfl) (hcm : S.calm = true := by rfl) : JN S (.Call (.Name x p) (e :: es) kws pos) Γ (m.bind fun y => mk.bind fun z => fM (g y z)) R := fun σ W F st z hz Q kk => by
  obtain ⟨y, w, h1, h2, h3⟩ := run2 hz
  refine ⟨tCallN n ks.length (spP G fM R) gV E0 (taOf S (e :: es)) (tkOf S kws), fun X hX => pe_callN (fnokS Fn hX) ((hX.room hcm).mono hk) (hg.gl hX) (mgS hm hX) (by rw [hX.K]; exact kp) (kbnS hX hb) passE0 (paO hX) (pkO hX) (hall _) (hks _) hdb (he _) (hpl _), ?_⟩
  refine ha σ W F st y h1 _ fun vs W1 e1 hh => ?_
  refine hkw σ W1 F (st.ext e1) w h2 _ fun zs W2 e2 hz => ⟨hh.len.trans (hl y), hz.len.trans (hlk w), ?_⟩
  exact ⟨g y w, W2, z, rfl, e2.ok, hG y w _ vs zs (hh.mono e2.b) hz, h3, kk.ext (e1.trans e2)⟩
/-- f(k = v, ..) -/
def tCall0N (m : Nat) (sp : Sp) (gV : List V → List V → List V) (E : XK) (tk : TA) : TE := fun σ H Q => tk σ H fun zs H2 => zs.length = m ∧ sp (gV [] zs) H2 Q E
theorem pe_call0N {X : Cx} {CX : CXT} {k : Nat} {f : Addr} {fd : FuncData} {ps ks : List Str} {sp : Sp} {E : XK} {x : Str} {p pos : Pos} {kws : List Keyword} {tk : TA} {g : List Value → List Value → List Value} {gV : List V → List V → List V} (F : FnOk X.prog X.w X.K X.mg X.base CX k f fd ps sp) (hr : Room k X.A) (hg : Gl X x) (hm : X.mg x = some (.ref f)) (hk : PySem.W.keepIn X.K (.ref f) = true) (hb : KBn X.K fd ps 0 ks g gV) (hx : Passes CX X E) (hkw : PK X kws tk)
    (hall : (backToKw pos (keywordEach kws X.env)).all (·.1.isSome) = true) (hks : (backToKw pos (keywordEach kws X.env)).filterMap (·.1) = ks) (hdb : (x == ("__debug__" : Str)) = false)
    (hpl : ((backTo pos (starEach [] X.env)).any (·.1) || (backToKw pos (keywordEach kws X.env)).any (·.1.isNone)) = false) : PE X (.Call (.Name x p) [] kws pos) (tCall0N ks.length sp gV E tk) := by
  refine ⟨fun pins s σ H Q I h => ?_⟩
  refine wpAny_Call_Name_kw (ld_glob I hg hm ?_ hdb)
  refine PySem.W.callWith_KW0 (h₀ := X.base) I.ok.mod.kin hk hall ?_ hpl
  refine thn (hkw.run pos pins s σ H _ I h) fun ws s2 ⟨zs, H2, I2, rz, l2, q2⟩ => ⟨I2.kIn, ?_⟩
  rw [hks]
  exact run_fnN (us := []) (vs := []) F hr hb hx I2 .nil rz rfl l2 q2
theorem jn_call0N {x : Str} {p : Pos} {f : Addr} {fd : FuncData} {ps ks : List Str} {k : Nat} {G : γ → List SP} {Gk : β → List SP} {fM : γ → Option ρ} {R : ρ → OP} {mk : Option β} {kws : List Keyword} {gv : List Value → List Value → List Value} {gV : List V → List V → List V} (g : β → γ) (Fn : FnOk S.P S.w S.K S.mg S.base CX0 k f fd ps (spP G fM R)) (hm : S.mg x = some (.ref f)) (kp : PySem.W.keepIn S.K (.ref f) = true) (hb : KBn S.K fd ps 0 ks gv gV)
    (hG : ∀ z B zs, Hets B zs (Gk z) → Hets B (gV [] zs) (G (g z))) (hlk : ∀ z, (Gk z).length = ks.length) (hk : k ≤ S.k) (hkw : JK S kws Γ mk Gk) (hg : GlS S x := by rfl) (hdb : (x == ("__debug__" : Str)) = false := by decide)
    (hall : ∀ env, (backToKw pos (keywordEach kws env)).all (·.1.isSome) = true := by intro _; rfl) (hks : ∀ env, (backToKw pos (keywordEach kws env)).filterMap (·.1) = ks := by intro _; rfl)
    (hpl : ∀ env, ((backTo pos (starEach [] env)).any (·.1) || (backToKw pos (keywordEach kws env)).any (·.1.isNone)) = false := by intro _; rfl) (hcm : S.calm = true := by rfl) : JN S (.Call (.Name x p) [] kws pos) Γ (mk.bind fun z => fM (g z)) R := fun σ W F st z hz Q kk => by
  obtain ⟨w, h2, h3⟩ := run1 hz
  refine ⟨tCall0N ks.length (spP G fM R) gV E0 (tkOf S kws), fun X hX => pe_call0N (fnokS Fn hX) ((hX.room hcm).mono hk) (hg.gl hX) (mgS hm hX) (by rw [hX.K]; exact kp) (kbnS hX hb) passE0 (pkO hX) (hall _) (hks _) hdb (hpl _), ?_⟩
  refine hkw σ W F st w h2 _ fun zs W2 e2 hz => ⟨hz.len.trans (hlk w), ?_⟩
  exact ⟨g w, W2, z, rfl, e2.ok, hG w _ zs hz, h3, kk.ext e2⟩
end
/-- a def with keyword-only defaults -/
theorem fnd_pure {P : Program} {w : World} {K : PySem.W.Frag} {mg : Str → Option Value} {base : Heap} {x qual : Str} {st : Stmt} {f : Addr} {fd : FuncData} {dvs : List V} {kwd : List (Str × V)} {N ps : List Str} {k : Nat} {G : α → List SP} {fM : α → Option ρ} {R : ρ → OP} {Δ : Ctx} (F : FunD K x qual (defArgs st) (defBody st) (defScope st) dvs kwd f fd) (Sc : FnScope N ps (defScope st)) (hG : ∀ a, (G a).length = ps.length) (hn : ps.length ≤ N.length)
    (body : ∀ a, JB (stcOf P w K mg base N (defScope st) k []) (defBody st) (shC (G a) ++ nonC (N.length - ps.length)) (fM a) fun r => .rt Δ (R r)) : FnOk P w K mg base CX0 (k + 1) f fd ps (spP G fM R) := by
  refine F.ok Sc (fun vs H Q E h => ?_) (fun cdv A outer s H vs Q E hr h => ?_)
  · obtain ⟨a, W, r, _, _, h3, _⟩ := h
    rw [h3.len, hG]
  · obtain ⟨a, W, r, rfl, ok, h3, h4, kq⟩ := h
    refine ⟨tbOf (stcOf P w K mg base N (defScope st) k []) (defBody st), (pbO (in_cx hr)).nox, ?_⟩
    have hl : vs.length = ps.length := h3.len.trans (hG a)
    have sta : Sta (shC (G a) ++ nonC (N.length - ps.length)) (L2.start N vs) W [] := ⟨ok, FpOk.nil, by unfold L2.start shC nonC; simp [h3.len, hG, hl], by unfold L2.start; rw [hl]; exact holds_sh h3⟩
    exact body a _ W [] sta r h4 _ fun v σ' W' F' Fv _ stp _ fp rr => by
      obtain ⟨ext, fr⟩ := stp.ext
      exact kq v W' Fv ext (fun a ha => fr a (List.mem_append_right _ ha)) fp.right rr
end CC
set_option maxHeartbeats 4000000
/-! Tuples and lists of several kinds. -/
namespace CC
open PySem PySem.Spec L2
open PyProof.Rows hiding St
variable {α β γ δ τ υ ω ρ : Type}
theorem sb (x : α) (f : α → Option β) : (some x).bind f = f x := rfl
def t3S (E : α → SP) (G : β → SP) (I : γ → SP) (p : α × β × γ) : SP := htupS [E p.1, G p.2.1, I p.2.2]
def t4S (E : α → SP) (G : β → SP) (I : γ → SP) (J : δ → SP) (p : α × β × γ × δ) : SP := htupS [E p.1, G p.2.1, I p.2.2.1, J p.2.2.2]
def t5S (E : α → SP) (G : β → SP) (I : γ → SP) (J : δ → SP) (L : τ → SP) (p : α × β × γ × δ × τ) : SP := htupS [E p.1, G p.2.1, I p.2.2.1, J p.2.2.2.1, L p.2.2.2.2]
def l2S (E : α → SP) (G : β → SP) (p : α × β) : SP := hlstS [E p.1, G p.2]
def l3S (E : α → SP) (G : β → SP) (I : γ → SP) (p : α × β × γ) : SP := hlstS [E p.1, G p.2.1, I p.2.2]
def l4S (E : α → SP) (G : β → SP) (I : γ → SP) (J : δ → SP) (p : α × β × γ × δ) : SP := hlstS [E p.1, G p.2.1, I p.2.2.1, J p.2.2.2]
def l5S (E : α → SP) (G : β → SP) (I : γ → SP) (J : δ → SP) (L : τ → SP) (p : α × β × γ × δ × τ) : SP := hlstS [E p.1, G p.2.1, I p.2.2.1, J p.2.2.2.1, L p.2.2.2.2]
section
variable {S : Stc} {Γ : Ctx} {a b e : Expr} {es : List Expr} {pos : Pos}
theorem jn_nilT {E : α → SP} {k : Nat} : JN S (.Tuple [] k pos) Γ (some []) fun x => sh (tupS E x) := jn_dispT (E := E) (g := fun _ : Unit => ([] : List α)) ja_nil
theorem jn_tupG {m : Option α} {R : α → List SP} {P : β → SP} {g : α → β} {k : Nat} (h : JA S es Γ m R) (hR : ∀ x, htupS (R x) = P (g x) := by intro _; rfl) (hl : ∀ x, (R x).length ≤ 1000 := by intro _; exact Nat.le_of_ble_eq_true rfl) : JN S (.Tuple es k pos) Γ (m.bind fun x => some (g x)) fun y => sh (P y) := fun σ W F sta z hz Q kk => by
  obtain ⟨x, h1, h2⟩ := run1 hz
  cases h2
  have q := jn_tup (k := k) (pos := pos) (p := fun _ => True) h hl σ W F sta x h1 Q
  simp only [hR] at q
  exact q kk
theorem jn_hl {m : Option α} {R : α → List SP} {T : β → OP} {g : α → β} (h : JA S es Γ m R) (hR : ∀ x, hetO ((R x).map sh) = T (g x) := by intro _; rfl) (hl : ∀ x, (R x).length ≤ 1000 := by intro _; exact Nat.le_of_ble_eq_true rfl) : JN S (.List es pos) Γ (m.bind fun x => some (g x)) T := fun σ W F sta z hz Q kk => by
  obtain ⟨x, h1, h2⟩ := run1 hz
  cases h2
  have q := jn_het (pos := pos) h hl σ W F sta x h1 Q
  simp only [hR] at q
  exact q kk
theorem jn_hlS {m : Option α} {R : α → List SP} {T : β → SP} {g : α → β} (h : JA S es Γ m R) (hR : ∀ x, hlstS (R x) = T (g x) := by intro _; rfl) (hl : ∀ x, (R x).length ≤ 1000 := by intro _; exact Nat.le_of_ble_eq_true rfl) : JN S (.List es pos) Γ (m.bind fun x => some (g x)) fun y => sh (T y) := fun σ W F sta z hz Q kk => by
  obtain ⟨x, h1, h2⟩ := run1 hz
  cases h2
  have q := jn_hetS (pos := pos) h hl σ W F sta x h1 Q
  simp only [hR] at q
  exact q kk
theorem len_scr {m : Option (List Int)} {p : Pos} (hm : S.mg "len" = none) (h : JN S a Γ m fun x => sh (scrS S.K x)) (hg : GlS S "len" := by rfl) (hs : ∀ env, starEach [a] env = [(false, eval a env)] := by intro _; rfl) : JN S (.Call (.Name "len" p) [a] [] pos) Γ (m.bind fun xs => some (xs.length : Int)) fun z => sh (intS z) :=
  jn_b1 (r := fun xs H Q => ∃ p ys, xs = [.ref p] ∧ (SqL S.K H p ys ∨ SqT S.K H p ys) ∧ Q (.int ys.length) H) (f := fun xs : List Int => some (xs.length : Int)) (fun X hX => hX.K ▸ call_len_seq) (fun W x v z ok hh e Q k => by
    cases e
    obtain ⟨a, rfl, h2⟩ := hh
    have hq : SqL S.K W.H a (x.map V.int) := by
      rcases h2 with (h | ⟨o, h⟩) | h
      · exact .inl (.inl (ok _ _ h))
      · exact .inl (.inr ⟨o, ok _ _ h⟩)
      · exact .inr h
    exact ⟨a, _, rfl, .inl hq, k.val ok (by rw [List.length_map]; rfl)⟩) hm h hg PySem.boot_len (by decide) (by decide) hs
end
section
variable {S : Stc} {Γ : τ → Ctx} {s : τ} {a b e : Expr} {es : List Expr} {pos : Pos}
theorem je_tup {E : α → SP} {m : Option (List α × τ)} {p : Pos} (hm : S.mg "tuple" = none) (h : JE S a Γ s m fun x => sh (lstS E x)) (hg : GlS S "tuple" := by rfl) (hs : ∀ env, starEach [a] env = [(false, eval a env)] := by intro _; rfl) : JE S (.Call (.Name "tuple" p) [a] [] pos) Γ s (m.bind fun q => some (q.1, q.2)) fun x => sh (tupS E x) :=
  je_t1 (f := fun x : List α => some x) (fun X hX => hX.K ▸ call_tuple_of) (fun W x v z ok hh e Q k => by
    cases e
    obtain ⟨a, vs, rfl, h2, h3⟩ := hh
    exact ⟨a, vs, rfl, .inl ⟨.inl (.inl (ok a _ h2)), k.newT ok h3⟩⟩) hm h hg (by decide +kernel) (by decide) (by decide) hs
theorem je_tupG {m : Option (α × τ)} {R : α → List SP} {P : β → SP} {g : α → β} {k : Nat} (h : JEA S es Γ s m R) (hR : ∀ x, htupS (R x) = P (g x) := by intro _; rfl) (hl : ∀ x, (R x).length ≤ 1000 := by intro _; exact Nat.le_of_ble_eq_true rfl) : JE S (.Tuple es k pos) Γ s (m.bind fun q => some (g q.1, q.2)) fun y => sh (P y) := JE.of_sh fun σ W F sta z hz Q kk => by
  obtain ⟨q, h1, h2⟩ := run1 hz
  cases h2
  refine ⟨tTup (taOf S es), fun X hX => pe_tup (paO hX), h σ W F sta q h1 _ fun vs W' F' stp sa hh => ?_⟩
  refine ⟨Nat.le_trans (by rw [hh.len]; exact hl q.1) (by decide), fun l hq => ?_⟩
  have e2 := Ext.newB sa.ok (o := .tup vs) hq
  exact kk (.ref l) ⟨upd W'.H l (.tup vs), upd W'.B l (.tup vs)⟩ F' (stp.trans e2.stp0) (sa.ext e2) (by rw [← hR]; exact ⟨l, vs, rfl, upd_same, hh.mono e2.b⟩)
theorem je_dispL {E : β → SP} {m : Option (α × τ)} {R : α → List SP} {g : α → List β} (h : JEA S es Γ s m R) (hR : ∀ x, R x = (g x).map E := by intro _; rfl) (hl : ∀ x, (R x).length ≤ 1000 := by intro _; exact Nat.le_of_ble_eq_true rfl) : JE S (.List es pos) Γ s (m.bind fun q => some (g q.1, q.2)) fun y => lstO (fun x => sh (E x)) y := fun σ W F sta z hz Q kk => by
  obtain ⟨q, h1, h2⟩ := run1 hz
  cases h2
  refine ⟨tLst (taOf S es), fun X hX => pe_lst (paO hX), h σ W F sta q h1 _ fun vs W' F' stp sa hh => ?_⟩
  refine ⟨Nat.le_trans (by rw [hh.len]; exact hl q.1) (by decide), fun l hq => ?_⟩
  have e2 := Ext.new sa.ok (o := .lst vs) hq
  rw [hR] at hh
  have fr : ∀ x ∈ [l], W'.H x = none := fun x hx => by rw [List.mem_singleton.mp hx]; exact hq
  have fp1 : FpOk ⟨upd W'.H l (.lst vs), W'.B⟩ [l] := fp_one (sa.ok.back hq)
  exact kk (.ref l) ⟨upd W'.H l (.lst vs), W'.B⟩ F' [l] (stp.trans (e2.stp fr)) (sa.ext e2) (sa.fp.fresh e2 fp1 fr) ⟨l, vs, [], rfl, upd_same, rfl, Owns.of_each (W := ⟨upd W'.H l (.lst vs), W'.B⟩) hh.each⟩
theorem je_hlS {m : Option (α × τ)} {R : α → List SP} {P : β → SP} {g : α → β} (h : JEA S es Γ s m R) (hR : ∀ x, hlstS (R x) = P (g x) := by intro _; rfl) (hl : ∀ x, (R x).length ≤ 1000 := by intro _; exact Nat.le_of_ble_eq_true rfl) : JE S (.List es pos) Γ s (m.bind fun q => some (g q.1, q.2)) fun y => sh (P y) := JE.of_sh fun σ W F sta z hz Q kk => by
  obtain ⟨q, h1, h2⟩ := run1 hz
  cases h2
  refine ⟨tLst (taOf S es), fun X hX => pe_lst (paO hX), h σ W F sta q h1 _ fun vs W' F' stp sa hh => ?_⟩
  refine ⟨Nat.le_trans (by rw [hh.len]; exact hl q.1) (by decide), fun l hq => ?_⟩
  have e2 := Ext.newB sa.ok (o := .lst vs) hq
  exact kk (.ref l) ⟨upd W'.H l (.lst vs), upd W'.B l (.lst vs)⟩ F' (stp.trans e2.stp0) (sa.ext e2) (by rw [← hR]; exact ⟨l, vs, rfl, upd_same, hh.mono e2.b⟩)
end
/-- a def with state first -/
theorem fnd_state {P : Program} {w : World} {K : PySem.W.Frag} {mg : Str → Option Value} {base : Heap} {x qual : Str} {st : Stmt} {f : Addr} {fd : FuncData} {dvs : List V} {kwd : List (Str × V)} {N ps : List Str} {k : Nat} {O : τ → OP} {G : α → List SP} {fM : α → τ → Option (ρ × τ)} {R : ρ → OP} (F : FunD K x qual (defArgs st) (defBody st) (defScope st) dvs kwd f fd) (Sc : FnScope N ps (defScope st)) (hG : ∀ a, (G a).length + 1 = ps.length) (hn : ps.length ≤ N.length)
    (body : ∀ a s, JB (stcOf P w K mg base N (defScope st) k [0]) (defBody st) (some (O s) :: (shC (G a) ++ nonC (N.length - ps.length))) (fM a s) fun r => .rt (some (O r.2) :: nonC (N.length - 1)) (R r.1)) : FnOk P w K mg base CX0 (k + 1) f fd ps (spS O G fM R) := by
  refine F.ok Sc (fun vs H Q E h => ?_) (fun cdv A outer s H vs Q E hr h => ?_)
  · obtain ⟨a, s, W, F, v0, vr, r, rfl, _, _, _, _, h3, _⟩ := h
    rw [List.length_cons, h3.len, hG]
  · obtain ⟨a, s0, W, Fp, v0, vr, r, rfl, rfl, ok, fp0, h0, h3, h4, kq⟩ := h
    refine ⟨tbOf (stcOf P w K mg base N (defScope st) k [0]) (defBody st), (pbO (in_cx hr)).nox, ?_⟩
    have hl : (v0 :: vr).length = ps.length := by rw [List.length_cons, h3.len]; exact hG a
    have sta : Sta (some (O s0) :: (shC (G a) ++ nonC (N.length - ps.length))) (L2.start N (v0 :: vr)) W Fp := ⟨ok, fp0, by
      unfold L2.start shC nonC
      have := hG a
      simp [h3.len]
      omega, ⟨v0, Fp, [], rfl, (List.append_nil _).symm, h0, by
      unfold L2.start
      rw [hl]
      exact holds_sh h3⟩⟩
    refine body a s0 _ W Fp sta r h4 _ fun v σ' W' F' Fv kp stp sa fp rr => ?_
    obtain ⟨u, F1, F2, b1, b2, b3, b4⟩ := sa.hold
    have e0 : σ'[0]? = some (some v0) := (kp 0 (by simp)).trans rfl
    have eu : u = v0 := by
      rw [List.head?_eq_getElem?] at b1
      rw [e0] at b1
      exact (Option.some.inj (Option.some.inj b1)).symm
    subst eu
    have eF : F2 = [] := by
      have : ∀ (n : Nat) (σ : L2.St) (F : List Addr), Holds (nonC n) σ W' F → F = [] := by
        intro n
        induction n with
        | zero => intro σ F h; exact h
        | succ n ih => intro σ F h; exact ih σ.tail F h
      exact this _ _ _ b4
    subst eF
    rw [List.append_nil] at b2
    subst b2
    exact kq v W' F' Fv stp fp b3 rr
abbrev FnP (K : PySem.W.Frag) (x : Str) (st : Stmt) (f : Addr) (fd : FuncData) : Prop := FunD K x x (defArgs st) (defBody st) (defScope st) [] [] f fd
theorem hets_d {B : Hp} {vs dvs : List V} {ps qs rs : List SP} (h : Hets B vs ps) (hd : Hets B dvs qs) (e : rs = ps ++ qs) : Hets B (vs ++ dvs) rs := e ▸ h.app hd
/-- the law is called with its script -/
theorem law_in {K : PySem.W.Frag} {H : Hp} {a : Addr} {ns : List Int} {fM : List Int × Unit → Option Bool} {E : XK} (hS : SqL K H a (ns.map V.int)) (h : fM (ns, ()) = some true) : spP (fun a : List Int × Unit => [scrS K a.1]) fM (fun b => sh (boolS b)) [.ref a] H (fun v _ => v = .bl true) E :=
  ⟨(ns, ()), ⟨H, H⟩, true, rfl, Ex.refl _, ⟨⟨a, rfl, hS⟩, trivial⟩, h, fun v W' Fv _ _ _ r => r.2⟩
theorem sw_cell {elt : Expr} {gs : List Comprehension} {scope : Scope} {pos py : Pos} {y : Str} {l : Nat} {env : Env} (hy : env.scope.names.lookup y = some .cell) : swapsWith (.ListComp elt gs scope pos) (some (.Name y py)) l env = pure false := by
  have ky : env.kindOf y = some .cell := hy
  unfold swapsWith
  simp only [ky]
  rw [show ((some NameKind.cell == some NameKind.local) : Bool) = false from rfl, Bool.and_false, Bool.false_and, Bool.false_and]
section
variable {S : Stc} {Γ : Ctx}
theorem js_setLcC {x : Str} {py spos pos : Pos} {elt : Expr} {gs : List Comprehension} {scope : Scope} {m : Option α} {R : α → OP} (i : Nat) (nd : S.N.Nodup) (h : JN S (.ListComp elt gs scope pos) Γ m R) (hi : (Γ[i]?).isSome = true := by rfl) (hN : S.N[i]? = some x := by rfl) (hx : S.sc.names.lookup x = some .cell := by rfl) (hp : (S.prot.contains i) = false := by rfl) (hf : S.fn x = true := by rfl) :
    JS S (.Assign [.Name x py] (.ListComp elt gs scope pos) spos) Γ m fun a => .nx (Γ.set i (some (R a))) := fun σ W F sta y hy E k => by
  refine ⟨tAsg (tOf S _) (gName i), fun X hX => ps_set (by rw [hX.N]; exact nd) (by rw [hX.N]; exact hN) (locS (.inr hx) hX) (peO hX) (sw_cell (by rw [hX.sc]; exact hx)) (by rw [hX.fn]; exact .inl hf), h σ W F sta y hy _ fun v W' Fv ext fr fp r => ?_⟩
  obtain ⟨F', s', stp⟩ := sta_set sta ext fr fp r hi
  exact k _ W' F' (Keep.set (ncon hp)) stp s'
end
section
variable {S : Stc} {Γ : τ → Ctx} {s : τ}
theorem js_setLcCE {x : Str} {py spos pos : Pos} {elt : Expr} {gs : List Comprehension} {scope : Scope} {m : Option (α × τ)} {R : α → OP} (i : Nat) (nd : S.N.Nodup) (h : JE S (.ListComp elt gs scope pos) Γ s m R) (hi : ∀ s, ((Γ s)[i]?).isSome = true := by intro _; rfl) (hN : S.N[i]? = some x := by rfl) (hx : S.sc.names.lookup x = some .cell := by rfl) (hp : (S.prot.contains i) = false := by rfl) (hf : S.fn x = true := by rfl) :
    JS S (.Assign [.Name x py] (.ListComp elt gs scope pos) spos) (Γ s) m fun q => .nx ((Γ q.2).set i (some (R q.1))) := fun σ W F sta y hy E k => by
  refine ⟨tAsg (tOf S _) (gName i), fun X hX => ps_set (by rw [hX.N]; exact nd) (by rw [hX.N]; exact hN) (locS (.inr hx) hX) (peO hX) (sw_cell (by rw [hX.sc]; exact hx)) (by rw [hX.fn]; exact .inl hf), h σ W F sta y hy _ fun v W' F' Fv stp sa fp r => ?_⟩
  have hl : i < (Γ y.2).length := by
    have := hi y.2
    cases h : (Γ y.2)[i]? with
    | none => rw [h] at this; cases this
    | some o => exact (List.getElem?_eq_some_iff.mp h).1
  obtain ⟨F2, b1, b2⟩ := sa.put hl r fp
  exact k _ W' F2 (Keep.set (ncon hp)) (stp.perm b2) b1
end
end CC
set_option maxHeartbeats 4000000
/-! Values of any kind. -/
namespace CC
open PySem PySem.Spec L2
open PyProof.Rows hiding St
variable {α β γ δ τ υ ω ρ : Type}
inductive PV where
  | non
  | bl (b : Bool)
  | int (i : Int)
  | str (z : Str)
  | tup (xs : List PV)
  | lst (xs : List PV)
mutual
def anyP (B : Hp) : PV → V → Prop
  | .non, v => v = .non
  | .bl b, v => v = .bl b
  | .int i, v => v = .int i
  | .str z, v => v = .str z
  | .tup xs, v => ∃ a vs, v = .ref a ∧ B a = some (.tup vs) ∧ anysP B xs vs
  | .lst xs, v => ∃ a vs, v = .ref a ∧ B a = some (.lst vs) ∧ anysP B xs vs
def anysP (B : Hp) : List PV → List V → Prop
  | [], [] => True
  | x :: xs, v :: vs => anyP B x v ∧ anysP B xs vs
  | [], _ :: _ => False
  | _ :: _, [] => False
end
mutual
theorem anyP_mono {B B' : Hp} (e : Ex B B') : ∀ (x : PV) (v : V), anyP B x v → anyP B' x v
  | .non, v, h => by unfold anyP at h ⊢; exact h
  | .bl b, v, h => by unfold anyP at h ⊢; exact h
  | .int i, v, h => by unfold anyP at h ⊢; exact h
  | .str z, v, h => by unfold anyP at h ⊢; exact h
  | .tup xs, v, h => by
    unfold anyP at h ⊢
    obtain ⟨a, vs, h1, h2, h3⟩ := h
    exact ⟨a, vs, h1, e a _ h2, anysP_mono e xs vs h3⟩
  | .lst xs, v, h => by
    unfold anyP at h ⊢
    obtain ⟨a, vs, h1, h2, h3⟩ := h
    exact ⟨a, vs, h1, e a _ h2, anysP_mono e xs vs h3⟩
theorem anysP_mono {B B' : Hp} (e : Ex B B') : ∀ (xs : List PV) (vs : List V), anysP B xs vs → anysP B' xs vs
  | [], [], h => by unfold anysP; trivial
  | x :: xs, v :: vs, h => by
    unfold anysP at h ⊢
    exact ⟨anyP_mono e x v h.1, anysP_mono e xs vs h.2⟩
  | [], _ :: _, h => by unfold anysP at h; exact h.elim
  | _ :: _, [], h => by unfold anysP at h; exact h.elim
end
def anyS (x : PV) : SP := ⟨fun B v => anyP B x v, fun h e => anyP_mono e x _ h⟩
theorem anys_each {B : Hp} : ∀ {xs : List PV} {vs : List V}, anysP B xs vs → Each anyS B vs xs
  | [], [], h => trivial
  | x :: xs, v :: vs, h => by
    unfold anysP at h
    exact ⟨h.1, anys_each h.2⟩
  | [], _ :: _, h => by unfold anysP at h; exact h.elim
  | _ :: _, [], h => by unfold anysP at h; exact h.elim
theorem each_anys {B : Hp} : ∀ {xs : List PV} {vs : List V}, Each anyS B vs xs → anysP B xs vs
  | [], [], h => by unfold anysP; trivial
  | x :: xs, v :: vs, h => by
    unfold anysP
    exact ⟨h.1, each_anys h.2⟩
  | [], _ :: _, h => h.elim
  | _ :: _, [], h => h.elim
theorem pv_tup {B : Hp} {xs : List PV} {v : V} (h : (anyS (.tup xs)).P B v) : (tupS anyS xs).P B v := by
  have h' : anyP B (.tup xs) v := h
  unfold anyP at h'
  obtain ⟨a, vs, h1, h2, h3⟩ := h'
  exact ⟨a, vs, h1, h2, anys_each h3⟩
theorem pv_lst {B : Hp} {xs : List PV} {v : V} (h : (anyS (.lst xs)).P B v) : (lstS anyS xs).P B v := by
  have h' : anyP B (.lst xs) v := h
  unfold anyP at h'
  obtain ⟨a, vs, h1, h2, h3⟩ := h'
  exact ⟨a, vs, h1, h2, anys_each h3⟩
/-- a description that is one of any kind -/
structure AnyOf (E : α → SP) (f : α → PV) : Prop where
  go : ∀ B x v, (E x).P B v → (anyS (f x)).P B v
theorem ao_any : AnyOf anyS (fun x => x) := ⟨fun _ _ _ h => h⟩
theorem ao_int : AnyOf intS PV.int := ⟨fun B x v h => by show anyP B (.int x) v; unfold anyP; exact h⟩
theorem ao_bool : AnyOf boolS PV.bl := ⟨fun B x v h => by show anyP B (.bl x) v; unfold anyP; exact h⟩
theorem ao_str : AnyOf strS PV.str := ⟨fun B x v h => by show anyP B (.str x) v; unfold anyP; exact h⟩
theorem ao_non : AnyOf (fun _ : Unit => nonS) (fun _ => PV.non) := ⟨fun B x v h => by show anyP B .non v; unfold anyP; exact h⟩
def optV (f : α → PV) : Option α → PV
  | none => .non
  | some x => f x
theorem ao_opt {E : α → SP} {f : α → PV} (h : AnyOf E f) : AnyOf (optS E) (optV f) := ⟨fun B x v hx => by
  cases x with
  | none => exact ao_non.go B () v hx
  | some x => exact h.go B x v hx⟩
theorem ao_each {E : α → SP} {f : α → PV} (h : AnyOf E f) {B : Hp} : ∀ {xs : List α} {vs : List V}, Each E B vs xs → anysP B (xs.map f) vs
  | [], [], _ => by show anysP B [] []; unfold anysP; trivial
  | x :: xs, v :: vs, e => by
    show anysP B (f x :: xs.map f) (v :: vs)
    unfold anysP
    exact ⟨h.go B x v e.1, ao_each h e.2⟩
  | [], _ :: _, e => e.elim
  | _ :: _, [], e => e.elim
theorem ao_tup {E : α → SP} {f : α → PV} (h : AnyOf E f) : AnyOf (tupS E) (fun xs => PV.tup (xs.map f)) := ⟨fun B x v hx => by
  show anyP B (.tup _) v
  unfold anyP
  obtain ⟨a, vs, h1, h2, h3⟩ := hx
  exact ⟨a, vs, h1, h2, ao_each h h3⟩⟩
theorem ao_lst {E : α → SP} {f : α → PV} (h : AnyOf E f) : AnyOf (lstS E) (fun xs => PV.lst (xs.map f)) := ⟨fun B x v hx => by
  show anyP B (.lst _) v
  unfold anyP
  obtain ⟨a, vs, h1, h2, h3⟩ := hx
  exact ⟨a, vs, h1, h2, ao_each h h3⟩⟩
theorem hts2 {B : Hp} {p q : SP} {vs : List V} (h : Hets B vs [p, q]) : ∃ u v, vs = [u, v] ∧ p.P B u ∧ q.P B v := by
  match vs, h with
  | [u, v], h => exact ⟨u, v, rfl, h.1, h.2.1⟩
theorem hts3 {B : Hp} {p q r : SP} {vs : List V} (h : Hets B vs [p, q, r]) : ∃ u v w, vs = [u, v, w] ∧ p.P B u ∧ q.P B v ∧ r.P B w := by
  match vs, h with
  | [u, v, w], h => exact ⟨u, v, w, rfl, h.1, h.2.1, h.2.2.1⟩
theorem hts4 {B : Hp} {p q r s : SP} {vs : List V} (h : Hets B vs [p, q, r, s]) : ∃ u v w x, vs = [u, v, w, x] ∧ p.P B u ∧ q.P B v ∧ r.P B w ∧ s.P B x := by
  match vs, h with
  | [u, v, w, x], h => exact ⟨u, v, w, x, rfl, h.1, h.2.1, h.2.2.1, h.2.2.2.1⟩
theorem ao_pr {E : α → SP} {G : β → SP} {f : α → PV} {g : β → PV} (h : AnyOf E f) (k : AnyOf G g) : AnyOf (prS E G) (fun p => PV.tup [f p.1, g p.2]) := ⟨fun B x v hx => by
  show anyP B (.tup _) v
  unfold anyP
  obtain ⟨a, vs, h1, h2, h3⟩ := hx
  obtain ⟨u, w, rfl, a1, a2⟩ := hts2 h3
  exact ⟨a, _, h1, h2, each_anys ⟨h.go B _ _ a1, k.go B _ _ a2, trivial⟩⟩⟩
theorem ao_t3 {E : α → SP} {G : β → SP} {I : γ → SP} {f : α → PV} {g : β → PV} {i : γ → PV} (h : AnyOf E f) (k : AnyOf G g) (l : AnyOf I i) : AnyOf (t3S E G I) (fun p => PV.tup [f p.1, g p.2.1, i p.2.2]) := ⟨fun B x v hx => by
  show anyP B (.tup _) v
  unfold anyP
  obtain ⟨a, vs, h1, h2, h3⟩ := hx
  obtain ⟨u, w, y, rfl, a1, a2, a3⟩ := hts3 h3
  exact ⟨a, _, h1, h2, each_anys ⟨h.go B _ _ a1, k.go B _ _ a2, l.go B _ _ a3, trivial⟩⟩⟩
theorem ao_t4 {E : α → SP} {G : β → SP} {I : γ → SP} {J : δ → SP} {f : α → PV} {g : β → PV} {i : γ → PV} {j : δ → PV} (h : AnyOf E f) (k : AnyOf G g) (l : AnyOf I i) (m : AnyOf J j) : AnyOf (t4S E G I J) (fun p => PV.tup [f p.1, g p.2.1, i p.2.2.1, j p.2.2.2]) := ⟨fun B x v hx => by
  show anyP B (.tup _) v
  unfold anyP
  obtain ⟨a, vs, h1, h2, h3⟩ := hx
  obtain ⟨u, w, y, z, rfl, a1, a2, a3, a4⟩ := hts4 h3
  exact ⟨a, _, h1, h2, each_anys ⟨h.go B _ _ a1, k.go B _ _ a2, l.go B _ _ a3, m.go B _ _ a4, trivial⟩⟩⟩
def PV.tyn : PV → String
  | .non => "NoneType"
  | .bl _ => "bool"
  | .int _ => "int"
  | .str _ => "str"
  | .tup _ => "tuple"
  | .lst _ => "list"
def pT : PV → Bool
  | .tup _ => true
  | _ => false
def pL : PV → Bool
  | .lst _ => true
  | _ => false
def pI : PV → Bool
  | .int _ => true
  | .bl _ => true
  | _ => false
def pB : PV → Bool
  | .bl _ => true
  | _ => false
def pS : PV → Bool
  | .str _ => true
  | _ => false
def pN : PV → Bool
  | .non => true
  | _ => false
theorem any_ty {K : PySem.W.Frag} {B H : Hp} (e : Ex B H) : ∀ {x : PV} {v : V}, (anyS x).P B v → TyX K H v (.type x.tyn)
  | .non, v, h => by
    have h' : anyP B .non v := h
    unfold anyP at h'
    subst h'
    exact .base .non
  | .bl b, v, h => by
    have h' : anyP B (.bl b) v := h
    unfold anyP at h'
    subst h'
    exact .base (.bl b)
  | .int i, v, h => by
    have h' : anyP B (.int i) v := h
    unfold anyP at h'
    subst h'
    exact .base (.int i)
  | .str z, v, h => by
    have h' : anyP B (.str z) v := h
    unfold anyP at h'
    subst h'
    exact .base (.str z)
  | .tup xs, v, h => by
    obtain ⟨a, vs, rfl, h2, _⟩ := pv_tup h
    exact .base (.tup (e a _ h2))
  | .lst xs, v, h => by
    obtain ⟨a, vs, rfl, h2, _⟩ := pv_lst h
    exact .base (.lst (e a _ h2))
/-- == of plain values -/
def eqA : PV → PV → Option Bool
  | .non, .non => some true
  | .bl x, .bl y => some (decide (x = y))
  | .int x, .int y => some (decide (x = y))
  | .str x, .str y => some (decide (x = y))
  | _, _ => none
def lenA : PV → Option Int
  | .tup xs => some (xs.length : Int)
  | .lst xs => some (xs.length : Int)
  | _ => none
def ixA (x : PV) (i : Int) : Option PV := match x with
  | .tup xs => atI xs i
  | .lst xs => atI xs i
  | _ => none
def rIxA (K : PySem.W.Frag) : R2 := fun x y H Q => rIxL K x y H Q ∨ rIxT K x y H Q
theorem oIxA {S : Stc} : ∀ X, S.In X → IxR X (rIxA S.K) := fun _ h => h.K ▸ ix_list.or ix_tup
section
variable {S : Stc} {Γ : Ctx} {a b e : Expr} {es : List Expr} {pos : Pos}
theorem jn_any {E : α → SP} {f : α → PV} {m : Option α} (ao : AnyOf E f) (h : JN S e Γ m fun x => sh (E x)) : JN S e Γ (m.bind fun x => some (f x)) fun y => sh (anyS y) :=
  JN.map h fun x W v F r => ⟨r.1, ao.go W.B x v r.2⟩
theorem jn_isiA {p pc : Pos} {c : Str} {cn : String} {m : Option PV} (f : PV → Bool) (hm : S.mg "isinstance" = none) (hmc : S.mg c = none) (h : JN S a Γ m fun x => sh (anyS x)) (hk : (kitB "NoneType" cn, kitB "bool" cn, kitB "int" cn, kitB "str" cn, kitB "tuple" cn, kitB "list" cn) = (some (f .non), some (f (.bl true)), some (f (.int 0)), some (f (.str ⟨#[]⟩)), some (f (.tup [])), some (f (.lst []))) := by decide +kernel) (hf : ∀ b i z xs ys, f (.bl b) = f (.bl true) ∧ f (.int i) = f (.int 0) ∧ f (.str z) = f (.str ⟨#[]⟩) ∧ f (.tup xs) = f (.tup []) ∧ f (.lst ys) = f (.lst []) := by exact fun _ _ _ _ _ => ⟨rfl, rfl, rfl, rfl, rfl⟩) (hg : GlS S "isinstance" := by rfl) (hgc : GlS S c := by rfl) (hvc : bootBuiltins c = some (.type cn) := by decide +kernel) (hn : c ≠ "__name__" := by decide) (hdb : (c == ("__debug__" : Str)) = false := by decide)
    (hs : ∀ env, starEach [a, .Name c pc] env = [(false, eval a env), (false, eval (.Name c pc) env)] := by intro _; rfl) (hs2 : ∀ env, starEach [Expr.Name c pc] env = [(false, eval (.Name c pc) env)] := by intro _; rfl) : JN S (.Call (.Name "isinstance" p) [a, .Name c pc] [] pos) Γ (m.bind fun x => some (f x)) fun z => sh (boolS z) := fun σ W F sta z hz Q kq => by
  have hk' : ∀ x : PV, kitB x.tyn cn = some (f x) := fun x => by
    obtain ⟨k1, k⟩ := Prod.mk.inj hk
    obtain ⟨k2, k⟩ := Prod.mk.inj k
    obtain ⟨k3, k⟩ := Prod.mk.inj k
    obtain ⟨k4, k⟩ := Prod.mk.inj k
    obtain ⟨k5, k6⟩ := Prod.mk.inj k
    cases x with
    | non => exact k1
    | bl b => rw [(hf b 0 ⟨#[]⟩ [] []).1]; exact k2
    | int i => rw [(hf true i ⟨#[]⟩ [] []).2.1]; exact k3
    | str z => rw [(hf true 0 z [] []).2.2.1]; exact k4
    | tup xs => rw [(hf true 0 ⟨#[]⟩ xs []).2.2.2.1]; exact k5
    | lst xs => rw [(hf true 0 ⟨#[]⟩ [] xs).2.2.2.2]; exact k6
  obtain ⟨x, h1, h2⟩ := run1 hz
  cases h2
  refine ⟨tCB (rIsi S.K) (tCons (tOf S a) (tCons (tC (.ty cn)) tNil)), fun X hX => pe_callB (hX.K ▸ call_isi) (hg.gl hX) (mgS hm hX) (by decide +kernel) (pa_cons (peO hX) (pa_cons (pe_bltn (v := .ty cn) (hgc.gl hX) (mgS hmc hX) hvc rfl hn hdb) pa_nil (hs2 _)) ((hs _).trans (by rw [hs2]))) (by decide) (by decide) ((hs _).trans (by rw [hs2])) (by rw [hs2]; rfl), h σ W F sta x h1 _ fun v W' Fv ext _ _ r => ?_⟩
  exact ⟨v, .ty cn, .type x.tyn, .type cn, f x, rfl, .ty cn, any_ty ext.ok r.2, kit_ty (hk' x), (kq.ext ext).val ext.ok rfl⟩
theorem any_non {B : Hp} : ∀ {x : PV} {v : V}, (anyS x).P B v → decide (v = V.non) = pN x
  | .non, v, h => by
    have h' : anyP B .non v := h
    unfold anyP at h'
    subst h'
    rfl
  | .bl b, v, h => by
    have h' : anyP B (.bl b) v := h
    unfold anyP at h'
    subst h'
    rfl
  | .int i, v, h => by
    have h' : anyP B (.int i) v := h
    unfold anyP at h'
    subst h'
    rfl
  | .str z, v, h => by
    have h' : anyP B (.str z) v := h
    unfold anyP at h'
    subst h'
    rfl
  | .tup xs, v, h => by
    obtain ⟨a, vs, rfl, h2, _⟩ := pv_tup h
    rfl
  | .lst xs, v, h => by
    obtain ⟨a, vs, rfl, h2, _⟩ := pv_lst h
    rfl
theorem ov_isNA : OpV (fun x y H Q => y = .non ∧ Q (.bl (decide (x = .non))) H) anyS (fun _ : Unit => nonS) (fun x _ => some (pN x)) fun z => sh (boolS z) := fun W x y v u z ok hx hy e Q k => by
  cases e
  cases hy
  refine ⟨rfl, ?_⟩
  rw [any_non hx]
  exact k.val ok rfl
theorem ov_notNA : OpV (fun x y H Q => y = .non ∧ Q (.bl (!decide (x = .non))) H) anyS (fun _ : Unit => nonS) (fun x _ => some (!pN x)) fun z => sh (boolS z) := fun W x y v u z ok hx hy e Q k => by
  cases e
  cases hy
  refine ⟨rfl, ?_⟩
  rw [any_non hx]
  exact k.val ok rfl
theorem any_flat {B : Hp} : ∀ {x y : PV} {v u : V} {z : Bool}, (anyS x).P B v → (anyS y).P B u → eqA x y = some z → scal v u = true ∧ decide (v = u) = z
  | .non, .non, v, u, z, hx, hy, e => by
    have h1 : anyP B .non v := hx
    have h2 : anyP B .non u := hy
    unfold anyP at h1 h2
    subst h1 h2
    cases e
    exact ⟨rfl, by simp⟩
  | .bl x, .bl y, v, u, z, hx, hy, e => by
    have h1 : anyP B (.bl x) v := hx
    have h2 : anyP B (.bl y) u := hy
    unfold anyP at h1 h2
    subst h1 h2
    cases e
    exact ⟨rfl, by simp⟩
  | .int x, .int y, v, u, z, hx, hy, e => by
    have h1 : anyP B (.int x) v := hx
    have h2 : anyP B (.int y) u := hy
    unfold anyP at h1 h2
    subst h1 h2
    cases e
    exact ⟨rfl, by simp⟩
  | .str x, .str y, v, u, z, hx, hy, e => by
    have h1 : anyP B (.str x) v := hx
    have h2 : anyP B (.str y) u := hy
    unfold anyP at h1 h2
    subst h1 h2
    cases e
    exact ⟨rfl, by simp⟩
theorem ov_eqA : OpV rEq anyS anyS eqA fun z => sh (boolS z) := fun W x y v u z ok hx hy e Q k => by
  obtain ⟨h1, h2⟩ := any_flat hx hy e
  exact ⟨h1, k.val ok (by rw [h2]; rfl)⟩
theorem ov_neA : OpV rNe anyS anyS (fun x y => (eqA x y).bind fun b => some (!b)) fun z => sh (boolS z) := fun W x y v u z ok hx hy e Q k => by
  obtain ⟨b, e1, e2⟩ := run1 e
  cases e2
  obtain ⟨h1, h2⟩ := any_flat hx hy e1
  exact ⟨h1, k.val ok (by rw [h2]; rfl)⟩
theorem iv_any {K : PySem.W.Frag} : IxV (rIxA K) (fun x => sh (anyS x)) intS ixA fun x => sh (anyS x) := fun W x y v u z F1 ok hx hy e Q k => by
  cases x with
  | tup xs => exact .inr (iv_tup W xs y v u z F1 ok ⟨hx.1, pv_tup hx.2⟩ hy e Q k)
  | lst xs => exact .inl (iv_lst W xs y v u z F1 ok ⟨hx.1, pv_lst hx.2⟩ hy e Q k)
  | non => cases e
  | bl _ => cases e
  | int _ => cases e
  | str _ => cases e
theorem len_any {m : Option PV} {p : Pos} (hm : S.mg "len" = none) (h : JN S a Γ m fun x => sh (anyS x)) (hg : GlS S "len" := by rfl) (hs : ∀ env, starEach [a] env = [(false, eval a env)] := by intro _; rfl) : JN S (.Call (.Name "len" p) [a] [] pos) Γ (m.bind fun x => lenA x) fun z => sh (intS z) :=
  jn_b1 (r := fun xs H Q => ∃ p ys, xs = [.ref p] ∧ (SqL S.K H p ys ∨ SqT S.K H p ys) ∧ Q (.int ys.length) H) (f := lenA) (fun X hX => hX.K ▸ call_len_seq) (fun W x v z ok hh e Q k => by
    cases x with
    | tup xs =>
      cases e
      obtain ⟨p, vs, rfl, q2, q3⟩ := pv_tup hh
      exact ⟨p, vs, rfl, .inr (.inl (.inl (ok p _ q2))), k.val ok (by rw [q3.len]; rfl)⟩
    | lst xs =>
      cases e
      obtain ⟨p, vs, rfl, q2, q3⟩ := pv_lst hh
      exact ⟨p, vs, rfl, .inl (.inl (.inl (ok p _ q2))), k.val ok (by rw [q3.len]; rfl)⟩
    | non => cases e
    | bl _ => cases e
    | int _ => cases e
    | str _ => cases e) hm h hg PySem.boot_len (by decide) (by decide) hs
end
/-- nothing is promised yet -/
theorem fn_zero {P : Program} {w : World} {K : PySem.W.Frag} {mg : Str → Option Value} {base : Heap} {x qual : Str} {st : Stmt} {f : Addr} {fd : FuncData} {dvs : List V} {kwd : List (Str × V)} {N ps : List Str} {k : Nat} {G : α → List SP} {R : ρ → OP} (F : FunD K x qual (defArgs st) (defBody st) (defScope st) dvs kwd f fd) (Sc : FnScope N ps (defScope st)) :
    FnOk P w K mg base CX0 (k + 1) f fd ps (spP G (fun _ => none) R) := by
  refine F.ok Sc (fun vs H Q E h => ?_) (fun cdv A outer s H vs Q E hr h => ?_)
  · obtain ⟨a, W, r, _, _, _, h4, _⟩ := h
    cases h4
  · obtain ⟨a, W, r, _, _, _, h4, _⟩ := h
    cases h4
end CC
set_option maxHeartbeats 4000000
/-! Exceptions. -/
namespace CC
open PySem PySem.Spec L2
open PyProof.Rows hiding St
variable {α β γ δ τ υ ω ρ ε : Type}
inductive Res (ε α : Type) where
  | ok (a : α)
  | er (e : ε)
def Res.k (r : Res ε α) (f : α → Option ω) (g : ε → Option ω) : Option ω := match r with
  | .ok a => f a
  | .er e => g e
def XD (Γl : α → Ctx) (Γx : Ctx) (Xp : ε → XP) : Res ε α → Kd
  | .ok a => .nx (Γl a)
  | .er e => .xc Γx (Xp e)
def RX (Δ Δx : Ctx) (R : α → OP) (Xp : ε → XP) : Res ε α → Kd
  | .ok a => .rt Δ (R a)
  | .er e => .xc Δx (Xp e)
def JNX (S : Stc) (e : Expr) (Γ : Ctx) (m : Option (Res ε α)) (R : α → OP) (Xp : ε → XP) : Prop :=
  ∀ σ W F, Sta Γ σ W F → ∀ r, m = some r → ∀ Q : VK, (match r with | .ok x => Got (R x) W Q | .er e => ∀ c d W', Ext W W' → (Xp e).P W'.B c d → S.W c d σ W'.H) → tOf S e σ W.H Q
def spX (G : α → List SP) (fM : α → Option (Res ε ρ)) (R : ρ → OP) (Xp : ε → XP) : Sp := fun vs H Q E => ∃ x W r, W.H = H ∧ Ex W.B W.H ∧ Hets W.B vs (G x) ∧ fM x = some r ∧ (match r with | .ok y => Got (R y) W Q | .er e => ∀ c d W', Ext W W' → (Xp e).P W'.B c d → E c d W'.H)
def tmOf (S : Stc) (e : Expr) : L2.St → Hp → XK → Prop := fun σ H Q => ∃ t : L2.St → Hp → XK → Prop, (∀ X, S.In X → PMk X e t) ∧ t σ H Q
theorem pmO {S : Stc} {X : Cx} {e : Expr} (h : S.In X) : PMk X e (tmOf S e) := fun pins s σ H Q I ⟨_, p, q⟩ => p X h pins s σ H Q I q
/-- an expression that makes an exception -/
def JM (S : Stc) (e : Expr) (Γ : Ctx) (m : Option ε) (Xp : ε → XP) : Prop :=
  ∀ σ W F, Sta Γ σ W F → ∀ x, m = some x → ∀ Q : XK, (∀ c d W', Ext W W' → (Xp x).P W'.B c d → Q c d W'.H) → tmOf S e σ W.H Q
section
variable {S : Stc} {Γ Δ : Ctx} {a b c e : Expr} {es : List Expr} {pos : Pos} {st : Stmt} {rest A B : List Stmt}
theorem jx_of {m : Option α} {R : α → OP} {Xp : ε → XP} (h : JN S e Γ m R) : JNX S e Γ (m.bind fun x => some (Res.ok x)) R Xp := fun σ W F sta r hr Q k => by
  obtain ⟨x, h1, h2⟩ := run1 hr
  cases h2
  exact h σ W F sta x h1 Q k
theorem jx_call {x : Str} {p : Pos} {f : Addr} {fd : FuncData} {ps : List Str} {k : Nat} {G : α → List SP} {fM : α → Option (Res ε ρ)} {R : ρ → OP} {Xp : ε → XP} {m : Option α} (Fn : FnOk S.P S.w S.K S.mg S.base (L2.CX S.P S.w) k f fd ps (spX G fM R Xp)) (hm : S.mg x = some (.ref f)) (kp : PySem.W.keepIn S.K (.ref f) = true) (hb : Binds S.K fd ps [])
    (hk : k ≤ S.k) (ha : JA S (e :: es) Γ m G) (hg : GlS S x := by rfl) (hdb : (x == ("__debug__" : Str)) = false := by decide) (he : ∀ env, starEach (e :: es) env = (false, eval e env) :: starEach es env := by intro _; rfl) (hpl : ∀ env, (backTo pos (starEach es env)).any (·.1) = false := by intro _; rfl) (hcm : S.calm = true := by rfl) :
    JNX S (.Call (.Name x p) (e :: es) [] pos) Γ (m.bind fun y => fM y) R Xp := fun σ W F st z hz Q kk => by
  obtain ⟨y, h1, h2⟩ := run1 hz
  refine ⟨tCallS (spX G fM R Xp) (WE S.W) (taOf S (e :: es)), fun X hX => pe_callS (fnokS Fn hX) ((hX.room hcm).mono hk) (hg.gl hX) (mgS hm hX) (by rw [hX.K]; exact kp) (by rw [hX.K]; exact hb) (fun σ => by rw [← hX.prog, ← hX.w]; exact passAt hX.tk σ) (paO hX) hdb (he _) (hpl _), ha σ W F st y h1 _ fun vs W' ext hh => ?_⟩
  refine ⟨y, W', z, rfl, ext.ok, hh, h2, ?_⟩
  cases z with
  | ok v => exact Got.ext kk ext
  | er u => exact fun c d W2 e2 hp => kk c d W2 (ext.trans e2) hp
theorem jx_if {mc : Option Bool} {ma mb : Option (Res ε α)} {R : α → OP} {Xp : ε → XP} (hc : JT S c Γ mc) (ha : JNX S a Γ ma R Xp) (hb : JNX S b Γ mb R Xp) : JNX S (.IfExp c a b pos) Γ (mc.bind fun t => bif t then ma else mb) R Xp := fun σ W F st z hz Q k => by
  obtain ⟨t, h1, h2⟩ := run1 hz
  refine ⟨tIf (ttOf S c) (tOf S a) (tOf S b), fun X hX => pe_ifExp (ptO hX) (peO hX) (peO hX), hc σ W F st t h1 _ fun W1 e1 => ?_⟩
  cases t with
  | true =>
    refine iteT (ha σ W1 F (st.ext e1) z h2 Q ?_)
    cases z with
    | ok x => exact Got.ext k e1
    | er u => exact fun c d W2 e2 hp => k c d W2 (e1.trans e2) hp
  | false =>
    refine iteF (hb σ W1 F (st.ext e1) z h2 Q ?_)
    cases z with
    | ok x => exact Got.ext k e1
    | er u => exact fun c d W2 e2 hp => k c d W2 (e1.trans e2) hp
def JAX (S : Stc) (es : List Expr) (Γ : Ctx) (m : Option (Res ε α)) (G : α → List SP) (Xp : ε → XP) : Prop :=
  ∀ σ W F, Sta Γ σ W F → ∀ r, m = some r → ∀ Q : List V → Hp → Prop, (match r with | .ok x => ∀ vs W', Ext W W' → Hets W'.B vs (G x) → Q vs W'.H | .er e => ∀ c d W', Ext W W' → (Xp e).P W'.B c d → S.W c d σ W'.H) → taOf S es σ W.H Q
def consX (r : Res ε α) (m : Option (Res ε β)) : Option (Res ε (α × β)) := r.k (fun x => m.bind fun q => q.k (fun y => some (.ok (x, y))) fun e => some (.er e)) fun e => some (.er e)
theorem jax_of {m : Option α} {G : α → List SP} {Xp : ε → XP} (h : JA S es Γ m G) : JAX S es Γ (m.bind fun x => some (Res.ok x)) G Xp := fun σ W F sta r hr Q k => by
  obtain ⟨x, h1, h2⟩ := run1 hr
  cases h2
  exact h σ W F sta x h1 Q k
theorem jax_cons {ma : Option (Res ε α)} {mb : Option (Res ε β)} {E : α → SP} {G : β → List SP} {Xp : ε → XP} (ha : JNX S e Γ ma (fun x => sh (E x)) Xp) (hb : JAX S es Γ mb G Xp) (hs : ∀ env, starEach (e :: es) env = (false, eval e env) :: starEach es env := by intro _; rfl) :
    JAX S (e :: es) Γ (ma.bind fun r => consX r mb) (fun p => E p.1 :: G p.2) Xp := fun σ W F st z hz Q k => by
  obtain ⟨r, h1, h2⟩ := run1 hz
  refine ⟨tCons (tOf S e) (taOf S es), fun X hX => pa_cons (peO hX) (paO hX) (hs _), ha σ W F st r h1 _ ?_⟩
  cases r with
  | er u =>
    cases h2
    exact k
  | ok x =>
    obtain ⟨q, h3, h4⟩ := run1 (f := fun q : Res ε β => q.k (fun y => some (Res.ok (x, y))) fun e => some (.er e)) h2
    intro v W1 F1 e1 _ _ r1
    refine hb σ W1 F (st.ext e1) q h3 _ ?_
    cases q with
    | er u =>
      cases h4
      exact fun c d W2 e2 hp => k c d W2 (e1.trans e2) hp
    | ok y =>
      cases h4
      exact fun vs W2 e2 h => k (v :: vs) W2 (e1.trans e2) ⟨SP.mono _ r1.2 e2.b, h⟩
def mapX (g : α → β) : Res ε α → Res ε β
  | .ok x => .ok (g x)
  | .er e => .er e
theorem jx_tupG {m : Option (Res ε α)} {G : α → List SP} {P : β → SP} {g : α → β} {Xp : ε → XP} {k : Nat} (h : JAX S es Γ m G Xp) (hR : ∀ x, htupS (G x) = P (g x) := by intro _; rfl) (hl : ∀ x, (G x).length ≤ 1000 := by intro _; exact Nat.le_of_ble_eq_true rfl) : JNX S (.Tuple es k pos) Γ (m.bind fun r => some (mapX g r)) (fun y => sh (P y)) Xp := fun σ W F st z hz Q kk => by
  obtain ⟨r, h1, h2⟩ := run1 hz
  cases h2
  refine ⟨tTup (taOf S es), fun X hX => pe_tup (paO hX), h σ W F st r h1 _ ?_⟩
  cases r with
  | er u => exact kk
  | ok x =>
    intro vs W' e hh
    refine ⟨Nat.le_trans (by rw [hh.len]; exact hl x) (by decide), fun q hq => ?_⟩
    have e2 := Ext.newB e.ok (o := .tup vs) hq
    exact kk (.ref q) ⟨upd W'.H q (.tup vs), upd W'.B q (.tup vs)⟩ [] (e.trans e2) (fun _ h => (List.not_mem_nil h).elim) FpOk.nil ⟨rfl, by rw [← hR]; exact ⟨q, vs, rfl, upd_same, hh.mono e2.b⟩⟩
theorem js_setX {x : Str} {pos' : Pos} {m : Option (Res ε α)} {R : α → OP} {Xp : ε → XP} (i : Nat) (nd : S.N.Nodup) (h : JNX S e Γ m R Xp) (hi : (Γ[i]?).isSome = true := by rfl) (hN : S.N[i]? = some x := by rfl) (hx : Loc S.sc x := by first | exact Or.inl rfl | exact Or.inr rfl) (hp : (S.prot.contains i) = false := by rfl)
    (hs : ∀ env, swapsWith e (some (.Name x pos')) pos.line env = pure false := by intro _; rfl) (hf : S.fn x = true ∨ S.sc.names.lookup x = some .local := by first | exact .inl rfl | exact .inr rfl) : JS S (.Assign [.Name x pos'] e pos) Γ m (XD (fun a => Γ.set i (some (R a))) Γ Xp) := fun σ W F sta y hy E k => by
  refine ⟨tAsg (tOf S e) (gName i), fun X hX => ps_set (by rw [hX.N]; exact nd) (by rw [hX.N]; exact hN) (locS hx hX) (peO hX) (hs _) (by rw [hX.fn, hX.sc]; exact hf), h σ W F sta y hy _ ?_⟩
  cases y with
  | ok v =>
    exact fun v W' Fv ext fr fp r => by
      obtain ⟨F', s', stp⟩ := sta_set sta ext fr fp r hi
      exact k _ W' F' (Keep.set (ncon hp)) stp s'
  | er u => exact fun c d W' ext hp => k c d σ W' F Keep.refl ext.stp0 (sta.ext ext) hp
theorem jb_retX {m : Option (Res ε α)} {R : α → OP} {Xp : ε → XP} {Δx : Ctx} (w : Weak Γ Δ) (wx : Weak Γ Δx) (h : JNX S e Γ m R Xp) : JB S (.Return (some e) pos :: rest) Γ m (RX Δ Δx R Xp) := fun σ W F sta y hy E k => by
  refine ⟨tSeq (tRet (tOf S e)) tNever, fun X hX => pss_cons (ps_ret (peO hX)) pss_never, h σ W F sta y hy _ ?_⟩
  cases y with
  | ok v =>
    exact fun v W' Fv ext fr fp r => by
      obtain ⟨F', s', sub⟩ := (sta.ext ext).weak w
      have stp := (ext.stp (F := F) fr).perm (F2 := F' ++ Fv) fun b hb => by
        rcases List.mem_append.mp hb with z | z
        · exact List.mem_append_left _ (sub b z)
        · exact List.mem_append_right _ z
      have fp' := sta.fp.fresh ext fp fr
      have fp2 : FpOk W' (F' ++ Fv) := s'.fp.app fp fun b hb h2 => fp'.disj b (sub b hb) h2
      exact k v σ W' F' Fv Keep.refl stp s' fp2 r
  | er u =>
    exact fun c d W' ext hp => by
      obtain ⟨F', s', sub⟩ := (sta.ext ext).weak wx
      exact k c d σ W' F' Keep.refl (ext.stp0.perm sub) s' hp
theorem jb_consX {ms : Option (Res ε α)} {Γl : α → Ctx} {Xp : ε → XP} {mr : α → Option ω} {D : ω → Kd} (ι : ε → ω) (w : Weak Γ Δ) (h : JS S st Γ ms (XD Γl Γ Xp)) (hι : ∀ e, D (ι e) = .xc Δ (Xp e)) (hr : ∀ x, JB S rest (Γl x) (mr x) D) : JB S (st :: rest) Γ (ms.bind fun r => r.k mr fun e => some (ι e)) D := fun σ W F sta z hz E k => by
  obtain ⟨r, h1, h2⟩ := run1 hz
  refine ⟨tSeq (tsOf S st) (tbOf S rest), fun X hX => pss_cons (psO hX) (pbO hX), ?_⟩
  refine h σ W F sta r h1 { E with nx := tbOf S rest E } ?_
  cases r with
  | ok x => exact fun σ' W' F' kp stp sta' => hr x σ' W' F' sta' z h2 E (k.before kp stp)
  | er u =>
    cases h2
    rw [hι] at k
    exact fun c d σ' W' F' kp stp sta' hp => by
      obtain ⟨F2, s', sub⟩ := sta'.weak w
      exact k c d σ' W' F2 kp (stp.perm sub) s' hp
theorem jb_raise {m : Option ε} {Xp : ε → XP} {D : ω → Kd} (ι : ε → ω) (w : Weak Γ Δ) (h : JM S e Γ m Xp) (hι : ∀ e, D (ι e) = .xc Δ (Xp e)) (hcm : S.calm = true := by rfl) : JB S (.Raise (some e) none pos :: rest) Γ (m.bind fun e => some (ι e)) D := fun σ W F sta z hz E k => by
  obtain ⟨u, h1, h2⟩ := run1 hz
  cases h2
  rw [hι] at k
  refine ⟨tSeq (fun _ σ H => tmOf S e σ H fun cls d H' => S.W cls d σ H') tNever, fun X hX => pss_cons (ps_raise (hX.calm.trans hcm) hX.tk (pmO hX)) pss_never, h σ W F sta u h1 _ fun c d W' ext hp => ?_⟩
  obtain ⟨F', s', sub⟩ := (sta.ext ext).weak w
  exact k c d σ W' F' Keep.refl (ext.stp0.perm sub) s' hp
end
/-- a def that may raise -/
theorem in_cxX {P : Program} {w : World} {K : PySem.W.Frag} {mg : Str → Option Value} {base : Heap} {N : List Str} {st : Stmt} {k : Nat} {prot : List Nat} {qual : Str} {f : Addr} {cdv : Value} {A : Around} {outer : List Env} {s : Shared} {H : Hp} {E : XK} (hr : Room k (A.deeper (envOfC qual (defScope st) s.heap.objs.size f cdv))) :
    ({ stcOf P w K mg base N (defScope st) k prot with W := fun c d _ H => E c d H } : Stc).In (cxOf (L2.CX P w) P w K mg base N qual (defScope st) f cdv A outer s H E) := ⟨rfl, rfl, rfl, rfl, rfl, rfl, rfl, rfl, rfl, fun _ => hr, hr.units, passes_of rfl, takes_of rfl rfl rfl rfl, fun _ => ⟨rfl, rfl⟩, nofun⟩
theorem fnd_pureX {P : Program} {w : World} {K : PySem.W.Frag} {mg : Str → Option Value} {base : Heap} {x qual : Str} {st : Stmt} {f : Addr} {fd : FuncData} {dvs : List V} {kwd : List (Str × V)} {N ps : List Str} {k : Nat} {G : α → List SP} {fM : α → Option (Res ε ρ)} {R : ρ → OP} {Xp : ε → XP} {Δ : Ctx} (F : FunD K x qual (defArgs st) (defBody st) (defScope st) dvs kwd f fd) (Sc : FnScope N ps (defScope st)) (hG : ∀ a, (G a).length = ps.length) (hn : ps.length ≤ N.length)
    (body : ∀ a (wx : WX), JB { stcOf P w K mg base N (defScope st) k [] with W := wx } (defBody st) (shC (G a) ++ nonC (N.length - ps.length)) (fM a) (RX Δ Δ R Xp)) : FnOk P w K mg base (L2.CX P w) (k + 1) f fd ps (spX G fM R Xp) := by
  refine F.ok Sc (fun vs H Q E h => ?_) (fun cdv A outer s H vs Q E hr h => ?_)
  · obtain ⟨a, W, r, _, _, h3, _⟩ := h
    rw [h3.len, hG]
  · obtain ⟨a, W, r, rfl, ok, h3, h4, kq⟩ := h
    refine ⟨tbOf { stcOf P w K mg base N (defScope st) k [] with W := fun c d _ H => E c d H } (defBody st), pbO (in_cxX hr), ?_⟩
    have hl : vs.length = ps.length := h3.len.trans (hG a)
    have sta : Sta (shC (G a) ++ nonC (N.length - ps.length)) (L2.start N vs) W [] := ⟨ok, FpOk.nil, by unfold L2.start shC nonC; simp [h3.len, hG, hl], by unfold L2.start; rw [hl]; exact holds_sh h3⟩
    refine body a _ _ W [] sta r h4 _ ?_
    cases r with
    | ok y =>
      intro v σ' W' F' Fv _ stp _ fp rr
      obtain ⟨ext, fr⟩ := stp.ext
      exact kq v W' Fv ext (fun a ha => fr a (List.mem_append_right _ ha)) fp.right rr
    | er u => exact fun c d σ' W' F' _ stp _ hp => kq c d W' stp.ext.1 hp
/-! ### what is raised -/
/-- an exception of the class at C, without attributes -/
def clsX (C : Addr) : XP := ⟨fun _ c d => c = .ref C ∧ d = none, fun h _ => h⟩
/-- an exception of the class C that holds this under that name (or nothing) -/
def excD (o : Option (Str × SP)) (B : Hp) (d : Option Addr) : Prop := match o with
  | none => d = none
  | some q => ∃ dd w, d = some dd ∧ B dd = some (.xd [(q.1, w)]) ∧ q.2.P B w
theorem excD_mono {o : Option (Str × SP)} {B B' : Hp} {d : Option Addr} (h : excD o B d) (e : Ex B B') : excD o B' d := by
  cases o with
  | none => exact h
  | some q =>
    obtain ⟨dd, w, h1, h2, h3⟩ := h
    exact ⟨dd, w, h1, e _ _ h2, q.2.mono h3 e⟩
def excX (C : Addr) (o : Option (Str × SP)) : XP := ⟨fun B c d => c = .ref C ∧ excD o B d, fun h e => ⟨h.1, excD_mono h.2 e⟩⟩
/-- it, caught -/
def excS (a : Addr) (d : Option Addr) (o : Option (Str × SP)) : SP := ⟨fun B v => v = .ref a ∧ excD o B d, fun h e => ⟨h.1, excD_mono h.2 e⟩⟩
/-- what the top tells of such a class -/
structure ExcF (K : PySem.W.Frag) (C : Addr) : Prop where
  q : PySem.W.excIn K C He.veBase "ValueError.__new__" = true
  kp : PySem.W.keepIn K (.ref C) = true
  s : PySem.W.subIn K (.ref C) (.type "BaseException") = some true
  t : PySem.W.typeIn K (.ref C) = some (.type "type")
theorem pmk_own0 {X : Cx} {C : Addr} {bmB : List Value} {B newId initId : String} {x : Str} {p pos : Pos} (F : ExcBaseFacts B newId initId bmB) (q : PySem.W.excIn X.K C bmB newId = true) (gC : X.mg x = some (.ref C))
    (kC : PySem.W.keepIn X.K (.ref C) = true) (r : Raises X (.ref C)) (hg : Gl X x) (hdb : (x == ("__debug__" : Str)) = false := by decide) :
    PMk X (.Call (.Name x p) [] [] pos) (fun _ H Q => Q (.ref C) none H) := by
  intro pins s σ H Q I h
  refine wpAny_Call_Name_kw (ld_glob I hg gC ?_ hdb)
  refine PySem.W.callWith_K0 I.kIn kC ?_
  show wpAny _ _ (call (.ref C) []) _ _ _
  obtain ⟨bm, N, nm, qn, bs, hdct, sn, sub, ab, col, dd, k0, k1, k2, k3, k5, mN, hC, hN, hni, T⟩ := exc_obj I.kIn q
  refine wpAny_call_exc_subT F T hC hN hni (fun h' e hm => ?_) (by show 0 ≤ sizeLine; exact Nat.zero_le _)
  exact mk_of I hm r h (I.hok.gone hm.new)
section
variable {S : Stc} {Γ Δ : Ctx} {a b c e : Expr} {es : List Expr} {pos : Pos} {st : Stmt} {rest A B : List Stmt}
theorem jm_own0 {x : Str} {p : Pos} {C : Addr} {u : ε} {Xp : ε → XP} (F : ExcF S.K C) (hm : S.mg x = some (.ref C)) (hX : Xp u = clsX C := by rfl) (hg : GlS S x := by rfl) (hdb : (x == ("__debug__" : Str)) = false := by decide) : JM S (.Call (.Name x p) [] [] pos) Γ (some u) Xp := fun σ W F' sta y hy Q k => by
  cases hy
  refine ⟨fun _ H Q => Q (.ref C) none H, fun X hX' => pmk_own0 PySem.F.excBase_ValueError (by rw [hX'.K]; exact F.q) (mgS hm hX') (by rw [hX'.K]; exact F.kp) (raises_own (by rw [hX'.K]; exact F.s) (by rw [hX'.K]; exact F.t)) (hg.gl hX') hdb, k _ _ W (Ext.refl sta.ok) ?_⟩
  rw [hX]
  exact ⟨rfl, rfl⟩
theorem jm_ownA {x : Str} {p : Pos} {C : Addr} {m : Option α} {G : α → List SP} {u : α → ε} {Xp : ε → XP} (F : ExcF S.K C) (hm : S.mg x = some (.ref C)) (ha : JA S (e :: es) Γ m G) (hX : ∀ y, Xp (u y) = clsX C := by intro _; rfl) (hl : ∀ y, (G y).length ≤ 1000 := by intro _; exact Nat.le_of_ble_eq_true rfl) (hg : GlS S x := by rfl) (hdb : (x == ("__debug__" : Str)) = false := by decide)
    (he : ∀ env, starEach (e :: es) env = (false, eval e env) :: starEach es env := by intro _; rfl) (hpl : ∀ env, (backTo pos (starEach es env)).any (·.1) = false := by intro _; rfl) : JM S (.Call (.Name x p) (e :: es) [] pos) Γ (m.bind fun y => some (u y)) Xp := fun σ W F' sta y hy Q k => by
  obtain ⟨y, h1, h2⟩ := run1 hy
  cases h2
  refine ⟨fun σ H Q => taOf S (e :: es) σ H fun vs H1 => vs.length ≤ sizeLine ∧ Q (.ref C) none H1, fun X hX' => pmk_ownA PySem.F.excBase_ValueError (by rw [hX'.K]; exact F.q) (mgS hm hX') (by rw [hX'.K]; exact F.kp) (raises_own (by rw [hX'.K]; exact F.s) (by rw [hX'.K]; exact F.t)) (hg.gl hX') (paO hX') hdb (he _) (hpl _), ha σ W F' sta y h1 _ fun vs W1 ext hh => ⟨?_, k _ _ W1 ext ?_⟩⟩
  · rw [hh.len]
    exact Nat.le_trans (hl y) (by decide)
  · rw [hX]
    exact ⟨rfl, rfl⟩
/-! ### try .. except C: (every exception of the body is C's) -/
/-- the context of an except suite -/
abbrev Stc.sui (S : Stc) : Stc := { S with W := fun _ _ _ _ => False, calm := false, top := false, ex := none }
theorem Stc.In.sui {X : Cx} (h : S.In X) (a : Addr) (pn : List (Addr × Obj)) : S.sui.In (X.suite a pn) :=
  ⟨h.prog, h.w, h.K, h.mg, h.base, h.N, h.sc, h.fn, rfl, nofun, h.un, PassesOwn.never, takes_none, nofun, nofun⟩
theorem Stc.In.tr {X : Cx} (h : S.In X) (hx : S.ex = none) {W : WX} {pn : List (Addr × Obj)} {xe : Value → Shared → Prop} (tk : Takes (X.tr pn xe) W) (pass : PassesOwn (model X.prog X.w) X.A X.env xe) : ({ S with W := W } : Stc).In (X.tr pn xe) :=
  ⟨h.prog, h.w, h.K, h.mg, h.base, h.N, h.sc, h.fn, h.calm, h.room, h.un, pass, tk, h.top, fun a C d z => by have : S.ex = some (a, C, d) := z; rw [hx] at this; cases this⟩
/-- what the handler does with the body's outcome -/
def tryM (m : Option (Res ε ω)) (f : ε → Option ω) : Option ω := m.bind fun r => r.k (fun x => some x) f
def TD (D : ω → Kd) (Γx : Ctx) (Xp : ε → XP) : Res ε ω → Kd
  | .ok x => D x
  | .er e => .xc Γx (Xp e)
theorem js_try {x : Str} {c : Value} {np pos' : Pos} {b₀ : Stmt} {mb : Option (Res ε ω)} {ms : ε → Option ω} {Xp : ε → XP} {D : ω → Kd} (Γx : Ctx) (hb : ∀ wx : WX, JB { S with W := wx } B Γ mb (TD D Γx Xp)) (hs : ∀ u, JB S.sui (b₀ :: A) Γx (ms u) D) (hm : S.mg x = some c) (hx : ∀ u B c' d, (Xp u).P B c' d → PySem.W.exmOne S.K c' c = some true)
    (hx0 : ∀ o, ∀ Γ' R, D o ≠ .xc Γ' R) (hg : GlS S x := by rfl) (hdb : (x == ("__debug__" : Str)) = false := by decide) (htop : S.top = true := by rfl) (hex : S.ex = none := by rfl) : JS S (.Try B [.ExceptHandler (some (.Name x np)) none (b₀ :: A) pos'] [] [] pos) Γ (tryM mb ms) D := fun σ W F sta z hz E k => by
  obtain ⟨r, h1, h2⟩ := run1 hz
  refine ⟨fun D σ H => tbOf { S with W := wOnly S.K c (fun _ _ _ => tbOf S.sui (b₀ :: A)) S.W D } B D σ H, fun X hX => ?_, ?_⟩
  · obtain ⟨t1, t2⟩ := hX.top htop
    have := ps_try_only (pos := pos) (pos' := pos') (np := np) t1 t2 (c := c) (x := x) (b₀ := b₀) (suite := A) (body := B) (ts := fun _ _ _ => tbOf S.sui (b₀ :: A)) (tb := fun W => tbOf { S with W := W } B) ⟨hg.gl hX, hdb, .inl (mgS hm hX)⟩ hX.tk (fun W pn xe tk pass => pbO (hX.tr hex tk pass)) (fun a oe cls d pn _ _ => pbO (hX.sui a _))
    rw [hX.K] at this
    exact this
  · refine hb _ σ W F sta r h1 E ?_
    cases r with
    | ok o =>
      cases h2
      show Post _ S.prot σ W F E (D z)
      generalize hq : D z = q at k
      cases q with
      | nx Γ => exact k
      | bk Γ => exact k
      | ct Γ => exact k
      | rt Γ R => exact k
      | xc Γ R => exact absurd hq (hx0 z Γ R)
    | er u =>
      intro c' d σ' W' F' kp stp sa hp
      refine ⟨true, hx u _ _ _ hp, fun _ a ha => ?_, fun q => nomatch q⟩
      refine hs u σ' W' F' sa z h2 E ?_
      have k' := k.before kp stp
      generalize hq : D z = q at k'
      cases q with
      | nx Γ => exact k'
      | bk Γ => exact k'
      | ct Γ => exact k'
      | rt Γ R => exact k'
      | xc Γ R => exact absurd hq (hx0 z Γ R)
end
end CC
set_option maxHeartbeats 4000000
/-! More operators. -/
namespace CC
open PySem PySem.Spec L2
open PyProof.Rows hiding St
variable {α β γ δ τ υ ω ρ ε : Type}
/-! ### in -/
structure FlatE [DecidableEq α] (E : α → SP) (V : α → V) : Prop where
  eq : ∀ {B x v}, (E x).P B v → v = V x
  flat : ∀ x, flatV (V x) = true
  inj : ∀ x y, eqV (V x) (V y) = decide (x = y)
theorem fl_int : FlatE intS V.int := ⟨fun h => h, fun _ => rfl, fun x y => by show (x == y) = _; rw [Bool.eq_iff_iff]; simp⟩
theorem fl_str : FlatE strS V.str := ⟨fun h => h, fun _ => rfl, fun x y => by show (x == y) = _; rw [Bool.eq_iff_iff]; simp⟩
theorem fl_bool : FlatE boolS V.bl := ⟨fun h => h, fun _ => rfl, fun x y => by show (x == y) = _; rw [Bool.eq_iff_iff]; simp⟩
theorem each_flat [DecidableEq α] {E : α → SP} {V : α → V} (f : FlatE E V) {B : Hp} : ∀ {vs : List L2.V} {xs : List α}, Each E B vs xs → vs = xs.map V
  | [], [], _ => rfl
  | v :: vs, x :: xs, h => by rw [f.eq h.1, each_flat f h.2]; rfl
  | [], _ :: _, h => h.elim
  | _ :: _, [], h => h.elim
theorem flat_all [DecidableEq α] {E : α → SP} {V : α → V} (f : FlatE E V) (xs : List α) : (xs.map V).all flatV = true := by
  rw [List.all_map]
  exact List.all_eq_true.mpr fun x _ => f.flat x
theorem flat_in [DecidableEq α] {E : α → SP} {V : α → V} (f : FlatE E V) (x : α) (xs : List α) : inV (V x) (xs.map V) = decide (x ∈ xs) := by
  unfold inV
  rw [List.any_map]
  have e : ((fun y => eqV y (V x)) ∘ V) = fun y => decide (y = x) := funext fun y => f.inj y x
  rw [e]
  rw [Bool.eq_iff_iff]
  simp
theorem ov_inT [DecidableEq α] {K : PySem.W.Frag} {E : α → SP} {V : α → V} (f : FlatE E V) : OpV (rIn K false) E (tupS E) (fun x xs => some (decide (x ∈ xs))) fun z => sh (boolS z) := fun W x y v u z ok hx hy e Q k => by
  cases e
  obtain ⟨a, vs, rfl, h2, h3⟩ := hy
  have e1 := each_flat f h3
  have e2 := f.eq hx
  subst e1 e2
  exact ⟨a, _, rfl, .inr (.inl (.inl (ok a _ h2))), f.flat x, flat_all f y, k.val ok (by show L2.V.bl (inV (V x) (y.map V)) = _; rw [flat_in f])⟩
theorem ov_inL [DecidableEq α] {K : PySem.W.Frag} {E : α → SP} {V : α → V} (f : FlatE E V) : OpV (rIn K false) E (lstS E) (fun x xs => some (decide (x ∈ xs))) fun z => sh (boolS z) := fun W x y v u z ok hx hy e Q k => by
  cases e
  obtain ⟨a, vs, rfl, h2, h3⟩ := hy
  have e1 := each_flat f h3
  have e2 := f.eq hx
  subst e1 e2
  exact ⟨a, _, rfl, .inl (.inl (.inl (ok a _ h2))), f.flat x, flat_all f y, k.val ok (by show L2.V.bl (inV (V x) (y.map V)) = _; rw [flat_in f])⟩
theorem ov_ninT [DecidableEq α] {K : PySem.W.Frag} {E : α → SP} {V : α → V} (f : FlatE E V) : OpV (rIn K true) E (tupS E) (fun x xs => some (!decide (x ∈ xs))) fun z => sh (boolS z) := fun W x y v u z ok hx hy e Q k => by
  cases e
  obtain ⟨a, vs, rfl, h2, h3⟩ := hy
  have e1 := each_flat f h3
  have e2 := f.eq hx
  subst e1 e2
  exact ⟨a, _, rfl, .inr (.inl (.inl (ok a _ h2))), f.flat x, flat_all f y, k.val ok (by show L2.V.bl (!inV (V x) (y.map V)) = _; rw [flat_in f])⟩
theorem ov_ninL [DecidableEq α] {K : PySem.W.Frag} {E : α → SP} {V : α → V} (f : FlatE E V) : OpV (rIn K true) E (lstS E) (fun x xs => some (!decide (x ∈ xs))) fun z => sh (boolS z) := fun W x y v u z ok hx hy e Q k => by
  cases e
  obtain ⟨a, vs, rfl, h2, h3⟩ := hy
  have e1 := each_flat f h3
  have e2 := f.eq hx
  subst e1 e2
  exact ⟨a, _, rfl, .inl (.inl (.inl (ok a _ h2))), f.flat x, flat_all f y, k.val ok (by show L2.V.bl (!inV (V x) (y.map V)) = _; rw [flat_in f])⟩
theorem oIn {S : Stc} : ∀ X, S.In X → OpR X (compareOp .In) (rIn S.K false) := fun _ h => h.K ▸ op_in_seq
theorem oNotIn {S : Stc} : ∀ X, S.In X → OpR X (compareOp .NotIn) (rIn S.K true) := fun _ h => h.K ▸ op_notIn_seq
/-! ### tuple +, list * -/
theorem oCatT {S : Stc} : ∀ X, S.In X → OpR X (binaryOp .Add) (rCatA S.K) := fun _ h => h.K ▸ op_catA
theorem ov_catT {K : PySem.W.Frag} {E : α → SP} : OpV (rCatA K) (tupS E) (tupS E) catM fun x => sh (tupS E x) := fun W x y v u z ok hx hy e Q k => by
  unfold catM at e
  split at e
  · rename_i hl
    cases e
    obtain ⟨a, vs, rfl, a2, a3⟩ := hx
    obtain ⟨b, us, rfl, b2, b3⟩ := hy
    refine ⟨a, b, vs, us, rfl, rfl, .inl (.inl (ok a _ a2)), .inl (.inl (ok b _ b2)), lim_le (by rw [a3.len, b3.len]; exact hl), fun h => ?_, fun _ h => ?_, fun _ _ => k.newT ok (a3.app b3)⟩
    · have : x = [] := List.eq_nil_of_length_eq_zero (by rw [← a3.len, h]; rfl)
      subst this
      exact k.val ok ⟨b, us, rfl, b2, b3⟩
    · have : y = [] := List.eq_nil_of_length_eq_zero (by rw [← b3.len, h]; rfl)
      subst this
      rw [List.append_nil] at k
      exact k.val ok ⟨a, vs, rfl, a2, a3⟩
  · cases e
def repM (xs : List α) (k : Int) : Option (List α) := if xs.length * k.toNat ≤ LIM ∧ -1000000 ≤ k ∧ k ≤ 1000000 then some (List.replicate k.toNat xs).flatten else none
theorem oRep {S : Stc} : ∀ X, S.In X → OpR X (binaryOp .Mult) rRep := fun _ _ => op_rep
theorem each_rep {E : α → SP} {B : Hp} {vs : List V} {xs : List α} (h : Each E B vs xs) : ∀ n : Nat, Each E B (List.replicate n vs).flatten (List.replicate n xs).flatten
  | 0 => trivial
  | n + 1 => by
    rw [List.replicate_succ, List.replicate_succ, List.flatten_cons, List.flatten_cons]
    exact h.app (each_rep h n)
theorem ov_rep {E : α → SP} : OpV rRep (lstS E) intS repM (lstO fun x => sh (E x)) := fun W x y v u z ok hx hy e Q k => by
  unfold repM at e
  split at e
  · rename_i hl
    cases e
    cases hy
    obtain ⟨a, vs, rfl, a2, a3⟩ := hx
    exact ⟨a, y, vs, rfl, rfl, ok a _ a2, by omega, by omega, lim_le (by rw [a3.len]; exact hl.1), k.newL ok (each_rep a3 _)⟩
  · cases e
/-! ### a < b < c -/
section
variable {S : Stc} {Γ : Ctx} {a b c e : Expr} {pos : Pos}
theorem jn_chain {op op' : CmpOp} {r r' : R2} {E : α → SP} {G : β → SP} {I : γ → SP} {f : α → β → Option Bool} {g : β → γ → Option Bool} {ma : Option α} {mb : Option β} {mc : Option γ} (ho : ∀ X, S.In X → OpR X (compareOp op) r) (hr : OpV r E G f fun z => sh (boolS z)) (ho' : ∀ X, S.In X → OpR X (compareOp op') r') (hr' : OpV r' G I g fun z => sh (boolS z))
    (ha : JN S a Γ ma fun x => sh (E x)) (hb : JN S b Γ mb fun x => sh (G x)) (hc : JN S c Γ mc fun x => sh (I x)) (hm : lastMarks [op, op'] [b, c] = false := by with_unfolding_all rfl) :
    JN S (.Compare a [op, op'] [b, c] pos) Γ (ma.bind fun x => mb.bind fun y => (f x y).bind fun t => bif t then mc.bind fun z => g y z else some false) fun z => sh (boolS z) := fun σ W F st z hz Q k => by
  obtain ⟨x, y, h1, h2, h3⟩ := run2 hz
  obtain ⟨t, h4, h5⟩ := run1 h3
  refine ⟨tChain r r' (tOf S a) (tOf S b) (tOf S c), fun X hX => pe_chain (ho X hX) (ho' X hX) (peO hX) (peO hX) (peO hX) hm, ?_⟩
  refine ha σ W F st x h1 _ fun v W1 F1 e1 _ _ r1 => hb σ W1 F (st.ext e1) y h2 _ fun u W2 F2 e2 _ _ r2 => ?_
  refine hr W2 x y v u t e2.ok (SP.mono _ r1.2 e2.b) r2.2 h4 _ fun w W3 F3 e3 _ _ r3 => ?_
  have e13 := (e1.trans e2).trans e3
  refine ⟨t, r3.2, ?_⟩
  cases t with
  | false =>
    cases h5
    rw [if_neg (fun z => nomatch z)]
    exact (k.ext e13).val e3.ok rfl
  | true =>
    rw [if_pos rfl]
    obtain ⟨q, h6, h7⟩ := run1 (f := fun z => g y z) h5
    refine hc σ W3 F (st.ext e13) q h6 _ fun w' W4 F4 e4 _ _ r4 => ?_
    exact hr' W4 y q u w' z e4.ok (SP.mono _ (SP.mono _ r2.2 e3.b) e4.b) r4.2 h7 Q (k.ext (e13.trans e4))
theorem sum_lst {m : Option (List Int)} {p : Pos} (hm : S.mg "sum" = none) (h : JN S a Γ m fun x => sh (lstS intS x)) (hg : GlS S "sum" := by rfl) (hs : ∀ env, starEach [a] env = [(false, eval a env)] := by intro _; rfl) (hcm : S.calm = true := by rfl) : JN S (.Call (.Name "sum" p) [a] [] pos) Γ (m.bind fun x => some x.sum) fun z => sh (intS z) :=
  jn_b1 (f := fun x : List Int => some x.sum) (fun X hX => hX.K ▸ cr_sum (hX.calm.trans hcm)) (fun W x v z ok hh e Q k => by
    cases e
    obtain ⟨a, vs, rfl, h2, h3⟩ := hh
    have e1 := each_flat fl_int h3
    subst e1
    exact ⟨a, x, rfl, .inl (.inl (ok a _ h2)), k.val ok rfl⟩) hm h hg (by decide +kernel) (by decide) (by decide) hs
end
end CC
set_option maxHeartbeats 4000000
/-! Dicts: keys are ints (texts), values are shared; records with written keys. -/
namespace CC
open PySem PySem.Spec L2
open PyProof.Rows hiding St
variable {α β γ δ τ υ ω ρ ε κ : Type}
structure KeyE (kE : κ → SP) (kk : κ → Key) : Prop where
  eq : ∀ {B k v}, (kE k).P B v → v = kV (kk k)
  inj : ∀ {a b}, kk a = kk b → a = b
theorem ke_int : KeyE intS Sum.inl := ⟨fun h => h, fun h => Sum.inl.inj h⟩
theorem ke_str : KeyE strS Sum.inr := ⟨fun h => h, fun h => Sum.inr.inj h⟩
def DRel (kk : κ → Key) (E : α → SP) (B : Hp) : List (Key × V) → List (κ × α) → Prop
  | [], [] => True
  | p :: r, q :: s => p.1 = kk q.1 ∧ (E q.2).P B p.2 ∧ DRel kk E B r s
  | _, _ => False
theorem DRel.mono {kk : κ → Key} {E : α → SP} {B B' : Hp} (e : Ex B B') : ∀ {r : List (Key × V)} {s : List (κ × α)}, DRel kk E B r s → DRel kk E B' r s
  | [], [], _ => trivial
  | _ :: _, _ :: _, h => ⟨h.1, SP.mono _ h.2.1 e, DRel.mono e h.2.2⟩
  | [], _ :: _, h => h.elim
  | _ :: _, [], h => h.elim
theorem DRel.len {kk : κ → Key} {E : α → SP} {B : Hp} : ∀ {r : List (Key × V)} {s : List (κ × α)}, DRel kk E B r s → r.length = s.length
  | [], [], _ => rfl
  | _ :: _, _ :: _, h => by rw [List.length_cons, List.length_cons, DRel.len h.2.2]
  | [], _ :: _, h => h.elim
  | _ :: _, [], h => h.elim
variable [DecidableEq κ]
def getM : List (κ × α) → κ → Option α
  | [], _ => none
  | q :: s, k => if q.1 = k then some q.2 else getM s k
def putR : List (κ × α) → κ → α → List (κ × α)
  | [], _, _ => []
  | q :: s, k, x => (if q.1 = k then (q.1, x) else q) :: putR s k x
def putM (s : List (κ × α)) (k : κ) (x : α) : List (κ × α) := if (getM s k).isSome then putR s k x else s ++ [(k, x)]
theorem DRel.get {kE : κ → SP} {kk : κ → Key} (K : KeyE kE kk) {E : α → SP} {B : Hp} : ∀ {r : List (Key × V)} {s : List (κ × α)} (k : κ), DRel kk E B r s → match getM s k with | none => valV r (kk k) = none | some x => ∃ v, valV r (kk k) = some v ∧ (E x).P B v
  | [], [], k, _ => rfl
  | p :: r, q :: s, k, h => by
    unfold getM
    by_cases e : q.1 = k
    · rw [if_pos e]
      exact ⟨p.2, valV_pos (h.1.trans (by rw [e])), h.2.1⟩
    · rw [if_neg e]
      have := DRel.get K k h.2.2
      rw [valV_neg (fun z => e (K.inj (h.1.symm.trans z)))]
      exact this
  | [], _ :: _, _, h => h.elim
  | _ :: _, [], _, h => h.elim
theorem DRel.repl {kE : κ → SP} {kk : κ → Key} (K : KeyE kE kk) {E : α → SP} {B : Hp} {k : κ} {x : α} {v : V} (hv : (E x).P B v) : ∀ {r : List (Key × V)} {s : List (κ × α)}, DRel kk E B r s → DRel kk E B (r.map fun kv => if kv.1 = kk k then (kv.1, v) else kv) (putR s k x)
  | [], [], _ => trivial
  | p :: r, q :: s, h => by
    have ih := DRel.repl K (k := k) hv h.2.2
    rw [List.map_cons]
    unfold putR
    by_cases e : q.1 = k
    · rw [if_pos e, if_pos (h.1.trans (by rw [e]))]
      exact ⟨h.1, hv, ih⟩
    · rw [if_neg e, if_neg (fun z => e (K.inj (h.1.symm.trans z)))]
      exact ⟨h.1, h.2.1, ih⟩
  | [], _ :: _, h => h.elim
  | _ :: _, [], h => h.elim
theorem DRel.snoc {kk : κ → Key} {E : α → SP} {B : Hp} {k : κ} {x : α} {v : V} (hv : (E x).P B v) : ∀ {r : List (Key × V)} {s : List (κ × α)}, DRel kk E B r s → DRel kk E B (r ++ [(kk k, v)]) (s ++ [(k, x)])
  | [], [], _ => ⟨rfl, hv, trivial⟩
  | _ :: _, _ :: _, h => ⟨h.1, h.2.1, DRel.snoc hv h.2.2⟩
  | [], _ :: _, h => h.elim
  | _ :: _, [], h => h.elim
theorem DRel.put {kE : κ → SP} {kk : κ → Key} (K : KeyE kE kk) {E : α → SP} {B : Hp} {r : List (Key × V)} {s : List (κ × α)} {k : κ} {x : α} {v : V} (hv : (E x).P B v) (h : DRel kk E B r s) : DRel kk E B (putK r (kk k) v) (putM s k x) := by
  have g := h.get K k
  unfold putK putM
  rw [valV_any]
  cases q : getM s k with
  | none =>
    rw [q] at g
    rw [show (valV r (kk k)).isSome = false by rw [g]; rfl, if_neg (fun z => nomatch z), if_neg (fun z => nomatch z)]
    exact h.snoc hv
  | some y =>
    rw [q] at g
    obtain ⟨u, g, _⟩ := g
    rw [show (valV r (kk k)).isSome = true by rw [g]; rfl, if_pos rfl, if_pos (show (some y).isSome = true from rfl)]
    exact h.repl K hv
omit [DecidableEq κ] in
theorem DRel.nil {kk : κ → Key} {E : α → SP} {B : Hp} : DRel kk E B [] ([] : List (κ × α)) := trivial
/-- a dict that stands still; one of one's own -/
def dkS (kk : κ → Key) (E : α → SP) (s : List (κ × α)) : SP := ⟨fun B v => ∃ a r, v = .ref a ∧ B a = some (.dK r) ∧ DRel kk E B r s, fun h e => by
  obtain ⟨a, r, h1, h2, h3⟩ := h
  exact ⟨a, r, h1, e a _ h2, h3.mono e⟩⟩
def dkO (kk : κ → Key) (E : α → SP) (s : List (κ × α)) : OP := ⟨fun W v F => ∃ a r, v = .ref a ∧ W.H a = some (.dK r) ∧ F = [a] ∧ DRel kk E W.B r s, fun h e k => by
  obtain ⟨a, r, h1, h2, rfl, h4⟩ := h
  exact ⟨a, r, h1, (k a List.mem_cons_self).trans h2, rfl, h4.mono e⟩⟩
omit [DecidableEq κ] in
theorem fz_dk {kk : κ → Key} {E : α → SP} (s : List (κ × α)) : FrzN (dkO kk E s) (dkS kk E s) := ⟨fun {W v F} h nd fr ok => by
  obtain ⟨a, r, rfl, h2, rfl, h4⟩ := h
  have na : W.B a = none := fr a List.mem_cons_self
  refine ⟨upd W.B a (.dK r), Ex.new na, fun b o e => ?_, fun b hb n => ?_, a, r, rfl, upd_same, h4.mono (Ex.new na)⟩
  · by_cases z : b = a
    · subst z
      rw [upd_same] at e
      rw [h2]
      exact e
    · rw [upd_ne z] at e
      exact ok b o e
  · have z : b ≠ a := fun z => n (z ▸ List.mem_cons_self)
    rw [upd_ne z]
    exact hb⟩
section
variable {S : Stc} {Γ : Ctx} {a b e : Expr} {es : List Expr} {pos : Pos}
omit [DecidableEq κ] in
theorem jn_dnew {kk : κ → Key} {E : α → SP} : JN S (.Dict [] [] pos) Γ (some []) (dkO kk E) := fun σ W F sta z hz Q kq => by
  cases hz
  refine ⟨tDNewK, fun X hX => pe_dnewK, fun p hp => ?_⟩
  exact kq (.ref p) ⟨upd W.H p (.dK []), W.B⟩ [p] (Ext.new sta.ok hp) (fun x hx => by rw [List.mem_singleton.mp hx]; exact hp) (fp_one (sta.ok.back hp)) ⟨p, [], rfl, upd_same, rfl, DRel.nil⟩
/-- what is read of either -/
def DRd (kk : κ → Key) (E : α → SP) (R : List (κ × α) → OP) : Prop := ∀ W s v F, Ex W.B W.H → (R s).C W v F → ∃ a r, v = .ref a ∧ W.H a = some (.dK r) ∧ DRel kk E W.B r s
omit [DecidableEq κ] in
theorem rd_dkS {kk : κ → Key} {E : α → SP} : DRd kk E (fun s => sh (dkS kk E s)) := fun W s v F ok h => by
  obtain ⟨_, a, r, h1, h2, h3⟩ := h
  exact ⟨a, r, h1, ok a _ h2, h3⟩
omit [DecidableEq κ] in
theorem rd_dkO {kk : κ → Key} {E : α → SP} : DRd kk E (dkO kk E) := fun W s v F ok h => by
  obtain ⟨a, r, h1, h2, _, h3⟩ := h
  exact ⟨a, r, h1, h2, h3⟩
theorem jn_din {kE : κ → SP} {kk : κ → Key} {E : α → SP} {R : List (κ × α) → OP} {ma : Option κ} {mb : Option (List (κ × α))} (K : KeyE kE kk) (D : DRd kk E R) (ha : JN S a Γ ma fun k => sh (kE k)) (hb : JR S b Γ mb R) (h1 : behindInMarks .In b = false := by first | exact nobehind _ (by decide) (by decide) | rfl) :
    JN S (.Compare a [.In] [b] pos) Γ (ma.bind fun k => mb.bind fun s => some (getM s k).isSome) fun z => sh (boolS z) := fun σ W F st z hz Q kq => by
  obtain ⟨k, s, m1, m2, m3⟩ := run2 hz
  cases m3
  refine ⟨tDIn (tOf S a) (tOf S b), fun X hX => pe_cmp (pc_din (by have := hX.un; omega) (peO hX) (peO hX)) h1, ?_⟩
  refine ha σ W F st k m1 _ fun v W1 F1 e1 _ _ r1 => hb σ W1 F (st.ext e1) s m2 _ fun u W2 e2 ⟨F2, r2, _⟩ => ?_
  obtain ⟨p, r, rfl, h2, h3⟩ := D W2 s u F2 e2.ok r2
  have ek := K.eq r1.2
  subst ek
  refine ⟨p, _, rfl, DGet.k h2, ?_⟩
  have g := h3.get K k
  have e : (valV r (kk k)).isSome = (getM s k).isSome := by
    cases q : getM s k with
    | none => rw [q] at g; rw [g]; rfl
    | some y =>
      rw [q] at g
      obtain ⟨u, g, _⟩ := g
      rw [g]
      rfl
  exact (kq.ext (e1.trans e2)).val e2.ok (by rw [e]; rfl)
theorem jn_dnin {kE : κ → SP} {kk : κ → Key} {E : α → SP} {R : List (κ × α) → OP} {ma : Option κ} {mb : Option (List (κ × α))} (K : KeyE kE kk) (D : DRd kk E R) (ha : JN S a Γ ma fun k => sh (kE k)) (hb : JR S b Γ mb R) (h1 : behindInMarks .NotIn b = false := by first | exact nobehind _ (by decide) (by decide) | rfl) :
    JN S (.Compare a [.NotIn] [b] pos) Γ (ma.bind fun k => mb.bind fun s => some (!(getM s k).isSome)) fun z => sh (boolS z) := fun σ W F st z hz Q kq => by
  obtain ⟨k, s, m1, m2, m3⟩ := run2 hz
  cases m3
  refine ⟨tDNotIn (tOf S a) (tOf S b), fun X hX => pe_cmp (pc_dnotin (by have := hX.un; omega) (peO hX) (peO hX)) h1, ?_⟩
  refine ha σ W F st k m1 _ fun v W1 F1 e1 _ _ r1 => hb σ W1 F (st.ext e1) s m2 _ fun u W2 e2 ⟨F2, r2, _⟩ => ?_
  obtain ⟨p, r, rfl, h2, h3⟩ := D W2 s u F2 e2.ok r2
  have ek := K.eq r1.2
  subst ek
  refine ⟨p, _, rfl, DGet.k h2, ?_⟩
  have g := h3.get K k
  have e : (valV r (kk k)).isSome = (getM s k).isSome := by
    cases q : getM s k with
    | none => rw [q] at g; rw [g]; rfl
    | some y =>
      rw [q] at g
      obtain ⟨u, g, _⟩ := g
      rw [g]
      rfl
  exact (kq.ext (e1.trans e2)).val e2.ok (by rw [e]; rfl)
theorem jn_dget {kE : κ → SP} {kk : κ → Key} {E : α → SP} {R : List (κ × α) → OP} {ma : Option κ} {mb : Option (List (κ × α))} (K : KeyE kE kk) (D : DRd kk E R) (hb : JR S b Γ mb R) (ha : JN S a Γ ma fun k => sh (kE k)) (hs : NoSl a := by exact fun _ _ => rfl) :
    JN S (.Subscript b a pos) Γ (mb.bind fun s => ma.bind fun k => getM s k) fun z => sh (E z) := fun σ W F st z hz Q kq => by
  obtain ⟨s, k, m1, m2, m3⟩ := run2 hz
  refine ⟨tDGet (tOf S b) (tOf S a), fun X hX => pe_dget (by have := hX.un; omega) (peO hX) (peO hX) hs, ?_⟩
  refine hb σ W F st s m1 _ fun u W1 e1 ⟨F2, r2, al⟩ => ha σ W1 F (st.ext e1) k m2 _ fun v W2 F1 e2 _ _ r1 => ?_
  have r2' : (R s).C W2 u F2 := OP.loc _ r2 e2.b fun x hx => e2.h.eq (al x hx)
  obtain ⟨p, r, rfl, h2, h3⟩ := D W2 s u F2 e2.ok r2'
  have ek := K.eq r1.2
  subst ek
  have g := h3.get K k
  rw [m3] at g
  obtain ⟨w, g1, g2⟩ := g
  exact ⟨p, w, rfl, by have := DGet.k (k := kk k) h2; rwa [g1] at this, (kq.ext (e1.trans e2)).val e2.ok g2⟩
omit [DecidableEq κ] in
theorem len_dk {kk : κ → Key} {E : α → SP} {R : List (κ × α) → OP} {m : Option (List (κ × α))} {p : Pos} (D : DRd kk E R) (hm : S.mg "len" = none) (h : JR S a Γ m R) (hg : GlS S "len" := by rfl) (hs : ∀ env, starEach [a] env = [(false, eval a env)] := by intro _; rfl) : JN S (.Call (.Name "len" p) [a] [] pos) Γ (m.bind fun xs => some (xs.length : Int)) fun z => sh (intS z) := fun σ W F sta z hz Q kq => by
  obtain ⟨s, h1, h2⟩ := run1 hz
  cases h2
  refine ⟨tCB (fun xs H Q => ∃ a kvs, xs = [V.ref a] ∧ H a = some (.dK kvs) ∧ Q (.int kvs.length) H) (tCons (tOf S a) tNil), fun X hX => pe_callB call_lenD (hg.gl hX) (mgS hm hX) PySem.boot_len (pa_cons (peO hX) pa_nil (hs _)) (by decide) (by decide) (hs _) rfl, h σ W F sta s h1 _ fun v W' ext ⟨F1, r0, al⟩ => ?_⟩
  obtain ⟨p, r, rfl, h2, h3⟩ := D W' s v F1 ext.ok r0
  exact ⟨p, r, rfl, h2, (kq.ext ext).val ext.ok (by rw [h3.len]; rfl)⟩
def putMO (s : List (κ × α)) (k : κ) (x : α) : Option (List (κ × α)) := if s.length < LIM then some (putM s k x) else none
theorem js_dput {x : Str} {p0 tpos : Pos} {kE : κ → SP} {kk : κ → Key} {E : α → SP} {s : List (κ × α)} {mv : Option α} {mk : Option κ} (i : Nat) (K : KeyE kE kk) (h : JN S e Γ mv fun x => sh (E x)) (hk : JN S b Γ mk fun k => sh (kE k)) (hi : Γ[i]? = some (some (dkO kk E s)) := by rfl) (hN : S.N[i]? = some x := by rfl) (hv : Vis S.sc x := by first | exact Or.inl rfl | exact Or.inr (Or.inl rfl) | exact Or.inr (Or.inr rfl))
    (hd : (x == ("__debug__" : Str)) = false := by decide) (hcd : (x == ("__classdict__" : Str)) = false := by decide) (hs : ∀ env, swapsWith e (some (.Subscript (.Name x p0) b tpos)) pos.line env = pure false := by intro _; rfl) :
    JS S (.Assign [.Subscript (.Name x p0) b tpos] e pos) Γ (mv.bind fun y => mk.bind fun k => putMO s k y) fun s' => .nx (Γ.set i (some (dkO kk E s'))) := fun σ W F sta z hz Ed kq => by
  obtain ⟨y, k, m1, m2, m3⟩ := run2 hz
  unfold putMO at m3
  split at m3
  · rename_i hlen
    cases m3
    refine ⟨sDPut (tVar i) (tOf S b) (tOf S e), fun X hX => ps_dput (by have := hX.un; omega) (pe_var (by rw [hX.N]; exact hN) (visS hv hX) hd hcd) (peO hX) (peO hX) (hs _), ?_⟩
    refine h σ W F sta y m1 _ fun u W1 Fv ext fr fp r => ?_
    obtain ⟨rfl, r⟩ := r
    obtain ⟨v, F1, F2, a1, a2, a3, a4⟩ := (sta.ext ext).hold.at hi
    refine ⟨v, a1, hk σ W1 F (sta.ext ext) k m2 _ fun w W3 Fv3 ext3 _ _ r3 => ?_⟩
    have sta3 := (sta.ext ext).ext ext3
    obtain ⟨v', F1', F2', c1, c2, c3, c4⟩ := sta3.hold.at hi
    have ev : v' = v := by rw [a1] at c1; exact (Option.some.inj (Option.some.inj c1)).symm
    subst ev
    obtain ⟨p, rr, rfl, d2, rfl, d4⟩ := c2
    have ek := K.eq r3.2
    subst ek
    have hB : W3.B p = none := (sta3.fp.perm c3).fr p (by simp)
    refine ⟨p, _, rfl, DPut.k d2 (lim_lt (by rw [d4.len]; exact hlen)), ?_⟩
    have d5 : DRel kk E W3.B (putK rr (kk k) u) (putM s k y) := d4.put K (SP.mono _ r ext3.b)
    have fpA := (sta3.fp.perm c3).left
    obtain ⟨F', s', stp⟩ := sta_own (W' := ⟨upd W3.H p (.dK (putK rr (kk k) u)), W3.B⟩) (F1' := [p]) (o' := dkO kk E (putM s k y)) [] sta3 (by rw [List.append_nil]; exact sta3.fp) c1 c3 c4 (wr_ok ext3.ok hB) rfl (fun a ha _ => upd_ne fun z => ha (z ▸ List.mem_cons_self)) wr_al
      ⟨fpA.nd, fun a ha => wr_al a (fpA.al a ha), fpA.fr⟩ (fun a ha => .inl ha) ⟨p, _, rfl, upd_same, rfl, d5⟩
    rw [List.append_nil] at stp
    exact kq σ _ F' Keep.refl ((ext.stp0.trans ext3.stp0).trans stp) s'
  · cases m3
end
end CC
set_option maxHeartbeats 4000000
/-! Records: a dict of one's own with written keys. -/
namespace CC
open PySem PySem.Spec L2
open PyProof.Rows hiding St
variable {α β γ δ τ υ ω ρ ε κ : Type}
def kvz : List Str → List V → List (Key × V)
  | k :: ks, v :: vs => (.inr k, v) :: kvz ks vs
  | _, _ => []
theorem kvz_len : ∀ {ks : List Str} {vs : List V}, vs.length = ks.length → (kvz ks vs).length = ks.length
  | [], [], _ => rfl
  | k :: ks, v :: vs, h => by
    show (kvz ks vs).length + 1 = _
    rw [kvz_len (by simpa using h)]
    rfl
  | [], _ :: _, h => by simp at h
  | _ :: _, [], h => by simp at h
theorem kvz_val : ∀ {ks : List Str} {vs : List V} {i : Nat} {x : Str} {v : V}, ks.Nodup → ks[i]? = some x → vs[i]? = some v → valV (kvz ks vs) (.inr x) = some v
  | k :: ks, u :: vs, 0, x, v, nd, h1, h2 => by
    have e1 : k = x := by simpa using h1
    have e2 : u = v := by simpa using h2
    subst e1 e2
    exact valV_pos rfl
  | k :: ks, u :: vs, i + 1, x, v, nd, h1, h2 => by
    have h1' : ks[i]? = some x := by simpa using h1
    have ne : ¬ ((.inr k : Key) = .inr x) := fun z => by
      have := Sum.inr.inj z
      exact (List.nodup_cons.mp nd).1 (this ▸ List.mem_of_getElem? h1')
    show valV ((.inr k, u) :: kvz ks vs) (.inr x) = _
    rw [valV_neg ne]
    exact kvz_val (List.nodup_cons.mp nd).2 h1' (by simpa using h2)
  | [], _, _, _, _, _, h1, _ => by simp at h1
  | _ :: _, [], _, _, _, _, _, h2 => by simp at h2
theorem kvz_map : ∀ {ks : List Str} {vs : List V} {x : Str} {u : V}, x ∉ ks → (kvz ks vs).map (fun kv => if kv.1 = (.inr x : Key) then (kv.1, u) else kv) = kvz ks vs
  | [], _, _, _, _ => rfl
  | _ :: _, [], _, _, _ => rfl
  | k :: ks, v :: vs, x, u, h => by
    have ne : ¬ ((.inr k : Key) = .inr x) := fun z => h (by rw [Sum.inr.inj z]; exact List.mem_cons_self)
    show (if (.inr k : Key) = .inr x then _ else _) :: (kvz ks vs).map _ = _
    rw [if_neg ne, kvz_map (fun z => h (List.mem_cons_of_mem _ z))]
    rfl
theorem kvz_put : ∀ {ks : List Str} {vs : List V} {i : Nat} {x : Str} {u : V}, ks.Nodup → vs.length = ks.length → ks[i]? = some x → (kvz ks vs).map (fun kv => if kv.1 = (.inr x : Key) then (kv.1, u) else kv) = kvz ks (vs.set i u)
  | k :: ks, v :: vs, 0, x, u, nd, hl, h1 => by
    have e1 : k = x := by simpa using h1
    subst e1
    show (if (.inr k : Key) = .inr k then _ else _) :: (kvz ks vs).map _ = _
    rw [if_pos rfl, kvz_map (List.nodup_cons.mp nd).1]
    rfl
  | k :: ks, v :: vs, i + 1, x, u, nd, hl, h1 => by
    have h1' : ks[i]? = some x := by simpa using h1
    have ne : ¬ ((.inr k : Key) = .inr x) := fun z => by
      have := Sum.inr.inj z
      exact (List.nodup_cons.mp nd).1 (this ▸ List.mem_of_getElem? h1')
    show (if (.inr k : Key) = .inr x then _ else _) :: (kvz ks vs).map _ = _
    rw [if_neg ne, kvz_put (List.nodup_cons.mp nd).2 (by simpa using hl) h1']
    rfl
  | [], _, _, _, _, _, _, h1 => by simp at h1
  | _ :: _, [], _, _, _, _, hl, _ => by simp at hl
theorem kvz_putK {ks : List Str} {vs : List V} {i : Nat} {x : Str} {u v : V} (nd : ks.Nodup) (hl : vs.length = ks.length) (h1 : ks[i]? = some x) (h2 : vs[i]? = some v) : putK (kvz ks vs) (.inr x) u = kvz ks (vs.set i u) := by
  unfold putK
  rw [valV_any, kvz_val nd h1 h2, if_pos (show (some v).isSome = true from rfl), kvz_put nd hl h1]
theorem kvz_merge : ∀ {ks : List Str} {vs : List V} {acc : List (Key × V)}, ks.Nodup → (∀ k ∈ ks, valV acc (.inr k) = none) → mergeK acc (kvz ks vs) = acc ++ kvz ks vs
  | [], _, acc, _, _ => by
    show acc = acc ++ []
    rw [List.append_nil]
  | _ :: _, [], acc, _, _ => by
    show acc = acc ++ []
    rw [List.append_nil]
  | k :: ks, v :: vs, acc, nd, h => by
    show mergeK (putK acc (.inr k) v) (kvz ks vs) = _
    rw [putK_new v (h k List.mem_cons_self), kvz_merge (List.nodup_cons.mp nd).2 fun j hj => ?_, List.append_assoc]
    · rfl
    · rw [valV_snoc _ _ _ _ (h k List.mem_cons_self), if_neg (fun z => (List.nodup_cons.mp nd).1 (by have e : j = k := Sum.inr.inj z; rw [← e]; exact hj))]
      exact h j (List.mem_cons_of_mem _ hj)
/-- the record with the keys ks -/
def recO (ks : List Str) (ps : List OP) : OP := ⟨fun W v F => ∃ a vs F2, v = .ref a ∧ W.H a = some (.dK (kvz ks vs)) ∧ F = a :: F2 ∧ HetO W vs ps F2, fun h e k => by
  obtain ⟨a, vs, F2, h1, h2, h3, h4⟩ := h
  subst h3
  exact ⟨a, vs, F2, h1, (k a List.mem_cons_self).trans h2, rfl, h4.loc e fun b hb => k b (List.mem_cons_of_mem _ hb)⟩⟩
section
variable {S : Stc} {Γ : Ctx} {a b e : Expr} {es : List Expr} {pos : Pos}
theorem jr_ixD {ks : List Str} {ps : α → List OP} {R : β → OP} {g : α → β} {m : Option α} {x : Str} {kk p'} (k : Nat) (h : JR S a Γ m fun x => recO ks (ps x)) (hk : ∀ x, (ps x)[k]? = some (R (g x)) := by intro _; rfl) (hx : ks[k]? = some x := by rfl) (nd : ks.Nodup := by decide) :
    JR S (.Subscript a (.Constant (.str x) kk p') pos) Γ (m.bind fun x => some (g x)) R := fun σ W F sta z hz Q kq => by
  obtain ⟨y, h1, h2⟩ := run1 hz
  cases h2
  refine ⟨tDGet (tOf S a) (tC (.str x)), fun X hX => pe_dget (by have := hX.un; omega) (peO hX) pe_str (fun _ _ => rfl), h σ W F sta y h1 _ fun v W' ext ⟨F1, r, al⟩ => ?_⟩
  obtain ⟨p, vs, F2, rfl, q2, rfl, q3⟩ := r
  obtain ⟨u, G1, G2, u1, u2, u3, _⟩ := q3.at (hk y)
  have gd : DGet W'.H p (kV (.inr x)) (valV (kvz ks vs) (.inr x)) := DGet.k q2
  rw [kvz_val nd hx u1] at gd
  exact ⟨p, u, rfl, gd, kq u W' ext ⟨G1, u2, fun b hb => al b (List.mem_cons_of_mem _ (u3.mem_iff.mpr (List.mem_append_left _ hb)))⟩⟩
theorem js_setD {x y : Str} {p0 tpos : Pos} {ks : List Str} {ps : List OP} {E : α → SP} {o : OP} {mv : Option α} {kk p'} (i k : Nat) (h : JN S e Γ mv fun x => sh (E x)) (hi : Γ[i]? = some (some (recO ks ps)) := by rfl) (hk : ps[k]? = some o := by rfl) (hx : ks[k]? = some y := by rfl) (hl : ps.length = ks.length := by rfl) (nd : ks.Nodup := by decide) (hle : ks.length ≤ 1000 := by decide) (hN : S.N[i]? = some x := by rfl) (hv : Vis S.sc x := by first | exact Or.inl rfl | exact Or.inr (Or.inl rfl) | exact Or.inr (Or.inr rfl))
    (hd : (x == ("__debug__" : Str)) = false := by decide) (hcd : (x == ("__classdict__" : Str)) = false := by decide) (hs : ∀ env, swapsWith e (some (.Subscript (.Name x p0) (.Constant (.str y) kk p') tpos)) pos.line env = pure false := by intro _; rfl) :
    JS S (.Assign [.Subscript (.Name x p0) (.Constant (.str y) kk p') tpos] e pos) Γ mv fun z => .nx (Γ.set i (some (recO ks (ps.set k (sh (E z)))))) := fun σ W F sta z m1 Ed kq => by
  refine ⟨sDPut (tVar i) (tC (.str y)) (tOf S e), fun X hX => ps_dput (by have := hX.un; omega) (pe_var (by rw [hX.N]; exact hN) (visS hv hX) hd hcd) pe_str (peO hX) (hs _), ?_⟩
  refine h σ W F sta z m1 _ fun u W1 Fv ext fr fp r => ?_
  obtain ⟨rfl, r⟩ := r
  have sta1 := sta.ext ext
  obtain ⟨v, F1, F2, a1, a2, a3, a4⟩ := sta1.hold.at hi
  obtain ⟨p, vs, G2, rfl, b2, rfl, b4⟩ := a2
  have hB : W1.B p = none := (sta1.fp.perm a3).fr p (by simp)
  obtain ⟨w0, K1, K2, k1, k2, k3, k4⟩ := b4.at hk
  have fpA := (sta1.fp.perm a3).left
  have hvl : vs.length = ks.length := by rw [b4.len]; exact hl
  have nP : ∀ a ∈ G2, a ≠ p := fun a ha z => (List.nodup_cons.mp fpA.nd).1 (z ▸ ha)
  obtain ⟨G', g1, g2⟩ := k4 ⟨upd W1.H p (.dK (kvz ks (vs.set k u))), W1.B⟩ (sh (E z)) u [] (fun _ _ h => h) (fun a ha => upd_ne (nP a (k3.mem_iff.mpr (List.mem_append_right _ ha)))) ⟨rfl, r⟩
  have sub : ∀ a ∈ p :: G', a ∈ p :: G2 := fun a ha => by
    rcases List.mem_cons.mp ha with z | z
    · exact z ▸ List.mem_cons_self
    · exact List.mem_cons_of_mem _ (k3.mem_iff.mpr (List.mem_append_right _ (by simpa using g2.mem_iff.mp z)))
  have fpB : FpOk W1 (p :: G') := by
    refine FpOk.left (F' := K1) (fpA.perm ?_)
    refine List.Perm.cons p ?_
    refine k3.trans (List.perm_append_comm.trans (List.Perm.append_right K1 ?_))
    simpa using g2.symm
  refine ⟨.ref p, a1, p, _, rfl, DPut.k (k := .inr y) b2 (by rw [kvz_len hvl]; exact Nat.lt_of_le_of_lt hle (by decide)), ?_⟩
  rw [kvz_putK nd hvl hx k1]
  obtain ⟨F', s', stp⟩ := sta_own (W' := ⟨upd W1.H p (.dK (kvz ks (vs.set k u))), W1.B⟩) (F1' := p :: G') (o' := recO ks (ps.set k (sh (E z)))) [] sta1 (by rw [List.append_nil]; exact sta1.fp) a1 a3 a4 (wr_ok ext.ok hB) rfl (fun a ha _ => upd_ne fun z => ha (z ▸ List.mem_cons_self)) wr_al
    ⟨fpB.nd, fun a ha => wr_al a (fpB.al a ha), fpB.fr⟩ (fun a ha => .inl (sub a ha)) ⟨p, vs.set k u, G', rfl, upd_same, rfl, g1⟩
  rw [List.append_nil] at stp
  exact kq σ _ F' Keep.refl (ext.stp0.trans stp) s'
/-! ### {'a': e, ..} -/
def pz : List Str → List V → List (V × V)
  | k :: ks, v :: vs => (.str k, v) :: pz ks vs
  | _, _ => []
theorem pz_eq : ∀ (ks : List Str) (vs : List V), pz ks vs = (kvz ks vs).map fun kv => (kV kv.1, kv.2)
  | [], _ => rfl
  | _ :: _, [] => rfl
  | k :: ks, v :: vs => by
    show (V.str k, v) :: pz ks vs = (kV (.inr k), v) :: _
    rw [pz_eq ks vs]
    rfl
def JP (S : Stc) (pos : Pos) (ks : List Str) (keys : List (Option Expr)) (vals : List Expr) (Γ : Ctx) (m : Option α) (R : α → List SP) : Prop :=
  ∃ trs, (∀ X, S.In X → PPs X pos keys vals trs) ∧ ∀ σ W F, Sta Γ σ W F → ∀ x, m = some x → ∀ Q : List (V × V) → Hp → Prop, (∀ vs W', Ext W W' → Hets W'.B vs (R x) → Q (pz ks vs) W'.H) → tPairs trs σ W.H Q
theorem jp_nil : JP S pos [] [] [] Γ (some ()) fun _ => [] := ⟨[], fun X _ => pps_nil, fun σ W F sta x hx Q k => k [] W (Ext.refl sta.ok) trivial⟩
theorem jp_cons {x : Str} {kk p'} {ks : List Str} {keys : List (Option Expr)} {vals : List Expr} {ma : Option α} {mb : Option β} {E : α → SP} {G : β → List SP} (ha : JN S e Γ ma fun x => sh (E x)) (hb : JP S pos ks keys vals Γ mb G) :
    JP S pos (x :: ks) (some (.Constant (.str x) kk p') :: keys) (e :: vals) Γ (ma.bind fun x => mb.bind fun y => some (x, y)) fun p => E p.1 :: G p.2 := by
  obtain ⟨trs, t1, t2⟩ := hb
  refine ⟨(tC (.str x), tOf S e) :: trs, fun X hX => pps_cons pe_str (peO hX) (t1 X hX), fun σ W F st z hz Q k => ?_⟩
  obtain ⟨y, w, h1, h2, h3⟩ := run2 hz
  cases h3
  show tOf S e σ W.H _
  refine ha σ W F st y h1 _ fun v W1 F1 e1 _ _ r1 => t2 σ W1 F (st.ext e1) w h2 _ fun vs W2 e2 h => ?_
  exact k (v :: vs) W2 (e1.trans e2) ⟨SP.mono _ r1.2 e2.b, h⟩
theorem HetO.of_hts {W : Wd} : ∀ {vs : List V} {ps : List SP}, Hets W.B vs ps → HetO W vs (ps.map sh) []
  | [], [], _ => rfl
  | _ :: _, _ :: _, h => ⟨[], [], rfl, ⟨rfl, h.1⟩, HetO.of_hts h.2⟩
  | [], _ :: _, h => h.elim
  | _ :: _, [], h => h.elim
theorem jn_rec {ks : List Str} {keys : List (Option Expr)} {vals : List Expr} {m : Option α} {R : α → List SP} {T : β → OP} {g : α → β} (h : JP S pos ks keys vals Γ m R) (hR : ∀ x, recO ks ((R x).map sh) = T (g x) := by intro _; rfl) (nd : ks.Nodup := by decide) (hks : ks.length ≤ 15 := by decide) (hl : ∀ x, (R x).length = ks.length := by intro _; rfl)
    (hall : keys.all (·.isSome) = true := by rfl) (hl2 : keys.length = vals.length := by rfl) (h0 : keys ≠ [] := by exact fun z => nomatch z) (h15 : keys.length ≤ 15 := by exact Nat.le_of_ble_eq_true rfl) : JN S (.Dict keys vals pos) Γ (m.bind fun x => some (g x)) T := fun σ W F sta z hz Q kk => by
  obtain ⟨x, h1, h2⟩ := run1 hz
  cases h2
  obtain ⟨trs, t1, t2⟩ := h
  refine ⟨tDisp trs, fun X hX => pe_disp (t1 X hX) hall hl2 h0 h15, fun p hp => ?_⟩
  have e1 : Ext W ⟨upd W.H p (.dK []), W.B⟩ := Ext.new sta.ok hp
  refine t2 σ ⟨upd W.H p (.dK []), W.B⟩ F (sta.ext e1) x h1 _ fun vs W2 e2 hh => ?_
  have hp2 : W2.H p = some (.dK []) := e2.h p _ upd_same
  have hvl : vs.length = ks.length := hh.len.trans (hl x)
  refine ⟨hp2, kvz ks vs, pz_eq ks vs, by rw [kvz_len hvl]; exact hks, ?_⟩
  rw [kvz_merge nd (fun _ _ => rfl), List.nil_append]
  have hB : W2.B p = none := e2.fr p (by show upd W.H p (.dK []) p ≠ none; rw [upd_same]; exact fun z => nomatch z) (sta.ok.back hp)
  have e3 : Ext W ⟨upd W2.H p (.dK (kvz ks vs)), W2.B⟩ := by
    refine ⟨wr_ok e2.ok hB, fun a o h => ?_, e2.b, fun a h3 h4 => ?_⟩
    · have na : a ≠ p := fun z => by rw [z, hp] at h; cases h
      show upd W2.H p _ a = _
      rw [upd_ne na]
      exact e2.h a o (e1.h a o h)
    · exact (e1.trans e2).fr a h3 h4
  have fp3 : FpOk ⟨upd W2.H p (.dK (kvz ks vs)), W2.B⟩ [p] := by
    refine ⟨List.nodup_cons.mpr ⟨by simp, List.nodup_nil⟩, fun a ha => ?_, fun a ha => ?_⟩
    · rw [List.mem_singleton.mp ha]
      show upd W2.H p _ p ≠ none
      rw [upd_same]
      exact fun z => nomatch z
    · rw [List.mem_singleton.mp ha]
      exact hB
  exact kk (.ref p) _ [p] e3 (fun a ha => by rw [List.mem_singleton.mp ha]; exact hp) fp3
    (by rw [← hR]; exact ⟨p, vs, [], rfl, upd_same, rfl, HetO.of_hts (W := ⟨upd W2.H p (.dK (kvz ks vs)), W2.B⟩) hh⟩)
end
end CC
set_option maxHeartbeats 4000000
/-! Comprehensions of two clauses. -/
namespace CC
open PySem PySem.Spec L2
open PyProof.Rows hiding St
variable {α β γ δ τ υ ω ρ ε κ : Type}
/-- a new list at D is being made: bs of ys is left (W' stood behind the making) -/
def Bld (R : β → OP) (W' : Wd) (D : Addr) (ys bs : List β) (W1 : Wd) : Prop := W'.H D = none ∧ Ext W' W1 ∧ ∃ (acc : List V) (as : List β) (Fa : List Addr), W1.H D = some (.lst acc) ∧ W1.B D = none ∧ as ++ bs = ys ∧ Owns R W1 acc as Fa ∧ FpOk W1 Fa ∧ D ∉ Fa ∧ ∀ a ∈ Fa, W'.H a = none
theorem Bld.start {R : β → OP} {W' : Wd} {D : Addr} {ys : List β} (ok : Ex W'.B W'.H) (hD : W'.H D = none) : Bld R W' D ys ys ⟨upd W'.H D (.lst []), W'.B⟩ :=
  ⟨hD, Ext.new ok hD, [], [], [], upd_same, ok.back hD, rfl, rfl, FpOk.nil, by simp, by simp⟩
theorem Bld.ext {R : β → OP} {W' W1 W2 : Wd} {D : Addr} {ys bs : List β} (b : Bld R W' D ys bs W1) (e : Ext W1 W2) : Bld R W' D ys bs W2 := by
  obtain ⟨hD, e1, acc, as, Fa, d1, d2, c2, o1, o2, o3, o4⟩ := b
  exact ⟨hD, e1.trans e, acc, as, Fa, e.h D _ d1, e.fr D (by rw [d1]; exact fun z => nomatch z) d2, c2, o1.loc e.b fun a ha => e.h.eq (o2.al a ha), o2.ext e, o3, o4⟩
theorem Bld.step {R : β → OP} {W' W1 W4 : Wd} {D : Addr} {ys bs : List β} {y : β} {u : V} {Fu : List Addr} (b : Bld R W' D ys (y :: bs) W1) (hl : ys.length ≤ LIM) (e4 : Ext W1 W4) (fr4 : ∀ a ∈ Fu, W1.H a = none) (fp4 : FpOk W4 Fu) (r4 : (R y).C W4 u Fu) :
    ∃ acc, W4.H D = some (.lst acc) ∧ acc.length < sizeLine ∧ Bld R W' D ys bs ⟨upd W4.H D (.lst (acc ++ [u])), W4.B⟩ := by
  obtain ⟨hD, e1, acc, as, Fa, d1, d2, c2, o1, o2, o3, o4⟩ := b
  have hD4 : W4.H D = some (.lst acc) := e4.h D _ d1
  have hB4 : W4.B D = none := e4.fr D (by rw [d1]; exact fun z => nomatch z) d2
  have ha4 : acc.length < LIM := by
    have h1 := o1.len
    have h2 := congrArg List.length c2
    rw [List.length_append, List.length_cons] at h2
    omega
  refine ⟨acc, hD4, lim_lt ha4, hD, ?_, acc ++ [u], as ++ [y], Fa ++ Fu, upd_same, hB4, by rw [List.append_assoc]; exact c2, ?_, ?_, ?_, ?_⟩
  · have q := e1.trans e4
    refine ⟨fun a o h => ?_, fun a o h => ?_, q.b, q.fr⟩
    · have z : a ≠ D := fun z => by
        rw [z] at h
        rw [show W4.B D = some o from h] at hB4
        cases hB4
      show upd W4.H D _ a = some o
      rw [upd_ne z]
      exact q.ok a o h
    · show upd W4.H D _ a = some o
      rw [upd_ne (ne_of_none h hD)]
      exact q.h a o h
  · have nD : ∀ a ∈ Fa ++ Fu, a ≠ D := fun a ha z => by
      rcases List.mem_append.mp ha with h | h
      · exact o3 (z ▸ h)
      · have q2 := fr4 a h
        rw [z, d1] at q2
        cases q2
    have A1 : Owns R W4 acc as Fa := o1.loc e4.b fun a ha => e4.h.eq (o2.al a ha)
    have A2 : Owns R W4 [u] [y] Fu := ⟨Fu, [], (List.append_nil _).symm, r4, rfl⟩
    have A3 : Owns R W4 (acc ++ [u]) (as ++ [y]) (Fa ++ Fu) := A1.app A2
    refine Owns.loc (W := W4) (W' := ⟨upd W4.H D (.lst (acc ++ [u])), W4.B⟩) (fun _ _ h => h) A3 fun a ha => ?_
    show upd W4.H D (.lst (acc ++ [u])) a = W4.H a
    exact upd_ne (nD a ha)
  · have fpA : FpOk W4 (Fa ++ Fu) := o2.fresh e4 fp4 fr4
    refine ⟨fpA.nd, fun a ha => ?_, fpA.fr⟩
    show upd W4.H D _ a ≠ none
    by_cases z : a = D
    · rw [z, upd_same]
      exact fun z => nomatch z
    · rw [upd_ne z]
      exact fpA.al a ha
  · intro h
    rcases List.mem_append.mp h with h | h
    · exact o3 h
    · have q2 := fr4 D h
      rw [d1] at q2
      cases q2
  · intro a ha
    rcases List.mem_append.mp ha with h | h
    · exact o4 a h
    · exact e1.h.back (fr4 a h)
theorem Sta.via {Γ : Ctx} {σ : L2.St} {W' W3 W5 : Wd} {F F2 : List Addr} (s : Sta Γ σ W3 F2) (sub : ∀ a ∈ F2, a ∈ F) (fp : FpOk W' F) (e3 : Ext W' W3) (e5 : Ext W' W5) (eb : Ex W3.B W5.B) : Sta Γ σ W5 F2 :=
  ⟨e5.ok, ⟨s.fp.nd, fun a h => e5.h.ne (fp.al a (sub a h)), fun a h => e5.fr a (fp.al a (sub a h)) (fp.fr a (sub a h))⟩, s.len, s.hold.loc eb fun a h => (e5.h.eq (fp.al a (sub a h))).trans (e3.h.eq (fp.al a (sub a h))).symm⟩
def comp2Go (t : α → Option Bool) (it : α → Option (List β)) (t1 : α → β → Option Bool) (f : α → β → Option γ) : List α → Option (List γ)
  | [] => some []
  | x :: xs => (t x).bind fun b => bif b then (it x).bind fun zs => (compGo (t1 x) (f x) zs).bind fun ys => (comp2Go t it t1 f xs).bind fun r => some (ys ++ r) else comp2Go t it t1 f xs
def comp2M (t : α → Option Bool) (it : α → Option (List β)) (t1 : α → β → Option Bool) (f : α → β → Option γ) (xs : List α) : Option (List γ) := (comp2Go t it t1 f xs).bind fun ys => if ys.length ≤ LIM then some ys else none
def JC2 (S : Stc) (elt tg iter : Expr) (ifs : List Expr) (tg1 iter1 : Expr) (ifs1 : List Expr) (scope : Scope) (Γ : Ctx) (m : Option α) (R : α → OP) : Prop :=
  ∃ (own : List (Str × Nat)) (vs1 : List Nat), BlkOk S.N S.sc scope own ∧ (∀ i ∈ vs1, i ∈ own.map (·.2)) ∧ ∀ σ W F, Sta Γ σ W F → ∀ x, m = some x → ∀ Q : VK, Got (R x) W Q → tLc2 (tiOf S tg iter) (tgOf (S.blk scope) tg) (ttsOf (S.blk scope) ifs) (tiOf (S.blk scope) tg1 iter1) (tgOf (S.blk scope) tg1) (ttsOf (S.blk scope) ifs1) (tOf (S.blk scope) elt) (own.map (·.2)) vs1 σ W.H Q
section
variable {S : Stc} {Γ : Ctx} {elt tg iter tg1 iter1 : Expr} {ifs ifs1 : List Expr} {pos : Pos}
theorem jn_lc2 {scope : Scope} {m : Option α} {R : α → OP} (nd : S.N.Nodup) (h : JC2 S elt tg iter ifs tg1 iter1 ifs1 scope Γ m R) (hs : ∀ env x, foldedSetIterable iter env x = pure x := by intro _ _; rfl) (hs1 : ∀ env x, foldedSetIterable iter1 env x = pure x := by intro _ _; rfl) (hcm : S.calm = true := by rfl) :
    JN S (.ListComp elt [⟨tg, iter, ifs, 0⟩, ⟨tg1, iter1, ifs1, 0⟩] scope pos) Γ m R := fun σ W F st x hx Q k => by
  obtain ⟨own, vs1, ok, hv, go⟩ := h
  exact ⟨_, fun X hX => pe_lc2 (hX.calm.trans hcm) (by rw [hX.N]; exact nd) (piO hX) (by rw [hX.N, hX.sc]; exact ok) hv (fun s H C cl fp => pgO (hX.blk scope s H C cl fp)) (fun s H C cl fp => ptsO (hX.blk scope s H C cl fp)) (fun s H C cl fp => piO (hX.blk scope s H C cl fp)) (fun s H C cl fp => pgO (hX.blk scope s H C cl fp)) (fun s H C cl fp => ptsO (hX.blk scope s H C cl fp)) (fun s H C cl fp => peO (hX.blk scope s H C cl fp)) (hs _) hs1, go σ W F st x hx Q k⟩
theorem jc2_of {scope : Scope} {mi : Option (List α)} {E : α → SP} {E1 : β → SP} {up : α → Ctx → Ctx} {up1 : β → Ctx → Ctx} {ws ws1 : List Nat} {mt : α → Option Bool} {mi1 : α → Option (List β)} {mt1 : α → β → Option Bool} {me : α → β → Option γ} {R : γ → OP} (own : List (Str × Nat)) (vs1 : List Nat) (hi : JIc S tg iter Γ mi E) (ok : blkC S.N S.sc scope own = true) (hg : JG (S.blk scope) tg E up ws)
    (hw : ∀ i ∈ ws, i ∈ own.map (·.2)) (hl : ∀ i ∈ ws, i < Γ.length) (ht : ∀ x, JTs (S.blk scope) ifs (up x (wipeC Γ (own.map (·.2)))) (mt x)) (hv : ∀ i ∈ vs1, i ∈ own.map (·.2))
    (hi1 : ∀ x, JI (S.blk scope) tg1 iter1 (up x (wipeC Γ (own.map (·.2)))) (mi1 x) E1) (hg1 : JG (S.blk scope) tg1 E1 up1 ws1) (hw1 : ∀ i ∈ ws1, i ∈ vs1) (hl1 : ∀ x, ∀ i ∈ ws1, i < (up x (wipeC Γ (own.map (·.2)))).length)
    (ht1 : ∀ x z, JTs (S.blk scope) ifs1 (up1 z (wipeC (up x (wipeC Γ (own.map (·.2)))) vs1)) (mt1 x z)) (he : ∀ x z, JN (S.blk scope) elt (up1 z (wipeC (up x (wipeC Γ (own.map (·.2)))) vs1)) (me x z) R) :
    JC2 S elt tg iter ifs tg1 iter1 ifs1 scope Γ (mi.bind fun xs => comp2M mt mi1 mt1 me xs) fun ys => lstO R ys := by
  refine ⟨own, vs1, blkOk_by ok, hv, fun σ W F st ys hx Q k => ?_⟩
  obtain ⟨xs, h1, h2⟩ := run1 hx
  unfold comp2M at h2
  obtain ⟨ys', h2, h3⟩ := run1 h2
  split at h3
  · rename_i hlen
    cases h3
    refine hi σ W F st xs h1 _ fun J W' ext iok => fun D hD => ?_
    have st' := st.ext ext
    refine ⟨fun i m H => m = xs.length - i ∧ i ≤ xs.length ∧ ∃ (W1 : Wd) (bs : List γ), W1.H = H ∧ Bld R W' D ys bs W1 ∧ comp2Go mt mi1 mt1 me (xs.drop i) = some bs, ⟨xs.length, by simp, Nat.zero_le _, _, ys, rfl, Bld.start ext.ok hD, by simpa using h2⟩, ?_⟩
    rintro i m H ⟨rfl, hi', W1, bs, rfl, bd, c1⟩
    obtain ⟨iok1, iok2⟩ := iok W1 bd.2.1
    by_cases hlt : i < xs.length
    · obtain ⟨g1, g2⟩ := iok1 i xs[i] (List.getElem?_eq_getElem hlt)
      refine .inr ⟨g1, fun H' => ∃ m', m' < xs.length - i ∧ (m' = xs.length - (i + 1) ∧ i + 1 ≤ xs.length ∧ ∃ (W1 : Wd) (bs : List γ), W1.H = H' ∧ Bld R W' D ys bs W1 ∧ comp2Go mt mi1 mt1 me (xs.drop (i + 1)) = some bs), fun H' h => h, fun v H' y => ?_⟩
      obtain ⟨W2, rfl, e2, p2⟩ := g2 v H' y
      have hDrop : xs.drop i = xs[i] :: xs.drop (i + 1) := List.drop_eq_getElem_cons hlt
      rw [hDrop] at c1
      obtain ⟨b, t1, t2⟩ := run1 (f := fun b => bif b then (mi1 xs[i]).bind fun zs => (compGo (mt1 xs[i]) (me xs[i]) zs).bind fun ys => (comp2Go mt mi1 mt1 me (xs.drop (i + 1))).bind fun r => some (ys ++ r) else comp2Go mt mi1 mt1 me (xs.drop (i + 1))) c1
      obtain ⟨Fw, sw, subw⟩ := (st'.ext (bd.2.1.trans e2)).wipe (own.map (·.2))
      refine hg _ _ W2 Fw xs[i] v sw (fun j hj => by rw [wipeC_len]; exact hl j hj) p2 _ fun σ2 F2 wp _ s2 sub2 => ⟨?_, ?_⟩
      · rw [wp _ hw]
        exact jc_of.wipe_wipe σ (own.map (·.2))
      refine ht xs[i] σ2 W2 F2 s2 b t1 _ fun W3 e3 => ?_
      have bd3 := (bd.ext e2).ext e3
      cases b with
      | false => exact iteF ⟨xs.length - (i + 1), by omega, rfl, hlt, W3, bs, rfl, bd3, t2⟩
      | true =>
        obtain ⟨zs, u1, u2⟩ := run1 (f := fun zs => (compGo (mt1 xs[i]) (me xs[i]) zs).bind fun ys => (comp2Go mt mi1 mt1 me (xs.drop (i + 1))).bind fun r => some (ys ++ r)) t2
        obtain ⟨ys1, r1, u3, u4, u5⟩ := run2 (f := fun ys r => some (ys ++ r)) u2
        cases u5
        refine iteT (hi1 xs[i] σ2 W3 F2 (s2.ext e3) zs u1 _ fun J1 W4 ext4 jok => ?_)
        have s4 := (s2.ext e3).ext ext4
        refine ⟨fun j m H => m = zs.length - j ∧ j ≤ zs.length ∧ ∃ (W5 : Wd) (cs : List γ), W5.H = H ∧ Ex W4.B W5.B ∧ Bld R W' D ys (cs ++ r1) W5 ∧ compGo (mt1 xs[i]) (me xs[i]) (zs.drop j) = some cs, ⟨zs.length, by simp, Nat.zero_le _, W4, ys1, rfl, Ex.refl _, bd3.ext ext4, by simpa using u3⟩, ?_⟩
        rintro j m H ⟨rfl, hj', W5, cs, rfl, e5, bd5, c5⟩
        obtain ⟨jok1, jok2⟩ := jok W5 ⟨bd5.2.1.ok, e5⟩
        by_cases hltj : j < zs.length
        · obtain ⟨q1, q2⟩ := jok1 j zs[j] (List.getElem?_eq_getElem hltj)
          refine .inr ⟨q1, fun H' => ∃ m', m' < zs.length - j ∧ (m' = zs.length - (j + 1) ∧ j + 1 ≤ zs.length ∧ ∃ (W5 : Wd) (cs : List γ), W5.H = H' ∧ Ex W4.B W5.B ∧ Bld R W' D ys (cs ++ r1) W5 ∧ compGo (mt1 xs[i]) (me xs[i]) (zs.drop (j + 1)) = some cs), fun H' h => h, fun v1 H' y1 => ?_⟩
          obtain ⟨W6, rfl, e6, p6⟩ := q2 v1 H' y1
          have hDrop1 : zs.drop j = zs[j] :: zs.drop (j + 1) := List.drop_eq_getElem_cons hltj
          rw [hDrop1] at c5
          obtain ⟨b1, w1, w2⟩ := run1 (f := fun b => bif b then (me xs[i] zs[j]).bind fun y => (compGo (mt1 xs[i]) (me xs[i]) (zs.drop (j + 1))).bind fun ys => some (y :: ys) else compGo (mt1 xs[i]) (me xs[i]) (zs.drop (j + 1))) c5
          obtain ⟨Fv, sv, subv⟩ := ((s4.via (fun a ha => subw a (sub2 a ha)) st'.fp ((bd3.ext ext4).2.1) bd5.2.1 e5).ext e6).wipe vs1
          refine hg1 _ _ W6 Fv zs[j] v1 sv (fun l hl' => by rw [wipeC_len]; exact hl1 xs[i] l hl') p6 _ fun σ3 F3 wp3 _ s3 sub3 => ⟨?_, ?_⟩
          · rw [wp3 _ hw1]
            exact jc_of.wipe_wipe σ2 vs1
          refine ht1 xs[i] zs[j] σ3 W6 F3 s3 b1 w1 _ fun W7 e7 => ?_
          have e57 : Ex W4.B W7.B := e5.trans (e6.trans e7).b
          cases b1 with
          | false => exact iteF ⟨zs.length - (j + 1), by omega, rfl, hltj, W7, cs, rfl, e57, (bd5.ext e6).ext e7, w2⟩
          | true =>
            obtain ⟨y2, cs2, w3, w4, w5⟩ := run2 (f := fun y ys => some (y :: ys)) w2
            cases w5
            refine iteT (he xs[i] zs[j] σ3 W7 F3 (s3.ext e7) y2 w3 _ fun u W8 Fu e8 fr8 fp8 r8 => ?_)
            obtain ⟨acc, a1, a2, a3⟩ := ((bd5.ext e6).ext e7).step hlen e8 fr8 fp8 r8
            exact ⟨acc, a1, a2, zs.length - (j + 1), by omega, rfl, hltj, ⟨upd W8.H D (.lst (acc ++ [u])), W8.B⟩, cs2, rfl, e57.trans e8.b, a3, w4⟩
        · have ej : j = zs.length := by omega
          subst ej
          rw [List.drop_length] at c5
          cases c5
          exact .inl ⟨jok2 _ (Nat.le_refl _), xs.length - (i + 1), by omega, rfl, hlt, W5, r1, rfl, bd5, u4⟩
    · have ei : i = xs.length := by omega
      subst ei
      rw [List.drop_length] at c1
      cases c1
      obtain ⟨hD0, e1, acc, as, Fa, d1, d2, c2, o1, o2, o3, o4⟩ := bd
      rw [List.append_nil] at c2
      subst c2
      refine .inl ⟨iok2 _ (Nat.le_refl _), k (.ref D) W1 (D :: Fa) (ext.trans e1) (fun a ha => ?_) ?_ ⟨D, acc, Fa, rfl, d1, rfl, o1⟩⟩
      · rcases List.mem_cons.mp ha with z | z
        · rw [z]; exact ext.h.back hD
        · exact ext.h.back (o4 a z)
      · refine ⟨List.nodup_cons.mpr ⟨o3, o2.nd⟩, fun a ha => ?_, fun a ha => ?_⟩
        · rcases List.mem_cons.mp ha with z | z
          · rw [z, d1]; exact fun z => nomatch z
          · exact o2.al a z
        · rcases List.mem_cons.mp ha with z | z
          · rw [z]; exact d2
          · exact o2.fr a z
  · cases h3
theorem js_setLc2 {x : Str} {py spos : Pos} {scope : Scope} {m : Option α} {R : α → OP} (i : Nat) (nd : S.N.Nodup) (h : JC2 S elt tg iter ifs tg1 iter1 ifs1 scope Γ m R) (hi : (Γ[i]?).isSome = true := by rfl) (hN : S.N[i]? = some x := by rfl) (hx : S.sc.names.lookup x = some .local := by rfl) (hp : (S.prot.contains i) = false := by rfl)
    (hk : S.sc.kind = .function := by rfl) (hl : (py.line == pos.line) = true := by rfl) (hown : (scope.names.any fun (n, k) => n == x && (k == .local || k == .cell)) = false := by decide +kernel) (hs : ∀ env x, foldedSetIterable iter env x = pure x := by intro _ _; rfl) (hs1 : ∀ env x, foldedSetIterable iter1 env x = pure x := by intro _ _; rfl) (hcm : S.calm = true := by rfl) :
    JS S (.Assign [.Name x py] (.ListComp elt [⟨tg, iter, ifs, 0⟩, ⟨tg1, iter1, ifs1, 0⟩] scope pos) spos) Γ m fun a => .nx (Γ.set i (some (R a))) := fun σ W F sta y hy E k => by
  obtain ⟨own, vs1, ok, hv, go⟩ := h
  refine ⟨_, fun X hX => ps_setLc2 (hX.calm.trans hcm) (by rw [hX.N]; exact nd) (by rw [hX.N]; exact hN) (by rw [hX.sc]; exact hx) (sw_true (by rw [hX.sc]; exact hk) (by rw [hX.sc]; exact hx) hl hown) (piO hX) (by rw [hX.N, hX.sc]; exact ok) hv (fun s H C cl fp => pgO (hX.blk scope s H C cl fp)) (fun s H C cl fp => ptsO (hX.blk scope s H C cl fp)) (fun s H C cl fp => piO (hX.blk scope s H C cl fp)) (fun s H C cl fp => pgO (hX.blk scope s H C cl fp)) (fun s H C cl fp => ptsO (hX.blk scope s H C cl fp)) (fun s H C cl fp => peO (hX.blk scope s H C cl fp)) (hs _) hs1, go σ W F sta y hy _ fun v W' Fv ext fr fp r => ?_⟩
  obtain ⟨F', s', stp⟩ := sta_set sta ext fr fp r hi
  exact k _ W' F' (Keep.set (ncon hp)) stp s'
end
end CC
set_option maxHeartbeats 4000000
/-! Calls with keywords in any order; an item of a list in a list taken out; written numbers of the module. -/
namespace CC
open PySem PySem.Spec L2
open PyProof.Rows hiding St
variable {α β γ δ τ υ ω ρ ε κ : Type}
def sel (l : List α) (is : List Nat) : List α := is.filterMap fun i => l[i]?
theorem vals_sel {vs : List V} {us : List Value} (h : Vals vs us) : ∀ is : List Nat, Vals (sel vs is) (sel us is)
  | [] => .nil
  | i :: is => by
    have ih := vals_sel h is
    unfold sel at ih ⊢
    cases e : vs[i]? with
    | none =>
      have e2 : us[i]? = none := by
        rw [List.getElem?_eq_none_iff] at e ⊢
        rw [← h.length]
        exact e
      rw [List.filterMap_cons_none e, List.filterMap_cons_none e2]
      exact ih
    | some v =>
      obtain ⟨u, e2, r⟩ := h.get e
      rw [List.filterMap_cons_some e, List.filterMap_cons_some e2]
      exact .cons r ih
theorem hets_sel {B : Hp} {vs : List V} {ps : List SP} (h : Hets B vs ps) : ∀ is : List Nat, Hets B (sel vs is) (sel ps is)
  | [] => trivial
  | i :: is => by
    have ih := hets_sel h is
    unfold sel at ih ⊢
    cases e : ps[i]? with
    | none =>
      have e2 : vs[i]? = none := by
        rw [List.getElem?_eq_none_iff] at e ⊢
        rw [h.len]
        exact e
      rw [List.filterMap_cons_none e, List.filterMap_cons_none e2]
      exact ih
    | some p =>
      obtain ⟨v, e2, r⟩ := h.get e
      rw [List.filterMap_cons_some e, List.filterMap_cons_some e2]
      exact ⟨r, ih⟩
theorem hets_s {B : Hp} {vs zs : List V} {ps qs rs : List SP} {is : List Nat} (h : Hets B vs ps) (k : Hets B zs qs) (e : rs = sel (ps ++ qs) is) : Hets B (sel (vs ++ zs) is) rs := e ▸ hets_sel (h.app k) is
theorem kb_plain {K : PySem.W.Frag} {x qual : Str} {params : Arguments} {body : List Stmt} {scope : Scope} {f : Addr} {fd : FuncData} {ps : List Str} (F : FunD K x qual params body scope [] [] f fd) (n : Nat) (ks : List Str) (is : List Nat)
    (h : ∀ (kV doc pm : Value) (an : Option Addr) (cdv ct : Value) (us ws : List Value), us.length = n → ws.length = ks.length → bindArgs (PySem.W.fnOf x qual params body scope .none kV doc pm an cdv ct) ⟨us, ks.zip ws⟩ = pure (ps.zip (sel (us ++ ws) is))) :
    KBn K fd ps n ks (fun us ws => sel (us ++ ws) is) (fun vs zs => sel (vs ++ zs) is) := by
  obtain ⟨oc, od, dV, kV, doc, pm, an, cdv, ct, osl, rfl, lk, hcd, hD, hK⟩ := F.ex
  rcases hD with ⟨_, rfl⟩ | ⟨e, _⟩
  · exact ⟨fun s us ws X l1 l2 => .of_eq (h kV doc pm an cdv ct us ws l1 l2), fun r q => vals_sel (r.append q) is⟩
  · exact absurd rfl e
section
variable {S : Stc} {Γ : Ctx} {a b e : Expr} {es : List Expr} {pos : Pos}
/-- a number of the module -/
theorem jn_gint {x : Str} {i : Int} (hm : ∃ t, S.mg x = some (.int i t)) (hg : GlS S x := by rfl) (hd : (x == ("__debug__" : Str)) = false := by decide) : JN S (.Name x pos) Γ (some i) fun z => sh (intS z) := by
  obtain ⟨t, hm⟩ := hm
  exact jn_c (v := .int i) (E := intS) (a := i) (fun X hX => pe_glob (hg.gl hX) (mgS hm hX) ⟨t, rfl⟩ hd) fun _ => rfl
end
section
variable {S : Stc} {Γ : τ → Ctx} {s : τ} {tg iter : Expr} {pos : Pos} {A : List Stmt}
theorem js_forE1 {mi : Option (List α × τ)} {E : α → SP} {up : α → Ctx → Ctx} {ws : List Nat} {Γl : υ → Ctx} {T : ρ → Kd} {f : α → υ → Option (Out υ ρ)} (s0 : τ → υ) (hi : JIE S tg iter Γ s mi E) (hg : JG S tg E up ws) (w : ∀ s, Weak (Γ s) (Γl (s0 s))) (hl : ∀ s, ∀ i ∈ ws, i < (Γl s).length)
    (hT : ∀ r, NoNx (T r) ∧ (∀ Δ, T r ≠ .bk Δ) ∧ ∀ Δ, T r ≠ .ct Δ) (hb : ∀ x s, JB S A (up x (Γl s)) (f x s) (DL Γl T)) (hs : ∀ env x, foldedSetIterable iter env x = pure x := by intro _ _; rfl) (hcm : S.calm = true := by rfl) :
    JS S (.For tg iter A [] pos) (Γ s) (mi.bind fun q => loopGo f q.1 (s0 q.2)) (DF Γl T) := fun σ W F sta z hz Ed k => by
  obtain ⟨q, h1, h2⟩ := run1 hz
  exact js_forE (Γl := fun _ => Γl) (f := fun _ => f) s0 hi hg w (fun _ => hl) hT (fun _ => hb) hs hcm σ W F sta (q.2, z) (by rw [h1]; show (loopGo f q.1 (s0 q.2)).bind _ = _; rw [h2]; rfl) Ed k
theorem js_forSE {mi : Option (List α × τ)} {E : α → SP} {up : α → Ctx → Ctx} {ws : List Nat} {Γl : υ → Ctx} {f : α → υ → Option υ} (s0 : τ → υ) (hi : JIE S tg iter Γ s mi E) (hg : JG S tg E up ws) (w : ∀ s, Weak (Γ s) (Γl (s0 s))) (hl : ∀ s, ∀ i ∈ ws, i < (Γl s).length)
    (hb : ∀ x s, JB S A (up x (Γl s)) (f x s) fun s' => .nx (Γl s')) (hs : ∀ env x, foldedSetIterable iter env x = pure x := by intro _ _; rfl) (hcm : S.calm = true := by rfl) :
    JS S (.For tg iter A [] pos) (Γ s) (mi.bind fun q => foldGo f q.1 (s0 q.2)) fun s => .nx (Γl s) := fun σ W F sta z hz Ed k => by
  have h := js_forE1 (ρ := Empty) (T := fun r => nomatch r) (f := fun x s => (f x s).bind fun s' => some (.nx s')) (pos := pos) s0 hi hg w hl (fun r => nomatch r) (fun x s => JB.map (hb x s) fun s' => rfl) hs hcm
  refine h σ W F sta (.nx z) ?_ Ed k
  obtain ⟨q, h1, h2⟩ := run1 hz
  rw [h1]
  show loopGo _ q.1 (s0 q.2) = _
  rw [loopGo_fold, h2]
  rfl
end
/-- a def with state first that falls off its end -/
theorem fnd_stateN {P : Program} {w : World} {K : PySem.W.Frag} {mg : Str → Option Value} {base : Heap} {x qual : Str} {st : Stmt} {f : Addr} {fd : FuncData} {dvs : List V} {kwd : List (Str × V)} {N ps : List Str} {k : Nat} {O : τ → OP} {G : α → List SP} {fM : α → τ → Option τ} (F : FunD K x qual (defArgs st) (defBody st) (defScope st) dvs kwd f fd) (Sc : FnScope N ps (defScope st)) (hG : ∀ a, (G a).length + 1 = ps.length) (hn : ps.length ≤ N.length)
    (body : ∀ a s, JB (stcOf P w K mg base N (defScope st) k [0]) (defBody st) (some (O s) :: (shC (G a) ++ nonC (N.length - ps.length))) (fM a s) fun r => .nx (some (O r) :: nonC (N.length - 1))) : FnOk P w K mg base CX0 (k + 1) f fd ps (spS O G (fun a s => (fM a s).bind fun s' => some ((), s')) fun _ => sh nonS) := by
  refine F.ok Sc (fun vs H Q E h => ?_) (fun cdv A outer s H vs Q E hr h => ?_)
  · obtain ⟨a, s, W, F, v0, vr, r, rfl, _, _, _, _, h3, _⟩ := h
    rw [List.length_cons, h3.len, hG]
  · obtain ⟨a, s0, W, Fp, v0, vr, r, rfl, rfl, ok, fp0, h0, h3, h4, kq⟩ := h
    obtain ⟨s1, h5, h6⟩ := run1 h4
    cases h6
    refine ⟨tbOf (stcOf P w K mg base N (defScope st) k [0]) (defBody st), (pbO (in_cx hr)).nox, ?_⟩
    have hl : (v0 :: vr).length = ps.length := by rw [List.length_cons, h3.len]; exact hG a
    have sta : Sta (some (O s0) :: (shC (G a) ++ nonC (N.length - ps.length))) (L2.start N (v0 :: vr)) W Fp := ⟨ok, fp0, by
      unfold L2.start shC nonC
      have := hG a
      simp [h3.len]
      omega, ⟨v0, Fp, [], rfl, (List.append_nil _).symm, h0, by
      unfold L2.start
      rw [hl]
      exact holds_sh h3⟩⟩
    refine body a s0 _ W Fp sta s1 h5 _ fun σ' W' F' kp stp sa => ?_
    obtain ⟨u, F1, F2, b1, b2, b3, b4⟩ := sa.hold
    have e0 : σ'[0]? = some (some v0) := (kp 0 (by simp)).trans rfl
    have eu : u = v0 := by
      rw [List.head?_eq_getElem?] at b1
      rw [e0] at b1
      exact (Option.some.inj (Option.some.inj b1)).symm
    subst eu
    have eF : F2 = [] := by
      have : ∀ (n : Nat) (σ : L2.St) (F : List Addr), Holds (nonC n) σ W' F → F = [] := by
        intro n
        induction n with
        | zero => intro σ F h; exact h
        | succ n ih => intro σ F h; exact ih σ.tail F h
      exact this _ _ _ b4
    subst eF
    rw [List.append_nil] at b2
    subst b2
    exact kq .non W' F' [] (by rw [List.append_nil]; exact stp) (by rw [List.append_nil]; exact sa.fp) b3 ⟨rfl, rfl⟩
end CC
set_option maxHeartbeats 4000000
/-! A row of a table under a second name. -/
namespace CC
open PySem PySem.Spec L2
open PyProof.Rows hiding St
variable {α β γ δ τ υ ω ρ ε κ : Type}
/-- all owned but the k-th -/
def OwnsBut (E : α → OP) (W : Wd) : Nat → List V → List α → List Addr → Prop
  | 0, _ :: vs, _ :: xs, F => Owns E W vs xs F
  | k + 1, v :: vs, x :: xs, F => ∃ F1 F2, F = F1 ++ F2 ∧ (E x).C W v F1 ∧ OwnsBut E W k vs xs F2
  | _, [], _, _ => False
  | _, _ :: _, [], _ => False
theorem OwnsBut.loc {E : α → OP} {W W' : Wd} (e : Ex W.B W'.B) : ∀ {k : Nat} {vs : List V} {xs : List α} {F : List Addr}, OwnsBut E W k vs xs F → (∀ a ∈ F, W'.H a = W.H a) → OwnsBut E W' k vs xs F
  | 0, _ :: _, _ :: _, _, h, q => Owns.loc e h q
  | k + 1, _ :: _, _ :: _, _, ⟨F1, F2, h1, h2, h3⟩, q => by
    subst h1
    exact ⟨F1, F2, rfl, OP.loc _ h2 e fun a ha => q a (List.mem_append_left _ ha), OwnsBut.loc e h3 fun a ha => q a (List.mem_append_right _ ha)⟩
  | 0, [], _, _, h, _ => h.elim
  | 0, _ :: _, [], _, h, _ => h.elim
  | _ + 1, [], _, _, h, _ => h.elim
  | _ + 1, _ :: _, [], _, h, _ => h.elim
theorem Owns.split {E : α → OP} {W : Wd} : ∀ {k : Nat} {vs : List V} {xs : List α} {F : List Addr} {x : α}, Owns E W vs xs F → xs[k]? = some x → ∃ v F1 F2, vs[k]? = some v ∧ (E x).C W v F1 ∧ OwnsBut E W k vs xs F2 ∧ F.Perm (F1 ++ F2)
  | 0, v :: vs, y :: xs, _, x, ⟨F1, F2, h1, h2, h3⟩, e => by
    have : y = x := by simpa using e
    subst this h1
    exact ⟨v, F1, F2, rfl, h2, h3, .refl _⟩
  | k + 1, v :: vs, y :: xs, _, x, ⟨F1, F2, h1, h2, h3⟩, e => by
    subst h1
    obtain ⟨u, G1, G2, a1, a2, a3, a4⟩ := Owns.split (k := k) h3 (by simpa using e)
    refine ⟨u, G1, F1 ++ G2, by simpa using a1, a2, ⟨F1, G2, rfl, h2, a3⟩, ?_⟩
    refine (List.Perm.append_left F1 a4).trans ?_
    rw [← List.append_assoc, ← List.append_assoc]
    exact List.Perm.append_right G2 List.perm_append_comm
  | _, [], [], _, _, _, e => by simp at e
  | _, [], _ :: _, _, _, h, _ => h.elim
  | _, _ :: _, [], _, _, h, _ => h.elim
theorem OwnsBut.join {E : α → OP} {W : Wd} : ∀ {k : Nat} {vs : List V} {xs : List α} {F2 F1 : List Addr} {x : α} {v : V}, OwnsBut E W k vs xs F2 → vs[k]? = some v → (E x).C W v F1 → ∃ F, Owns E W vs (xs.set k x) F ∧ F.Perm (F1 ++ F2)
  | 0, u :: vs, y :: xs, F2, F1, x, v, h, e, c => by
    have : u = v := by simpa using e
    subst this
    exact ⟨F1 ++ F2, ⟨F1, F2, rfl, c, h⟩, .refl _⟩
  | k + 1, u :: vs, y :: xs, _, F1, x, v, ⟨G1, G2, h1, h2, h3⟩, e, c => by
    subst h1
    obtain ⟨F, a1, a2⟩ := OwnsBut.join (k := k) h3 (by simpa using e) c
    refine ⟨G1 ++ F, ⟨G1, F, rfl, h2, a1⟩, ?_⟩
    refine (List.Perm.append_left G1 a2).trans ?_
    rw [← List.append_assoc, ← List.append_assoc]
    exact List.Perm.append_right G2 List.perm_append_comm
  | 0, [], _, _, _, _, _, h, _, _ => h.elim
  | 0, _ :: _, [], _, _, _, _, h, _, _ => h.elim
  | _ + 1, [], _, _, _, _, _, h, _, _ => h.elim
  | _ + 1, _ :: _, [], _, _, _, _, h, _, _ => h.elim
/-- a list whose k-th item, the value v, is lent -/
def holeO (E : α → OP) (k : Nat) (v : V) (xs : List α) : OP := ⟨fun W w F => ∃ a vs F2, w = .ref a ∧ W.H a = some (.lst vs) ∧ F = a :: F2 ∧ vs[k]? = some v ∧ OwnsBut E W k vs xs F2, fun h e q => by
  obtain ⟨a, vs, F2, h1, h2, h3, h4, h5⟩ := h
  subst h3
  exact ⟨a, vs, F2, h1, (q a List.mem_cons_self).trans h2, rfl, h4, h5.loc e fun b hb => q b (List.mem_cons_of_mem _ hb)⟩⟩
/-- the very value v -/
def alO (o : OP) (v : V) : OP := ⟨fun W w F => w = v ∧ o.C W w F, fun h e q => ⟨h.1, o.loc h.2 e q⟩⟩
section
variable {S : Stc} {Γ Δ : Ctx} {a b e : Expr} {pos : Pos} {st : Stmt} {rest : List Stmt}
theorem jb_borrow {r u : Str} {p0 p1 p2 : Pos} {E : α → OP} {xss : List α} {mi : Option Int} {mr : Nat → α → Option ω} {D : ω → Kd} (iu ir : Nat) (nd : S.N.Nodup) (ha : JN S a Γ mi fun z => sh (intS z)) (hi : Γ[iu]? = some (some (lstO E xss)) := by rfl) (hir : (Γ[ir]?).isSome = true := by rfl) (hne : iu ≠ ir := by decide)
    (hr : ∀ k v x, JB S rest ((Γ.set iu (some (holeO E k v xss))).set ir (some (alO (E x) v))) (mr k x) D)
    (hNu : S.N[iu]? = some u := by rfl) (hNr : S.N[ir]? = some r := by rfl) (hvu : Vis S.sc u := by first | exact Or.inl rfl | exact Or.inr (Or.inl rfl) | exact Or.inr (Or.inr rfl)) (hd : (u == ("__debug__" : Str)) = false := by decide) (hcd : (u == ("__classdict__" : Str)) = false := by decide)
    (hx : Loc S.sc r := by first | exact Or.inl rfl | exact Or.inr rfl) (hp : (S.prot.contains ir) = false := by rfl) (hpl : PlainIx a := by exact fun _ _ => rfl)
    (hs : ∀ env, swapsWith (.Subscript (.Name u p0) a p1) (some (.Name r p2)) pos.line env = pure false := by intro _; rfl) (hf : S.fn r = true ∨ S.sc.names.lookup r = some .local := by first | exact .inl rfl | exact .inr rfl) :
    JB S (.Assign [.Name r p2] (.Subscript (.Name u p0) a p1) pos :: rest) Γ (mi.bind fun i => (ixN xss.length i).bind fun k => (xss[k]?).bind fun x => mr k x) D := fun σ W F sta z hz Ed kk => by
  obtain ⟨i, m1, m2⟩ := run1 hz
  obtain ⟨k, m3, m4⟩ := run1 (f := fun k => (xss[k]?).bind fun x => mr k x) m2
  obtain ⟨x, m5, m6⟩ := run1 (f := fun x => mr k x) m4
  refine ⟨tSeq (tAsg (tOp (rIxL S.K) (tVar iu) (tOf S a)) (gName ir)) (tbOf S rest), fun X hX => pss_cons (ps_set (by rw [hX.N]; exact nd) (by rw [hX.N]; exact hNr) (locS hx hX) (pe_ix (oIxL X hX) (pe_var (by rw [hX.N]; exact hNu) (visS hvu hX) hd hcd) (peO hX) hpl) (hs _) (by rw [hX.fn, hX.sc]; exact hf)) (pbO hX), ?_⟩
  obtain ⟨w, F1, F2, a1, _⟩ := sta.hold.at hi
  refine ⟨w, a1, ha σ W F sta i m1 _ fun t W1 _ ext _ _ r1 => ?_⟩
  obtain ⟨_, rfl⟩ := r1
  have sta1 := sta.ext ext
  obtain ⟨w', F1', F2', c1, c2, c3, c4⟩ := sta1.hold.at hi
  have ev : w' = w := by rw [a1] at c1; exact (Option.some.inj (Option.some.inj c1)).symm
  subst ev
  obtain ⟨p, vs, G2, rfl, d2, rfl, d4⟩ := c2
  obtain ⟨v, K1, K2, k1, k2, k3, k4⟩ := d4.split m5
  refine ⟨p, vs, i, v, rfl, rfl, .inl (.inl d2), by unfold atI; rw [d4.len, m3]; exact k1, ?_⟩
  obtain ⟨F', s1, s2⟩ := c4 W1 (holeO E k v xss) (.ref p) (p :: K2) (fun _ _ h => h) (fun _ _ => rfl) ⟨p, vs, K2, rfl, d2, rfl, k1, k3⟩
  rw [set_back c1] at s1
  have pF : F.Perm (F' ++ K1) := by
    refine c3.trans ?_
    refine List.Perm.trans ?_ (List.Perm.append_right K1 s2.symm)
    have e1 : ((p :: G2) ++ F2').Perm ((p :: (K2 ++ K1)) ++ F2') := List.Perm.append_right F2' (List.Perm.cons p (k4.trans List.perm_append_comm))
    refine e1.trans ?_
    show ((p :: K2) ++ K1 ++ F2').Perm _
    rw [List.append_assoc, List.append_assoc]
    exact List.Perm.append_left _ List.perm_append_comm
  have fpA := sta1.fp.perm pF
  have s3 : Sta (Γ.set iu (some (holeO E k v xss))) σ W1 F' := ⟨sta1.ok, fpA.left, by rw [List.length_set]; exact sta1.len, s1⟩
  have hlt : ir < (Γ.set iu (some (holeO E k v xss))).length := by
    rw [List.length_set]
    cases h : Γ[ir]? with
    | none => rw [h] at hir; cases hir
    | some o => exact (List.getElem?_eq_some_iff.mp h).1
  obtain ⟨F3, s4, sub⟩ := s3.put (o := alO (E x) v) (v := v) (F1 := K1) hlt ⟨rfl, k2⟩ fpA
  refine hr k v x (σ.set ir (some v)) W1 F3 s4 z m6 Ed (kk.before (Keep.set (ncon hp)) ?_)
  exact ext.stp0.perm fun b hb => pF.mem_iff.mpr (sub b hb)
/-- what was lent is put back -/
theorem jb_back {sts : List Stmt} {E : α → OP} {xss : List α} {m : Option ω} {D : ω → Kd} {k : Nat} {v : V} {x : α} (iu ir : Nat) (hu : (Γ.set ir none)[iu]? = some (some (holeO E k v xss))) (hr : Γ[ir]? = some (some (alO (E x) v))) (h : JB S sts ((Γ.set ir none).set iu (some (lstO E (xss.set k x)))) m D) : JB S sts Γ m D := fun σ W F sta z hz Ed kk => by
  obtain ⟨w, F1, F2, a1, ⟨rfl, a2⟩, a3, s1⟩ := sta_take sta hr
  obtain ⟨w', G1, G2, c1, c2, c3, c4⟩ := s1.hold.at hu
  obtain ⟨p, vs, H2, rfl, d2, rfl, d3, d4⟩ := c2
  obtain ⟨F', e1, e2⟩ := d4.join d3 a2
  obtain ⟨F3, t1, t2⟩ := c4 W (lstO E (xss.set k x)) (.ref p) (p :: F') (fun _ _ h => h) (fun _ _ => rfl) ⟨p, vs, F', rfl, d2, rfl, e1⟩
  rw [set_back c1] at t1
  have pF : F.Perm F3 := by
    refine a3.trans ?_
    refine (List.Perm.append_right F1 c3).trans ?_
    refine List.Perm.trans ?_ t2.symm
    show ((p :: H2) ++ G2 ++ F1).Perm (p :: F' ++ G2)
    refine List.Perm.trans ?_ (List.Perm.append_right G2 (List.Perm.cons p e2.symm))
    show (p :: (H2 ++ G2 ++ F1)).Perm (p :: ((F1 ++ H2) ++ G2))
    refine List.Perm.cons p ?_
    rw [List.append_assoc F1]
    exact List.perm_append_comm
  have s2 : Sta ((Γ.set ir none).set iu (some (lstO E (xss.set k x)))) σ W F3 := ⟨sta.ok, sta.fp.perm pF, by rw [List.length_set]; exact s1.len, t1⟩
  exact h σ W F3 s2 z hz Ed (kk.before Keep.refl ((Stp.refl sta.ok).perm fun b hb => pF.mem_iff.mpr hb))
theorem ts_prot {D : Ends} {σ : L2.St} {H : Hp} {p : List Nat} (h : tsOf { S with prot := p } st D σ H) : tsOf S st D σ H := by
  obtain ⟨t, h1, h2⟩ := h
  exact ⟨t, fun X hX => h1 X ⟨hX.prog, hX.w, hX.K, hX.mg, hX.base, hX.N, hX.sc, hX.fn, hX.calm, hX.room, hX.un, hX.pass, hX.tk, hX.top, hX.ex⟩, h2⟩
/-- a statement over the lent row, which keeps its slot -/
theorem js_al {o : OP} {o' : τ → OP} {v : V} {m : Option τ} {Γl : τ → Ctx} (ir : Nat) (hi : Γ[ir]? = some (some (alO o v))) (h : JS { S with prot := ir :: S.prot } st (Γ.set ir (some o)) m fun x => .nx (Γl x)) (hl : ∀ x, (Γl x)[ir]? = some (some (o' x)) := by intro _; rfl) :
    JS S st Γ m fun x => .nx ((Γl x).set ir (some (alO (o' x) v))) := fun σ W F sta z hz Ed kk => by
  obtain ⟨w, F1, F2, a1, ⟨rfl, a2⟩, a3, a4⟩ := sta.hold.at hi
  obtain ⟨F', s1, s2⟩ := a4 W o w F1 (fun _ _ h => h) (fun _ _ => rfl) a2
  rw [set_back a1] at s1
  have pF : F.Perm F' := a3.trans s2.symm
  have sta' : Sta (Γ.set ir (some o)) σ W F' := ⟨sta.ok, sta.fp.perm pF, by rw [List.length_set]; exact sta.len, s1⟩
  refine ts_prot (p := ir :: S.prot) (h σ W F' sta' z hz Ed fun σ' W' F2' kp stp sa => ?_)
  have e0 : σ'[ir]? = some (some w) := (kp ir List.mem_cons_self).trans a1
  obtain ⟨w', G1, G2, b1, b2, b3, b4⟩ := sa.hold.at (hl z)
  have ew : w' = w := by rw [e0] at b1; exact (Option.some.inj (Option.some.inj b1)).symm
  subst ew
  obtain ⟨F3, t1, t2⟩ := b4 W' (alO (o' z) w') w' G1 (fun _ _ h => h) (fun _ _ => rfl) ⟨rfl, b2⟩
  rw [set_back b1] at t1
  have pG : F2'.Perm F3 := b3.trans t2.symm
  refine kk σ' W' F3 (fun p hp => kp p (List.mem_cons_of_mem _ hp)) ?_ ⟨sa.ok, sa.fp.perm pG, by rw [List.length_set]; exact sa.len, t1⟩
  exact (stp.permL fun b hb => pF.mem_iff.mpr hb).perm fun b hb => pG.mem_iff.mpr hb
end
theorem iv_alO {K : PySem.W.Frag} {E : α → OP} {v : V} : IxV (rIxL K) (fun xs => alO (lstO E xs) v) intS (fun xs i => atI xs i) E := fun W x y v u z F1 ok hx hy e Q k => iv_lstO W x y v u z F1 ok hx.2 hy e Q k
section
variable {S : Stc} {Γ Δ : Ctx} {a b e : Expr} {pos : Pos} {st : Stmt} {rest : List Stmt}
theorem sta_frz {σ : L2.St} {W : Wd} {F : List Addr} {i : Nat} {o : OP} {p : SP} (st : Sta Γ σ W F) (hi : Γ[i]? = some (some o)) (f : FrzN o p) : ∃ B' F', Ex W.B B' ∧ Sta (Γ.set i (some (sh p))) σ ⟨W.H, B'⟩ F' := by
  obtain ⟨v, F1, F2, a1, a2, a3, a4⟩ := st.hold.at hi
  have fp := st.fp.perm a3
  obtain ⟨B', b1, b2, b3, b4⟩ := f.run a2 fp.left.nd fp.left.fr st.ok
  obtain ⟨F', c1, c2⟩ := a4 ⟨W.H, B'⟩ (sh p) v [] b1 (fun _ _ => rfl) ⟨rfl, b4⟩
  have fp' : FpOk ⟨W.H, B'⟩ F' := by
    refine FpOk.perm (F := F2) ?_ (by simpa using c2.symm)
    exact ⟨fp.right.nd, fp.right.al, fun a ha => b3 a (fp.right.fr a ha) fun z => fp.disj a z ha⟩
  rw [set_back a1] at c1
  exact ⟨B', F', b1, b2, fp', by rw [List.length_set]; exact st.len, c1⟩
theorem ext_thaw {W W' : Wd} {B' : Hp} (ok : Ex W.B W.H) (b : Ex W.B B') (e : Ext ⟨W.H, B'⟩ W') : Ext W ⟨W'.H, W.B⟩ := ⟨ok.trans e.h, e.h, Ex.refl _, fun _ _ h => h⟩
/-- what is owned is read as if it stood still; the value does not lean on it -/
theorem jn_thaw {m : Option α} {E : α → SP} {i : Nat} {o : OP} {p : SP} (hE : ∀ x B B' v, (E x).P B v → (E x).P B' v) (hi : Γ[i]? = some (some o)) (f : FrzN o p) (h : JN S e (Γ.set i (some (sh p))) m fun x => sh (E x)) : JN S e Γ m fun x => sh (E x) := fun σ W F st x hx Q k => by
  obtain ⟨B', F', b, st'⟩ := sta_frz st hi f
  exact h σ ⟨W.H, B'⟩ F' st' x hx Q fun v W' Fv ext fr fp r => k v ⟨W'.H, W.B⟩ [] (ext_thaw st.ok b ext) (by simp) FpOk.nil ⟨rfl, hE _ _ _ _ r.2⟩
theorem jt_thaw {m : Option Bool} {i : Nat} {o : OP} {p : SP} (hi : Γ[i]? = some (some o)) (f : FrzN o p) (h : JT S e (Γ.set i (some (sh p))) m) : JT S e Γ m := fun σ W F st x hx Q k => by
  obtain ⟨B', F', b, st'⟩ := sta_frz st hi f
  exact h σ ⟨W.H, B'⟩ F' st' x hx Q fun W' ext => k ⟨W'.H, W.B⟩ (ext_thaw st.ok b ext)
theorem flat_int : ∀ (x : Int) (B B' : Hp) (v : V), (intS x).P B v → (intS x).P B' v := fun _ _ _ _ h => h
theorem flat_bool : ∀ (x : Bool) (B B' : Hp) (v : V), (boolS x).P B v → (boolS x).P B' v := fun _ _ _ _ h => h
theorem flat_str : ∀ (x : Str) (B B' : Hp) (v : V), (strS x).P B v → (strS x).P B' v := fun _ _ _ _ h => h
end
section
variable {S : Stc} {Γ : Ctx} {a b e : Expr} {pos : Pos}
theorem each_ints {B : Hp} : ∀ {ns : List Int}, Each intS B (ns.map V.int) ns
  | [] => trivial
  | _ :: _ => ⟨rfl, each_ints⟩
theorem sorted_ints {m : Option (List Int)} {p : Pos} (hm : S.mg "sorted" = none) (h : JN S a Γ m fun x => sh (lstS intS x)) (hg : GlS S "sorted" := by rfl) (hs : ∀ env, starEach [a] env = [(false, eval a env)] := by intro _; rfl) : JN S (.Call (.Name "sorted" p) [a] [] pos) Γ (m.bind fun xs => some (sortI xs)) (lstO fun x => sh (intS x)) :=
  jn_b1 (f := fun xs : List Int => some (sortI xs)) (fun X hX => hX.K ▸ cr_sortedI) (fun W x v z ok hh e Q k => by
    cases e
    obtain ⟨a, vs, rfl, h2, h3⟩ := hh
    have e1 := each_flat fl_int h3
    subst e1
    refine ⟨a, x, rfl, .inl (.inl (ok a _ h2)), fun ys p perm srt np => ?_⟩
    have e : ys = sortI x := srt_uniq leI_an (List.Pairwise.imp (fun {u w} hn => by unfold leI; simpa using hn) srt) (isort_srt leI_tot leI_tr x) (perm.trans (isort_perm leI x).symm)
    subst e
    exact k.newL ok each_ints p np) hm h hg (by decide +kernel) (by decide) (by decide) hs
end
end CC
set_option maxHeartbeats 4000000
/-! A list of one's own within a list of several kinds. -/
namespace CC
open PySem PySem.Spec L2
open PyProof.Rows hiding St
variable {α β γ δ τ υ ω ρ ε κ : Type}
section
variable {S : Stc} {Γ : Ctx} {a b e : Expr} {es : List Expr} {pos : Pos}
/-- [fresh, shared, ..] -/
theorem jn_hl1 {m0 : Option α} {m : Option β} {R0 : α → OP} {G : β → List SP} {T : γ → OP} {g : α → β → γ} (h0 : JN S e Γ m0 R0) (h : JA S es Γ m G) (hR : ∀ x y, hetO (R0 x :: (G y).map sh) = T (g x y) := by intro _ _; rfl) (hl : ∀ x, (G x).length ≤ 1000 := by intro _; exact Nat.le_of_ble_eq_true rfl) (hs : ∀ env, starEach (e :: es) env = (false, eval e env) :: starEach es env := by intro _; rfl) :
    JN S (.List (e :: es) pos) Γ (m0.bind fun x => m.bind fun y => some (g x y)) T := fun σ W F sta z hz Q kk => by
  obtain ⟨x, y, h1, h2, h3⟩ := run2 hz
  cases h3
  refine ⟨tLst (tCons (tOf S e) (taOf S es)), fun X hX => pe_lst (pa_cons (peO hX) (paO hX) (hs _)), ?_⟩
  refine h0 σ W F sta x h1 _ fun v W1 Fv e1 fr fp r => ?_
  refine h σ W1 F (sta.ext e1) y h2 _ fun vs W2 e2 hh => ?_
  refine ⟨Nat.le_trans (by rw [List.length_cons, hh.len]; exact Nat.succ_le_succ (hl y)) (by decide), fun q hq => ?_⟩
  have e3 : Ext W2 ⟨upd W2.H q (.lst (v :: vs)), W2.B⟩ := Ext.new e2.ok hq
  have r2 : (R0 x).C W2 v Fv := (R0 x).ext r e2 fp
  have nq : ∀ b ∈ Fv, b ≠ q := fun b hb z => (fp.ext e2).al b hb (z ▸ hq)
  have r3 : (R0 x).C ⟨upd W2.H q (.lst (v :: vs)), W2.B⟩ v Fv := (R0 x).loc r2 (fun _ _ h => h) fun b hb => upd_ne (nq b hb)
  refine kk (.ref q) ⟨upd W2.H q (.lst (v :: vs)), W2.B⟩ (q :: Fv) ((e1.trans e2).trans e3) (fun b hb => ?_) ?_ (by rw [← hR]; exact ⟨q, v :: vs, Fv, rfl, upd_same, rfl, Fv, [], (List.append_nil _).symm, r3, HetO.of_hts (W := ⟨upd W2.H q (.lst (v :: vs)), W2.B⟩) hh⟩)
  · rcases List.mem_cons.mp hb with z | z
    · rw [z]; exact (e1.trans e2).h.back hq
    · exact fr b z
  · have f2 := fp.ext e2
    refine ⟨List.nodup_cons.mpr ⟨fun hb => nq q hb rfl, f2.nd⟩, fun b hb => wr_al' b hb f2, fun b hb => ?_⟩
    rcases List.mem_cons.mp hb with z | z
    · rw [z]
      exact e2.ok.back hq
    · exact f2.fr b z
where
  wr_al' {W2 : Wd} {q : Addr} {o : HO} {Fv : List Addr} (b : Addr) (hb : b ∈ q :: Fv) (f2 : FpOk W2 Fv) : upd W2.H q o b ≠ none := by
    by_cases z : b = q
    · rw [z, upd_same]
      exact fun z => nomatch z
    · rw [upd_ne z]
      exact f2.al b ((List.mem_cons.mp hb).resolve_left z)
end
section
variable {S : Stc} {Γ : τ → Ctx} {s : τ} {e : Expr} {pos : Pos}
/-- x[k].pop(e), x a list of several kinds, its k-th item a list of its own -/
theorem je_popH {x : Str} {p0 apos p2 : Pos} {kk p'} {ps : τ → List OP} {E : α → SP} {mi : Option Int} {j : Int} (i k : Nat) (get : τ → List α) (put : τ → List α → τ) (h : JN S e (Γ s) mi fun z => sh (intS z)) (hi : ∀ s, (Γ s)[i]? = some (some (hetO (ps s))) := by intro _; rfl) (hk : ∀ s, (ps s)[k]? = some (lstO (fun y => sh (E y)) (get s)) := by intro _; rfl)
    (hp : ∀ s u, (Γ s).set i (some (hetO ((ps s).set k (lstO (fun y => sh (E y)) u)))) = Γ (put s u) := by intro _ _; rfl) (hj : j = (k : Int) := by rfl)
    (hN : S.N[i]? = some x := by rfl) (hv : Vis S.sc x := by first | exact Or.inl rfl | exact Or.inr (Or.inl rfl) | exact Or.inr (Or.inr rfl)) (hd : (x == ("__debug__" : Str)) = false := by decide) (hcd : (x == ("__classdict__" : Str)) = false := by decide)
    (hbase : ∀ env, attributeBase (.Subscript (.Name x p0) (.Constant (.int j) kk p') p2) "pop" env (eval (.Subscript (.Name x p0) (.Constant (.int j) kk p') p2) env) = eval (.Subscript (.Name x p0) (.Constant (.int j) kk p') p2) env := by intro _; rfl)
    (hfew : ∀ env, ((backTo pos (starEach [e] env)).all (fun x => !x.1) && (backToKw pos (keywordEach [] env)).all (fun x => x.1.isSome) && decide ([e].length + ([] : List Keyword).length + (if ([] : List Keyword).isEmpty then 0 else 1) < 30)) = true := by intro _; rfl)
    (hline : (apos.endLine == pos.line) = true := by rfl) (hs : ∀ env, starEach [e] env = (false, eval e env) :: starEach [] env := by intro _; rfl) :
    JE S (.Call (.Attribute (.Subscript (.Name x p0) (.Constant (.int j) kk p') p2) "pop" apos) [e] [] pos) Γ s (mi.bind fun z => (popAt (get s) z).bind fun r => some (r.1, put s r.2)) fun y => sh (E y) := fun σ W F sta z hz Q kq => by
  obtain ⟨q, h1, h2⟩ := run1 hz
  obtain ⟨r, h3, h4⟩ := run1 (f := fun r : α × List α => some (r.1, put s r.2)) h2
  cases h4
  unfold popAt at h3
  split at h3
  · rename_i hb
    obtain ⟨y, h5, h6⟩ := run1 (f := fun y : α => some (y, (get s).eraseIdx q.toNat)) h3
    cases h6
    refine ⟨tBM S.K "list" rPopAt (tOp (rIxL S.K) (tVar i) (tC (.int j))) (tCons (tOf S e) tNil), fun X hX => hX.K ▸ pe_bm PySem.F.plainAttrs_list PySem.F.slot_list_pop PySem.F.type_list_pop mt_popAt (pe_ix (hX.K ▸ oIxL X hX) (pe_var (by rw [hX.N]; exact hN) (visS hv hX) hd hcd) pe_int (fun _ _ => rfl)) (pa_cons (peO hX) pa_nil (hs _)) (hbase _) (hfew _) hline (hs _) rfl, ?_⟩
    obtain ⟨v, F1, F2, a1, a2, a3, a4⟩ := sta.hold.at (hi s)
    obtain ⟨a, vs, G2, rfl, b2, rfl, b4⟩ := id a2
    obtain ⟨w, K1, K2, k1, k2, k3, k4⟩ := b4.at (hk s)
    obtain ⟨p, us, L2', rfl, l2, rfl, l4⟩ := k2
    refine ⟨.ref a, a1, a, vs, j, .ref p, rfl, rfl, .inl (.inl b2), by rw [hj]; exact atI_k k1, ?_⟩
    refine ⟨.inl ⟨rfl, us, .inl (.inl l2)⟩, h σ W F sta q h1 _ fun u W1 Fa ext _ _ r1 => ?_⟩
    obtain ⟨_, rfl⟩ := r1
    have sta1 := sta.ext ext
    obtain ⟨v', F1', F2', c1, c2, c3, c4⟩ := sta1.hold.at (hi s)
    have ev : v' = .ref a := by rw [a1] at c1; exact (Option.some.inj (Option.some.inj c1)).symm
    subst ev
    obtain ⟨a', vs', G3, e1, d2, rfl, d4⟩ := c2
    cases e1
    have evs : vs' = vs := by
      rw [ext.h a _ b2] at d2
      cases d2
      rfl
    subst evs
    obtain ⟨w', M1, M2, n1, n2, n3, n4⟩ := d4.at (hk s)
    rw [k1] at n1
    cases n1
    obtain ⟨p', us', L3, e2, o2, rfl, o4⟩ := n2
    cases e2
    obtain ⟨rfl, o5⟩ := o4.each
    have fpA := (sta1.fp.perm c3).left
    have hB : W1.B p = none := fpA.fr p (List.mem_cons_of_mem _ (n3.mem_iff.mpr (by simp)))
    have hne : a ≠ p := fun z => (List.nodup_cons.mp fpA.nd).1 (z ▸ n3.mem_iff.mpr (by simp))
    have hK : ∀ b ∈ M2, b ≠ p := fun b hb z => by
      have nd := (n3.nodup_iff.mp (List.nodup_cons.mp fpA.nd).2)
      exact (List.nodup_cons.mp nd).1 (z ▸ hb)
    obtain ⟨t, t1, t2⟩ := o5.get h5
    have hlen := o5.len
    have hlt : q.toNat < (get s).length := (List.getElem?_eq_some_iff.mp h5).1
    have z : LIM = 1000000 := rfl
    have eseq : seqIndex? q us'.length = some q.toNat := by
      have hx : ixN us'.length q = some q.toNat := by
        unfold ixN
        rw [if_pos hb.1, if_pos (by omega)]
      exact (ixN_seq hx).1
    refine ⟨p, us', q, q.toNat, t, rfl, rfl, o2, by omega, by omega, eseq, t1, ?_⟩
    have rN : (lstO (fun x => sh (E x)) ((get s).eraseIdx q.toNat)).C ⟨upd W1.H p (.lst (us'.eraseIdx q.toNat)), W1.B⟩ (.ref p) [p] :=
      ⟨p, _, [], rfl, upd_same, rfl, Owns.of_each (o5.eraseIdx q.toNat)⟩
    obtain ⟨G', g1, g2⟩ := n4 ⟨upd W1.H p (.lst (us'.eraseIdx q.toNat)), W1.B⟩ (lstO (fun x => sh (E x)) ((get s).eraseIdx q.toNat)) (.ref p) [p] (fun _ _ h => h) (fun b hb => upd_ne (hK b hb)) rN
    have hset : vs'.set k (.ref p) = vs' := by
      refine List.ext_getElem? fun n => ?_
      by_cases z : k = n
      · subst z
        rw [k1, List.getElem?_set_self (List.getElem?_eq_some_iff.mp k1).1]
      · rw [List.getElem?_set_ne z]
    rw [hset] at g1
    have pG : (a :: G').Perm (a :: G3) := List.Perm.cons a (g2.trans n3.symm)
    have fpB := fpA.perm pG.symm
    obtain ⟨F', s', stp⟩ := sta_own (W' := ⟨upd W1.H p (.lst (us'.eraseIdx q.toNat)), W1.B⟩) (F1' := a :: G') (o' := hetO ((ps s).set k (lstO (fun x => sh (E x)) ((get s).eraseIdx q.toNat)))) [] sta1 (by rw [List.append_nil]; exact sta1.fp) c1 c3 c4 (wr_ok ext.ok hB) rfl
      (fun b hb _ => upd_ne fun z => hb (z ▸ List.mem_cons_of_mem _ (n3.mem_iff.mpr (by simp)))) wr_al ⟨fpB.nd, fun b hb => wr_al b (fpB.al b hb), fpB.fr⟩ (fun b hb => .inl (pG.mem_iff.mp hb)) ⟨a, vs', G', rfl, (upd_ne hne).trans d2, rfl, g1⟩
    rw [List.append_nil] at stp
    rw [hp] at s'
    refine kq t _ F' [] (by rw [List.append_nil]; exact ext.stp0.trans stp) s' (by rw [List.append_nil]; exact s'.fp) ⟨rfl, t2⟩
  · cases h3
end
section
variable {S : Stc} {Γ : τ → Ctx} {s : τ} {a e : Expr} {pos : Pos}
theorem je_abs {m : Option (Int × τ)} {p : Pos} (hm : S.mg "abs" = none) (h : JE S a Γ s m fun x => sh (intS x)) (hg : GlS S "abs" := by rfl) (hs : ∀ env, starEach [a] env = [(false, eval a env)] := by intro _; rfl) : JE S (.Call (.Name "abs" p) [a] [] pos) Γ s (m.bind fun q => some (absI q.1, q.2)) fun z => sh (intS z) :=
  je_b1 (f := fun x : Int => some (absI x)) (fun X hX => call_abs) (fun W x v z ok hh e Q k => by
    cases e
    cases hh
    exact ⟨_, rfl, k.val ok rfl⟩) hm h hg (by decide +kernel) (by decide) (by decide) hs
end
/-! ### == of values of any kind -/
mutual
def toD : PV → PyData
  | .non => .none
  | .bl b => .bool b
  | .int i => .int i
  | .str z => .str z
  | .tup xs => .tuple (toDs xs)
  | .lst xs => .list (toDs xs)
def toDs : List PV → List PyData
  | [] => []
  | x :: xs => toD x :: toDs xs
end
mutual
theorem any_dp {K : PySem.W.Frag} {B H : Hp} (e : Ex B H) : ∀ (x : PV) (v : V), anyP B x v → Dp K H v (toD x)
  | .non, v, h => by unfold anyP at h; unfold toD; subst h; exact .non
  | .bl b, v, h => by unfold anyP at h; unfold toD; subst h; exact .bl b
  | .int i, v, h => by unfold anyP at h; unfold toD; subst h; exact .int i
  | .str z, v, h => by unfold anyP at h; unfold toD; subst h; exact .str z
  | .tup xs, v, h => by
    unfold anyP at h
    unfold toD
    obtain ⟨a, vs, rfl, h2, h3⟩ := h
    exact .tup (.inl (.inl (e a _ h2))) (anys_dp e xs vs h3)
  | .lst xs, v, h => by
    unfold anyP at h
    unfold toD
    obtain ⟨a, vs, rfl, h2, h3⟩ := h
    exact .lst (.inl (.inl (e a _ h2))) (anys_dp e xs vs h3)
theorem anys_dp {K : PySem.W.Frag} {B H : Hp} (e : Ex B H) : ∀ (xs : List PV) (vs : List V), anysP B xs vs → DpAll K H vs (toDs xs)
  | [], [], _ => by unfold toDs; exact .nil
  | x :: xs, v :: vs, h => by
    unfold anysP at h
    unfold toDs
    exact .cons (any_dp e x v h.1) (anys_dp e xs vs h.2)
  | [], _ :: _, h => by unfold anysP at h; exact h.elim
  | _ :: _, [], h => by unfold anysP at h; exact h.elim
end
def eqP (x y : PV) : Option Bool := if SeqAt.shaped (toD x) = true ∧ SeqAt.shaped (toD y) = true then some (PyData.eqv (toD x) (toD y)) else none
def neP (x y : PV) : Option Bool := (eqP x y).bind fun b => some (!b)
theorem oEqD {S : Stc} : ∀ X, S.In X → OpR X (compareOp .Eq) (rEqD S.K) := fun _ h => h.K ▸ op_eqD h.un
theorem oNeD {S : Stc} : ∀ X, S.In X → OpR X (compareOp .NotEq) (rNeD S.K) := fun _ h => h.K ▸ op_neD h.un
theorem ov_eqP {K : PySem.W.Frag} : OpV (rEqD K) anyS anyS eqP fun z => sh (boolS z) := fun W x y v u z ok hx hy e Q k => by
  unfold eqP at e
  split at e
  · rename_i hs
    cases e
    exact ⟨_, _, any_dp ok x v hx, any_dp ok y u hy, hs.1, hs.2, k.val ok rfl⟩
  · cases e
theorem ov_neP {K : PySem.W.Frag} : OpV (rNeD K) anyS anyS neP fun z => sh (boolS z) := fun W x y v u z ok hx hy e Q k => by
  unfold neP eqP at e
  split at e
  · rename_i hs
    cases e
    exact ⟨_, _, any_dp ok x v hx, any_dp ok y u hy, hs.1, hs.2, k.val ok rfl⟩
  · cases e
end CC
set_option maxHeartbeats 4000000
/-! What the top has left: further facts by tests of one's own. -/
namespace CC
open PySem PySem.Spec L2
open PyProof.Rows hiding St
abbrev Tst := PySem.W.Frag → Bool
def obsX (mo : List Tst) (fa : List He.Fa) (fn : List He.DefD) (K : PySem.W.Frag) : Bool × He.AlD := (mo.all fun f => f K, He.obsD fa fn K)
def SaysX (mo : List Tst) (fa : List He.Fa) (fn : List He.DefD) (K : PySem.W.Frag) : Prop := obsX mo fa fn K = (true, He.valD fn)
def obsXG (n : Nat) (mo : List Tst) (fa : List He.Fa) (fn : List He.DefD) (g : Addr → Option Obj) : Bool × He.AlD := obsX mo fa fn (He.frG g (He.asD g n))
def hookX (n : Nat) (mo : List Tst) (fa : List He.Fa) (fn : List He.DefD) : PySem.W.Hook where
  α := Bool × He.AlD
  obs := fun s => obsXG n mo fa fn s.heap.get?
  val := fun _ => (true, He.valD fn)
  says := fun _ h => ∃ K : PySem.W.Frag, K.In h ∧ SaysX mo fa fn K
  of := fun _ _ e => ⟨_, He.frG_in, e⟩
  keeps := fun _ _ _ ⟨K, hK, c⟩ k => ⟨K, PySem.W.Frag.In.keeps hK k, c⟩
theorem obsXG_eq {n : Nat} {mo : List Tst} {fa : List He.Fa} {fn : List He.DefD} {g : Addr → Option Obj} {s : Shared} (h : ∀ a, g a = s.heap.get? a) : obsXG n mo fa fn g = (hookX n mo fa fn).obs s := by
  have e : g = s.heap.get? := funext h
  rw [e] <;> rfl
theorem SaysX.d {mo : List Tst} {fa : List He.Fa} {fn : List He.DefD} {K : PySem.W.Frag} (c : SaysX mo fa fn K) : He.SaysD fa fn K := congrArg (fun z : Bool × He.AlD => z.2) c
theorem SaysX.t {mo : List Tst} {fa : List He.Fa} {fn : List He.DefD} {K : PySem.W.Frag} (c : SaysX mo fa fn K) (i : Nat) {f : Tst} (h : mo[i]? = some f := by rfl) : f K = true := by
  have c1 : (mo.all fun f => f K) = true := congrArg (fun z : Bool × He.AlD => z.1) c
  exact List.all_eq_true.mp c1 f (List.mem_of_getElem? h)
/-- isinstance of an exception of x by the class y, by a built-in type -/
def tKit (x y : Str) (b : Bool) : Tst := fun K => decide (PySem.W.kitOne K (.ref (He.ga K x)) (.ref (He.ga K y)) = some b)
def tKitT (x : Str) (T : String) (b : Bool) : Tst := fun K => decide (PySem.W.kitOne K (.ref (He.ga K x)) (.type T) = some b)
/-- an exception class whose instances may be asked -/
def tExcC (x : Str) : Tst := fun K => decide (PySem.W.findIn K (.ref (He.ga K x)) "__getattribute__" = some (some (.builtin "BaseException.__getattribute__"))) && (decide (PySem.W.findIn K (.ref (He.ga K x)) "__getattr__" = some none) && (decide (PySem.W.subIn K (.ref (He.ga K x)) (.type "BaseException") = some true) && (PySem.W.hasDictIn K (He.ga K x) &&
  (decide (PySem.W.findIn K (.ref (He.ga K x)) "__class__" = some (some (.builtin "object.__class__"))) && (decide (PySem.W.specialIn K (.builtin "object.__class__") "__get__" = some (some (.builtin "getset_descriptor.__get__"))) && (decide (PySem.W.takesIn K (.builtin "object.__class__") = some true) && decide (PySem.W.mroIn K (He.ga K x) (.type "object") = some true)))))))
theorem tExcC_ok {K : PySem.W.Frag} {x : Str} (h : tExcC x K = true) : ExcC K (He.ga K x) := by
  unfold tExcC at h
  simp only [Bool.and_eq_true, decide_eq_true_eq] at h
  obtain ⟨h1, h2, h3, h4, h5, h6, h7, h8⟩ := h
  exact ⟨h1, h2, h3, h4, h5, h6, h7, h8⟩
end CC
set_option maxHeartbeats 4000000
/-! try .. except C as e: the suite asks e. -/
namespace CC
open PySem PySem.Spec L2
open PyProof.Rows hiding St
variable {α β γ δ τ υ ω ρ ε κ : Type}
/-- isinstance(e, c), e with its dict -/
def rIsD (K : PySem.W.Frag) (D a : Addr) (d : Option Addr) : List V → Hp → VK → Prop := fun xs H Q => (∃ o, excD o H d) ∧ rIsE K D a xs H Q
theorem instD {X : Cx} {pins : List (Addr × Obj)} {σ : L2.St} {H : Hp} {s : Shared} {a D : Addr} {oe : Obj} {pn : List (Addr × Obj)} {d : Option Addr} (I : Inv (X.suite a ((a, oe) :: pn)) pins σ H s) (hz : Zc (.ref D) d oe) (hf : ∃ vs, oe.data = .fields vs) (he : ∃ o, excD o H d) : ∃ od, PySem.W.InstAt s.heap a oe D od := by
  obtain ⟨hget, _⟩ := I.pin (a, oe) (List.mem_append.mpr (.inl List.mem_cons_self))
  obtain ⟨vs, hv⟩ := hf
  obtain ⟨oc, od, oda, osl⟩ := oe
  obtain ⟨h1, h2⟩ := hz
  dsimp only at h1 h2 hv
  subst h1 h2 hv
  obtain ⟨o, he⟩ := he
  cases o with
  | none =>
    have he : od = none := he
    subst he
    exact ⟨none, hget, rfl, rfl, trivial⟩
  | some q =>
    obtain ⟨dd, w, e1, e2, _⟩ := he
    subst e1
    have hx : ObjOk X.prog X.w H s.heap dd (.xd [(q.1, w)]) := I.hok dd _ e2
    obtain ⟨mA, hns, _⟩ := hx
    obtain ⟨od, ho, _⟩ := lookIn_ns hns
    exact ⟨some od, hget, rfl, rfl, ho⟩
theorem call_isD {X : Cx} {a D : Addr} {oe : Obj} {pn : List (Addr × Obj)} {d : Option Addr} (C : ExcC X.K D) (hz : Zc (.ref D) d oe) (hf : ∃ vs, oe.data = .fields vs) : CallR (X.suite a ((a, oe) :: pn)) (.builtin "isinstance") (rIsD X.K D a d) := by
  intro pins s σ H xs us Q I r h
  obtain ⟨hd, c, cv, b, rfl, hcv, e, q⟩ := h
  cases r with
  | cons rx rr =>
    cases rr with
    | cons rt rr =>
      cases rr
      cases rx
      have ec := hcv _ rt
      subst ec
      obtain ⟨od, J⟩ := instD I hz hf hd
      obtain ⟨cd, hcl, _⟩ := PySem.W.any_some C.hd
      exact PySem.W.kia_one (PySem.W.kitx_exc (by rw [hcl]; rfl) C.hg C.hk C.hs C.ha C.hn C.ht C.hm) I.kIn J e (fun z => nomatch z) fun tk => ⟨.bl b, H, I.kept (t' := tk) fun _ _ z => z, rfl, q⟩
section
variable {S : Stc} {Γ Δ : Ctx} {pos : Pos} {st : Stmt} {rest A B : List Stmt}
/-- isinstance(e, C) -/
theorem jn_isE {x c : Str} {p p1 pc : Pos} {a C D : Addr} {b : Bool} {d : Option Addr} {o : Option (Str × SP)} (i : Nat) (hex : S.ex = some (a, C, d)) (hE : ExcC S.K C) (hk : PySem.W.kitOne S.K (.ref C) (.ref D) = some b) (hm : S.mg "isinstance" = none) (hmc : S.mg c = some (.ref D)) (hi : Γ[i]? = some (some (sh (excS a d o))) := by rfl) (hN : S.N[i]? = some x := by rfl) (hv : Vis S.sc x := by first | exact Or.inl rfl | exact Or.inr (Or.inl rfl) | exact Or.inr (Or.inr rfl)) (hg : GlS S "isinstance" := by rfl) (hgc : GlS S c := by rfl)
    (hd : (x == ("__debug__" : Str)) = false := by decide) (hcd : (x == ("__classdict__" : Str)) = false := by decide) (hdb : (c == ("__debug__" : Str)) = false := by decide)
    (hs : ∀ env, starEach [.Name x p1, .Name c pc] env = [(false, eval (.Name x p1) env), (false, eval (.Name c pc) env)] := by intro _; rfl) (hs2 : ∀ env, starEach [Expr.Name c pc] env = [(false, eval (.Name c pc) env)] := by intro _; rfl) :
    JN S (.Call (.Name "isinstance" p) [.Name x p1, .Name c pc] [] pos) Γ (some b) fun z => sh (boolS z) := fun σ W F sta z hz Q kq => by
  cases hz
  obtain ⟨v, h1, h2⟩ := sta.get hi
  obtain ⟨rfl, h2⟩ := h2
  refine ⟨tCB (rIsD S.K C a d) (tCons (tVar i) (tCons (tC (.ref D)) tNil)), fun X hX => ?_, ?_⟩
  · obtain ⟨X', oe, pn, rfl, hz, hf⟩ := hX.ex a C d hex
    have hc : CallR (X'.suite a ((a, oe) :: pn)) (.builtin "isinstance") (rIsD S.K C a d) := by
      have e : (X'.suite a ((a, oe) :: pn)).K = S.K := hX.K
      have := call_isD (X := X') (a := a) (pn := pn) (by rw [show X'.K = S.K from e]; exact hE) hz hf
      rw [show X'.K = S.K from e] at this
      exact this
    exact pe_callB hc (hg.gl hX) (mgS hm hX) (by decide +kernel) (pa_cons (pe_var (by rw [hX.N]; exact hN) (visS hv hX) hd hcd) (pa_cons (pe_glob (v := .ref D) (hgc.gl hX) (mgS hmc hX) rfl hdb) pa_nil (hs2 _)) ((hs _).trans (by rw [hs2]))) (by decide) (by decide) ((hs _).trans (by rw [hs2])) (by rw [hs2]; rfl)
  · exact ⟨.ref a, h1, ⟨o, excD_mono h2 sta.ok⟩, .ref D, .ref D, b, rfl, fun u r => r, hk, kq.val sta.ok rfl⟩
/-- isinstance(e, T), T built in -/
theorem jn_isET {x c : Str} {T : String} {p p1 pc : Pos} {a C : Addr} {b : Bool} {d : Option Addr} {o : Option (Str × SP)} (i : Nat) (hex : S.ex = some (a, C, d)) (hE : ExcC S.K C) (hk : PySem.W.kitOne S.K (.ref C) (.type T) = some b) (hm : S.mg "isinstance" = none) (hmc : S.mg c = none) (hi : Γ[i]? = some (some (sh (excS a d o))) := by rfl) (hN : S.N[i]? = some x := by rfl) (hv : Vis S.sc x := by first | exact Or.inl rfl | exact Or.inr (Or.inl rfl) | exact Or.inr (Or.inr rfl)) (hg : GlS S "isinstance" := by rfl) (hgc : GlS S c := by rfl)
    (hvc : bootBuiltins c = some (.type T) := by decide +kernel) (hn : c ≠ "__name__" := by decide)
    (hd : (x == ("__debug__" : Str)) = false := by decide) (hcd : (x == ("__classdict__" : Str)) = false := by decide) (hdb : (c == ("__debug__" : Str)) = false := by decide)
    (hs : ∀ env, starEach [.Name x p1, .Name c pc] env = [(false, eval (.Name x p1) env), (false, eval (.Name c pc) env)] := by intro _; rfl) (hs2 : ∀ env, starEach [Expr.Name c pc] env = [(false, eval (.Name c pc) env)] := by intro _; rfl) :
    JN S (.Call (.Name "isinstance" p) [.Name x p1, .Name c pc] [] pos) Γ (some b) fun z => sh (boolS z) := fun σ W F sta z hz Q kq => by
  cases hz
  obtain ⟨v, h1, h2⟩ := sta.get hi
  obtain ⟨rfl, h2⟩ := h2
  refine ⟨tCB (rIsD S.K C a d) (tCons (tVar i) (tCons (tC (.ty T)) tNil)), fun X hX => ?_, ?_⟩
  · obtain ⟨X', oe, pn, rfl, hz, hf⟩ := hX.ex a C d hex
    have hc : CallR (X'.suite a ((a, oe) :: pn)) (.builtin "isinstance") (rIsD S.K C a d) := by
      have e : (X'.suite a ((a, oe) :: pn)).K = S.K := hX.K
      have := call_isD (X := X') (a := a) (pn := pn) (by rw [show X'.K = S.K from e]; exact hE) hz hf
      rw [show X'.K = S.K from e] at this
      exact this
    exact pe_callB hc (hg.gl hX) (mgS hm hX) (by decide +kernel) (pa_cons (pe_var (by rw [hX.N]; exact hN) (visS hv hX) hd hcd) (pa_cons (pe_bltn (v := .ty T) (hgc.gl hX) (mgS hmc hX) hvc rfl hn hdb) pa_nil (hs2 _)) ((hs _).trans (by rw [hs2]))) (by decide) (by decide) ((hs _).trans (by rw [hs2])) (by rw [hs2]; rfl)
  · exact ⟨.ref a, h1, ⟨o, excD_mono h2 sta.ok⟩, .ty T, .type T, b, rfl, fun u r => r, hk, kq.val sta.ok rfl⟩
end
section
variable {S : Stc} {Γ Δ : Ctx} {pos : Pos} {st : Stmt} {rest A B : List Stmt}
/-- the context of a suite that has its exception by name -/
abbrev Stc.suiE (S : Stc) (a C : Addr) (d : Option Addr) : Stc := { S with W := fun _ _ _ _ => False, calm := false, top := false, ex := some (a, C, d) }
theorem Stc.In.suiE {X : Cx} (h : S.In X) {a C : Addr} {d : Option Addr} {oe : Obj} {pn : List (Addr × Obj)} (hz : Zc (.ref C) d oe) (hf : ∃ vs, oe.data = .fields vs) : (S.suiE a C d).In (X.suite a ((a, oe) :: pn)) :=
  ⟨h.prog, h.w, h.K, h.mg, h.base, h.N, h.sc, h.fn, rfl, nofun, h.un, PassesOwn.never, takes_none, nofun, fun a' C' d' z => by
    have z' : some (a, C, d) = some (a', C', d') := z
    cases z'
    exact ⟨X, oe, pn, rfl, hz, hf⟩⟩
/-- try .. except C as n: the suite returns -/
theorem js_tryAs {x n : Str} {c : Value} {np pos' : Pos} {b₀ : Stmt} {mb : Option (Res ε ω)} {ms : ε → Option ω} {Xp : ε → XP} {D : ω → Kd} (Γx : Ctx) (i : Nat) (Cu : ε → Addr) (Au : ε → Option (Str × SP)) (nd : S.N.Nodup) (hb : ∀ wx : WX, JB { S with W := wx } B Γ mb (TD D Γx Xp)) (hX : ∀ u, Xp u = excX (Cu u) (Au u)) (hs : ∀ u a d, JB (S.suiE a (Cu u) d) (b₀ :: A) (Γx.set i (some (sh (excS a d (Au u))))) (ms u) D) (hm : S.mg x = some c) (hx : ∀ u, PySem.W.exmOne S.K (.ref (Cu u)) c = some true)
    (hrt : ∀ o, ∃ Γ' R, D o = .rt Γ' R) (hi : (Γx[i]?).isSome = true := by rfl) (hp : (S.prot.contains i) = false := by rfl) (hN : S.N[i]? = some n := by rfl) (hln : S.sc.names.lookup n = some .local := by rfl) (hg : GlS S x := by rfl) (hdb : (x == ("__debug__" : Str)) = false := by decide) (htop : S.top = true := by rfl) (hex : S.ex = none := by rfl) : JS S (.Try B [.ExceptHandler (some (.Name x np)) (some n) (b₀ :: A) pos'] [] [] pos) Γ (tryM mb ms) D := fun σ W F sta z hz E k => by
  obtain ⟨r, h1, h2⟩ := run1 hz
  refine ⟨fun D σ H => tbOf { S with W := wAs S.K c i (fun a cls d D σ H => ∃ C, cls = .ref C ∧ tbOf (S.suiE a C d) (b₀ :: A) D σ H) S.W D } B D σ H, fun X hX' => ?_, ?_⟩
  · obtain ⟨t1, t2⟩ := hX'.top htop
    have := ps_try_as (pos := pos) (pos' := pos') (np := np) (i := i) (n := n) t1 t2 (by rw [hX'.N]; exact nd) (by rw [hX'.N]; exact hN) (show X.env.scope.names.lookup n = some .local by rw [hX'.sc]; exact hln) (c := c) (x := x) (b₀ := b₀) (suite := A) (body := B) (ts := fun a cls d D σ H => ∃ C, cls = .ref C ∧ tbOf (S.suiE a C d) (b₀ :: A) D σ H) (tb := fun W => tbOf { S with W := W } B) ⟨hg.gl hX', hdb, .inl (mgS hm hX')⟩ hX'.tk (fun W pn xe tk pass => pbO (hX'.tr hex tk pass)) (fun a oe cls d pn zc hf => ⟨fun pins s σ H D I ⟨C, e1, q⟩ => by
        subst e1
        exact (pbO (hX'.suiE zc hf)).run pins s σ H D I q⟩)
    rw [hX'.K] at this
    exact this
  · refine hb _ σ W F sta r h1 E ?_
    cases r with
    | ok o =>
      cases h2
      show Post _ S.prot σ W F E (D z)
      obtain ⟨Γ', R, hq⟩ := hrt z
      rw [hq] at k ⊢
      exact k
    | er u =>
      intro c' d σ' W' F' kp stp sa hpx
      rw [hX] at hpx
      obtain ⟨rfl, hpd⟩ := hpx
      refine ⟨true, hx u, fun _ a ha => ⟨Cu u, rfl, ?_⟩, fun q => nomatch q⟩
      have hlt : i < Γx.length := by
        cases h : Γx[i]? with
        | none => rw [h] at hi; cases hi
        | some o => exact (List.getElem?_eq_some_iff.mp h).1
      obtain ⟨F3, s4, sub⟩ := sa.put (o := sh (excS a d (Au u))) (v := .ref a) (F1 := []) hlt ⟨rfl, rfl, hpd⟩ (by rw [List.append_nil]; exact sa.fp)
      refine hs u a d _ W' F3 s4 z h2 _ ?_
      have k' := k.before (σ1 := σ'.set i (some (.ref a))) (kp.trans (Keep.set (ncon hp))) (stp.perm fun b hb => by simpa using sub b hb)
      obtain ⟨Γ', R, hq⟩ := hrt z
      rw [hq] at k' ⊢
      exact k'
end
/-! ### f(k = v, ..), f may raise -/
section
variable {X : Cx} {CX : CXT} {k n : Nat} {f : Addr} {fd : FuncData} {ps ks : List Str} {sp : Sp} {E : L2.St → XK} {x : Str} {p pos : Pos} {kws : List Keyword} {t tk : TA} {g : List Value → List Value → List Value} {gV : List V → List V → List V}
theorem run_fnNS {pins : List (Addr × Obj)} {σ : L2.St} {H : Hp} {s : Shared} {Q : VK} {us ws : List Value} {vs zs : List V} (F : FnOk X.prog X.w X.K X.mg X.base CX k f fd ps sp) (hr : Room k X.A) (hb : KBn X.K fd ps n ks g gV) (hx : PassesAt CX X σ (E σ))
    (I : Inv X pins σ H s) (r : Vals vs us) (rz : Vals zs ws) (l1 : vs.length = n) (l2 : zs.length = ks.length) (h : sp (gV vs zs) H Q (E σ)) : wpAny (model X.prog X.w) X.A (call (.ref f) us (ks.zip ws)) (EP X pins σ Q) X.xe s := by
  have r2 := hb.rel r rz
  refine wpAny_call (codeAny_mono (F.run X.A X.stack s H ⟨us, ks.zip ws⟩ (g us ws) (gV vs zs) Q (E σ) hr I.env0 (hb.to s us ws I.kIn (r.length.symm.trans l1) (rz.length.symm.trans l2)) r2 h) fun r s' hq => ?_)
  cases r with
  | error e => exact hx pins H s e s' I hq
  | ok fl =>
    cases fl with
    | ret u => exact I.after hq
    | next => exact False.elim hq
    | brk => exact False.elim hq
    | cont => exact False.elim hq
def tCall0S (m : Nat) (sp : Sp) (gV : List V → List V → List V) (E : L2.St → XK) (tk : TA) : TE := fun σ H Q => tk σ H fun zs H2 => zs.length = m ∧ sp (gV [] zs) H2 Q (E σ)
theorem pe_call0S (F : FnOk X.prog X.w X.K X.mg X.base CX k f fd ps sp) (hr : Room k X.A) (hg : Gl X x) (hm : X.mg x = some (.ref f)) (hk : PySem.W.keepIn X.K (.ref f) = true) (hb : KBn X.K fd ps 0 ks g gV) (hx : ∀ σ, PassesAt CX X σ (E σ)) (hkw : PK X kws tk)
    (hall : (backToKw pos (keywordEach kws X.env)).all (·.1.isSome) = true) (hks : (backToKw pos (keywordEach kws X.env)).filterMap (·.1) = ks) (hdb : (x == ("__debug__" : Str)) = false)
    (hpl : ((backTo pos (starEach [] X.env)).any (·.1) || (backToKw pos (keywordEach kws X.env)).any (·.1.isNone)) = false) : PE X (.Call (.Name x p) [] kws pos) (tCall0S ks.length sp gV E tk) := by
  refine ⟨fun pins s σ H Q I h => ?_⟩
  refine wpAny_Call_Name_kw (ld_glob I hg hm ?_ hdb)
  refine PySem.W.callWith_KW0 (h₀ := X.base) I.ok.mod.kin hk hall ?_ hpl
  refine thn (hkw.run pos pins s σ H _ I h) fun ws s2 ⟨zs, H2, I2, rz, l2, q2⟩ => ⟨I2.kIn, ?_⟩
  rw [hks]
  exact run_fnNS (us := []) (vs := []) F hr hb (hx σ) I2 .nil rz rfl l2 q2
end
section
variable {S : Stc} {Γ Δ : Ctx} {pos : Pos}
theorem jx_call0N {x : Str} {p : Pos} {f : Addr} {fd : FuncData} {ps ks : List Str} {k : Nat} {G : γ → List SP} {Gk : β → List SP} {fM : γ → Option (Res ε ρ)} {R : ρ → OP} {Xp : ε → XP} {mk : Option β} {kws : List Keyword} {gv : List Value → List Value → List Value} {gV : List V → List V → List V} (g : β → γ) (Fn : FnOk S.P S.w S.K S.mg S.base (L2.CX S.P S.w) k f fd ps (spX G fM R Xp)) (hm : S.mg x = some (.ref f)) (kp : PySem.W.keepIn S.K (.ref f) = true) (hb : KBn S.K fd ps 0 ks gv gV)
    (hG : ∀ z B zs, Hets B zs (Gk z) → Hets B (gV [] zs) (G (g z))) (hlk : ∀ z, (Gk z).length = ks.length) (hk : k ≤ S.k) (hkw : JK S kws Γ mk Gk) (hg : GlS S x := by rfl) (hdb : (x == ("__debug__" : Str)) = false := by decide)
    (hall : ∀ env, (backToKw pos (keywordEach kws env)).all (·.1.isSome) = true := by intro _; rfl) (hks : ∀ env, (backToKw pos (keywordEach kws env)).filterMap (·.1) = ks := by intro _; rfl)
    (hpl : ∀ env, ((backTo pos (starEach [] env)).any (·.1) || (backToKw pos (keywordEach kws env)).any (·.1.isNone)) = false := by intro _; rfl) (hcm : S.calm = true := by rfl) : JNX S (.Call (.Name x p) [] kws pos) Γ (mk.bind fun z => fM (g z)) R Xp := fun σ W F st z hz Q kk => by
  obtain ⟨w, h2, h3⟩ := run1 hz
  refine ⟨tCall0S ks.length (spX G fM R Xp) gV (WE S.W) (tkOf S kws), fun X hX => pe_call0S (fnokS Fn hX) ((hX.room hcm).mono hk) (hg.gl hX) (mgS hm hX) (by rw [hX.K]; exact kp) (kbnS hX hb) (fun σ => by rw [← hX.prog, ← hX.w]; exact passAt hX.tk σ) (pkO hX) (hall _) (hks _) hdb (hpl _), ?_⟩
  refine hkw σ W F st w h2 _ fun zs W2 e2 hz => ⟨hz.len.trans (hlk w), ?_⟩
  refine ⟨g w, W2, z, rfl, e2.ok, hG w _ zs hz, h3, ?_⟩
  cases z with
  | ok v => exact Got.ext kk e2
  | er u => exact fun c d W3 e3 hp => kk c d W3 (e2.trans e3) hp
end
end CC
set_option maxHeartbeats 4000000
/-! Exceptions, as printed: outcomes told by TD; isinstance of a handled exception by several classes. -/
namespace CC
open PySem PySem.Spec L2
open PyProof.Rows hiding St
variable {α β γ δ τ υ ω ρ ε κ : Type}
theorem rx_td {Δ Δx : Ctx} {R : α → OP} {Xp : ε → XP} : RX Δ Δx R Xp = TD (fun a => .rt Δ (R a)) Δx Xp := funext fun r => by cases r <;> rfl
theorem td_nonx {D : ω → Kd} {Γx : Ctx} {Xp : ε → XP} (h : ∀ x, NoNx (D x)) : ∀ r, NoNx (TD D Γx Xp r)
  | .ok x => h x
  | .er _ => trivial
theorem td_ends {D : ω → Kd} {Γx : Ctx} {Xp : ε → XP} (h : ∀ x, NoNx (D x) ∧ (∀ Δ, D x ≠ .bk Δ) ∧ ∀ Δ, D x ≠ .ct Δ) : ∀ r, NoNx (TD D Γx Xp r) ∧ (∀ Δ, TD D Γx Xp r ≠ .bk Δ) ∧ ∀ Δ, TD D Γx Xp r ≠ .ct Δ
  | .ok x => h x
  | .er _ => ⟨trivial, nofun, nofun⟩
section
variable {S : Stc} {Γ Δ Δx : Ctx} {a b c e : Expr} {es : List Expr} {pos : Pos} {st : Stmt} {rest A B : List Stmt}
/-- an if whose way is not claimed -/
theorem jb_ifN {mc : Option Bool} {mr : Option ω} {D : ω → Kd} (hc : JT S c Γ mc) (hr : JB S rest Γ mr D) : JB S (.If c A [] pos :: rest) Γ (mc.bind fun b => bif b then none else mr) D := fun σ W F sta z hz E k => by
  obtain ⟨x, h1, h2⟩ := run1 hz
  cases x with
  | true => cases h2
  | false =>
    refine ⟨tSeq (tIfS (ttOf S c) tNever tNext) (tbOf S rest), fun X hX => pss_cons (ps_if (ptO hX) pss_never pss_nil) (pbO hX), ?_⟩
    refine hc σ W F sta false h1 _ fun W' ext => ?_
    have stp : Stp W F W' F := by have := ext.stp (F := F) (Fv := []) (by simp); rwa [List.append_nil] at this
    exact iteF (hr σ W' F (sta.ext ext) z h2 E (k.before Keep.refl stp))
/-- nothing is claimed -/
theorem jb_none {sts : List Stmt} {D : ω → Kd} : JB S sts Γ (none : Option ω) D := fun _ _ _ _ _ h => nomatch h
theorem jb_retT {m : Option (Res ε α)} {R : α → OP} {Xp : ε → XP} (w : Weak Γ Δ) (wx : Weak Γ Δx) (h : JNX S e Γ m R Xp) : JB S (.Return (some e) pos :: rest) Γ m (TD (fun y => .rt Δ (R y)) Δx Xp) := rx_td ▸ jb_retX w wx h
theorem jx_any {E : α → SP} {f : α → PV} {m : Option (Res ε α)} {Xp : ε → XP} (ao : AnyOf E f) (h : JNX S e Γ m (fun x => sh (E x)) Xp) : JNX S e Γ (m.bind fun r => some (mapX f r)) (fun y => sh (anyS y)) Xp := fun σ W F st z hz Q k => by
  obtain ⟨r, h1, h2⟩ := run1 hz
  cases h2
  refine h σ W F st r h1 Q ?_
  cases r with
  | ok x => exact fun v W' Fv e fr fp rr => k v W' Fv e fr fp ⟨rr.1, ao.go W'.B x v rr.2⟩
  | er u => exact k
/-- a pure outcome among those that may raise -/
theorem jb_okT {sts : List Stmt} {m : Option ω} {D : ω → Kd} {Γx : Ctx} {Xp : ε → XP} (h : JB S sts Γ m D) : JB S sts Γ (m.bind fun x => some (Res.ok x)) (TD D Γx Xp) := JB.map h fun _ => rfl
end
theorem fnd_pureT {P : Program} {w : World} {K : PySem.W.Frag} {mg : Str → Option Value} {base : Heap} {x qual : Str} {st : Stmt} {f : Addr} {fd : FuncData} {dvs : List V} {kwd : List (Str × V)} {N ps : List Str} {k : Nat} {G : α → List SP} {fM : α → Option (Res ε ρ)} {R : ρ → OP} {Xp : ε → XP} {Δ : Ctx} (F : FunD K x qual (defArgs st) (defBody st) (defScope st) dvs kwd f fd) (Sc : FnScope N ps (defScope st)) (hG : ∀ a, (G a).length = ps.length) (hn : ps.length ≤ N.length)
    (body : ∀ a (wx : WX), JB { stcOf P w K mg base N (defScope st) k [] with W := wx } (defBody st) (shC (G a) ++ nonC (N.length - ps.length)) (fM a) (TD (fun y => .rt Δ (R y)) Δ Xp)) : FnOk P w K mg base (L2.CX P w) (k + 1) f fd ps (spX G fM R Xp) :=
  fnd_pureX (Δ := Δ) F Sc hG hn fun a wx => rx_td ▸ body a wx
/-! ### isinstance(e, (C, D)) in a suite -/
def tConsts : List V → TA
  | [] => tNil
  | c :: cs => tCons (tC c) (tConsts cs)
def JCl (S : Stc) (es : List Expr) (cs : List V) (us : List Value) : Prop := (∀ X, S.In X → PA X es (tConsts cs)) ∧ Paired ClsV cs us
theorem jcl_nil {S : Stc} : JCl S [] [] [] := ⟨fun _ _ => pa_nil, .nil⟩
theorem jcl_cons {S : Stc} {c : Str} {pc : Pos} {es : List Expr} {cs : List V} {us : List Value} {D : Addr} (hm : S.mg c = some (.ref D)) (h : JCl S es cs us) (hg : GlS S c := by rfl) (hdb : (c == ("__debug__" : Str)) = false := by decide) (hs : ∀ env, starEach (.Name c pc :: es) env = (false, eval (.Name c pc) env) :: starEach es env := by intro _; rfl) : JCl S (.Name c pc :: es) (.ref D :: cs) (.ref D :: us) :=
  ⟨fun X hX => pa_cons (pe_glob (v := .ref D) (hg.gl hX) (mgS hm hX) rfl hdb) (h.1 X hX) (hs _), .cons (.own D) h.2⟩
/-- isinstance(e, (c, d)), e the exception that the suite holds -/
def rIsET (K : PySem.W.Frag) (D a : Addr) (d : Option Addr) : List V → Hp → VK → Prop := fun xs H Q => (∃ o, excD o H d) ∧ ∃ (tp : Addr) (cs : List V) (us : List Value) (b : Bool), xs = [.ref a, .ref tp] ∧ H tp = some (.tup cs) ∧ Paired ClsV cs us ∧ PySem.W.kitAny K (.ref D) us = some b ∧ Q (.bl b) H
theorem call_isET {X : Cx} {a D : Addr} {oe : Obj} {pn : List (Addr × Obj)} {d : Option Addr} (C : ExcC X.K D) (hz : Zc (.ref D) d oe) (hf : ∃ vs, oe.data = .fields vs) : CallR (X.suite a ((a, oe) :: pn)) (.builtin "isinstance") (rIsET X.K D a d) := by
  intro pins s σ H xs us Q I r h
  obtain ⟨hd, tp, cs, ws, b, rfl, hT, k, e, q⟩ := h
  obtain ⟨u1, u2, rfl, r1, r2⟩ := vals2 r
  cases (show u1 = Value.ref a from r1)
  cases (show u2 = Value.ref tp from r2)
  obtain ⟨od', J⟩ := instD I hz hf hd
  obtain ⟨_, its, rv, o, h1, h2, n, h3⟩ := (show ObjOk X.prog X.w H s.heap tp (.tup cs) from I.hok tp _ hT)
  have e3 := ClsV.all k rv
  subst e3
  obtain ⟨oc, od, dt, sl⟩ := o
  simp only at h2 h3
  subst h2 h3
  obtain ⟨cd, hcl, _⟩ := PySem.W.any_some C.hd
  exact PySem.W.kia_tup (PySem.W.kitx_exc (by rw [hcl]; rfl) C.hg C.hk C.hs C.ha C.hn C.ht C.hm) I.kIn J h1 e (fun z => nomatch z) fun tk => ⟨.bl b, H, I.kept (t' := tk) fun _ _ z => z, rfl, q⟩
section
variable {S : Stc} {Γ Δ : Ctx} {pos : Pos}
theorem jn_isETup {x : Str} {es : List Expr} {kt : Nat} {p p1 pt : Pos} {a C : Addr} {b : Bool} {cs : List V} {us : List Value} {d : Option Addr} {o : Option (Str × SP)} (i : Nat) (hex : S.ex = some (a, C, d)) (hE : ExcC S.K C) (hk : PySem.W.kitAny S.K (.ref C) us = some b) (hcl : JCl S es cs us) (hm : S.mg "isinstance" = none) (hi : Γ[i]? = some (some (sh (excS a d o))) := by rfl) (hl : cs.length ≤ 1000 := by exact Nat.le_of_ble_eq_true rfl) (hN : S.N[i]? = some x := by rfl) (hv : Vis S.sc x := by first | exact Or.inl rfl | exact Or.inr (Or.inl rfl) | exact Or.inr (Or.inr rfl)) (hg : GlS S "isinstance" := by rfl)
    (hd : (x == ("__debug__" : Str)) = false := by decide) (hcd : (x == ("__classdict__" : Str)) = false := by decide)
    (hs : ∀ env, starEach [.Name x p1, .Tuple es kt pt] env = [(false, eval (.Name x p1) env), (false, eval (.Tuple es kt pt) env)] := by intro _; rfl) (hs2 : ∀ env, starEach [Expr.Tuple es kt pt] env = [(false, eval (.Tuple es kt pt) env)] := by intro _; rfl) :
    JN S (.Call (.Name "isinstance" p) [.Name x p1, .Tuple es kt pt] [] pos) Γ (some b) fun z => sh (boolS z) := fun σ W F sta z hz Q kq => by
  cases hz
  obtain ⟨v, h1, h2⟩ := sta.get hi
  obtain ⟨rfl, h2⟩ := h2
  refine ⟨tCB (rIsET S.K C a d) (tCons (tVar i) (tCons (tTup (tConsts cs)) tNil)), fun X hX => ?_, ?_⟩
  · obtain ⟨X', oe, pn, rfl, hz, hf⟩ := hX.ex a C d hex
    have hc : CallR (X'.suite a ((a, oe) :: pn)) (.builtin "isinstance") (rIsET S.K C a d) := by
      have e : (X'.suite a ((a, oe) :: pn)).K = S.K := hX.K
      have := call_isET (X := X') (a := a) (pn := pn) (by rw [show X'.K = S.K from e]; exact hE) hz hf
      rw [show X'.K = S.K from e] at this
      exact this
    exact pe_callB hc (hg.gl hX) (mgS hm hX) (by decide +kernel) (pa_cons (pe_var (by rw [hX.N]; exact hN) (visS hv hX) hd hcd) (pa_cons (pe_tup (hcl.1 _ hX)) pa_nil (hs2 _)) ((hs _).trans (by rw [hs2]))) (by decide) (by decide) ((hs _).trans (by rw [hs2])) (by rw [hs2]; rfl)
  · refine ⟨.ref a, h1, ?_⟩
    have go : ∀ (cs : List V) (H : Hp) (Q : List V → Hp → Prop), Q cs H → tConsts cs σ H Q := by
      intro cs
      induction cs with
      | nil => intro H Q q; exact q
      | cons c cs ih => intro H Q q; exact ih H _ q
    refine go cs W.H _ ⟨Nat.le_trans hl (by decide), fun q hq => ?_⟩
    have e2 := Ext.newB sta.ok (o := .tup cs) hq
    refine ⟨⟨o, excD_mono h2 (sta.ok.trans e2.h)⟩, q, cs, us, b, rfl, upd_same, hcl.2, hk, ?_⟩
    exact (kq.ext (W1 := ⟨upd W.H q (.tup cs), upd W.B q (.tup cs)⟩) e2).val e2.ok rfl
end
end CC
set_option maxHeartbeats 4000000
/-! enumerate over a tuple. -/
namespace CC
open PySem PySem.Spec L2
open PyProof.Rows hiding St
open PySem (Draws Begins begins_tuple)
open AutoSeq1 (wpAny_loadPart')
theorem meets_enumT {v : Value} {o : Obj} {H : Heap → Prop} (B : Begins v o H) :
    Meets (Builtin.«enumerate.__new__» ⟨[.type "enumerate", v], []⟩) (fun _ R s => H s.heap ∧
      R (.ok (.ret (.ref (s.heap.push o).objs.size))) { s with heap := (s.heap.push o).push { cls := .type "enumerate", data := .fields #[.none, .bool false, .ref s.heap.objs.size, rawInt 0, .none, .none] } }) :=
  .of_wp fun prog w A R s h => by
    obtain ⟨hp, g, d, tk, os⟩ := s; obtain ⟨h1, h⟩ := h
    have hsub := sub_enumerate
    have q1 : ∀ {A' : Around} {E : Value → Shared → Prop} {Q : Value → Shared → Prop}, Q (.ref hp.objs.size) ⟨hp.push o, g, d, tk, os⟩ → wpAny (model prog w) A' (pyIter v) Q E ⟨hp, g, d, tk, os⟩ :=
      fun q => B.iter prog w _ _ ⟨hp, g, d, tk, os⟩ _ h1 q
    wp_walk using q1
    refine wpAny_stack_any fun st => wpAny_pure ?_
    split
    · rename_i c _ _ _ _ _
      cases (c == Value.type "enumerate")
      · wp_walk using q1
        exact ⟨_, rfl, h⟩
      · wp_walk using q1
        exact ⟨_, rfl, h⟩
    · wp_walk using q1
      exact ⟨_, rfl, h⟩
theorem call_enumT {prog : Program} {w : World} {A : Around} {E : Value → Shared → Prop} {s : Shared} {v : Value} {o : Obj} {H : Heap → Prop} {Q : Value → Shared → Prop} (B : Begins v o H) (h1 : H s.heap)
    (h : ∀ h', IsEnum h' (s.heap.objs.size + 1) s.heap.objs.size 0 .none → h'.get? s.heap.objs.size = some o → h'.objs.size = s.heap.objs.size + 2 →
      (∀ b o, s.heap.get? b = some o → h'.get? b = some o) → Q (.ref (s.heap.objs.size + 1)) { s with heap := h' }) :
    wpAny (model prog w) A (call (.type "enumerate") [v]) Q E s := by
  refine callType_new F.called_enumerate (by decide) (F.typeCall_enumerate_1 _) (F.newCall_enumerate_1 _) (fun obj => F.args_object_init_2 obj _) F.entry_enumerate_new
    (meets_enumT B) ⟨h1, ?_⟩
  have hz : (s.heap.push o).objs.size = s.heap.objs.size + 1 := Heap.size_push ..
  show _ ∧ _
  rw [hz]
  have he : IsEnum ((s.heap.push o).push { cls := .type "enumerate", data := .fields #[.none, .bool false, .ref s.heap.objs.size, rawInt 0, .none, .none] }) (s.heap.objs.size + 1) s.heap.objs.size 0 .none := by
    have := Heap.get?_push_size (s.heap.push o) (o := { cls := .type "enumerate", data := .fields #[.none, .bool false, .ref s.heap.objs.size, rawInt 0, .none, .none] }) rfl
    rw [hz] at this; exact this
  refine ⟨⟨_, he, rfl⟩, h _ he (Heap.get?_push_of_some _ (Heap.get?_push_size _ B.free)) (by rw [Heap.size_push, hz]) fun b o x => Heap.get?_push_of_some _ (Heap.get?_push_of_some _ x)⟩
theorem wpAny_pyNext_enum_endT {prog : Program} {w : World} {A : Around} {E : Value → Shared → Prop} {s : Shared} {e it t : Addr} {i : Nat} {items : Array Value} {old : Value} {Q : Option Value → Shared → Prop} (hh : A.handled = none)
    (he : IsEnum s.heap e it i old) (hit : s.heap.IsTupleIter it t i) (ht : s.heap.IsTuple t items) (hx : items[i]? = none)
    (hQ : ∀ h', Heap.ExtBut it s.heap h' → Q none { s with heap := h' }) : wpAny (model prog w) A (pyNext (.ref e)) Q E s := by
  have hT : s.TypeIs (.ref e) "enumerate" := ⟨_, he, rfl⟩
  unfold pyNext
  refine wpAny_bind (wpAny_attempt (wpAny_callSpecial?_slot (name := Str.ofString "__next__") hT F.slot_enumerate_next
    (wpAny_call_entry F.slot_enumerate_next hT F.entry_enumerate_next ?_ (F.args_enumerate_next_1 _))))
  show wpAny _ _ (field (.ref e) 2 >>= _) _ _ _
  refine wpAny_bind (wpAny_field he rfl (x := .ref it) rfl ?_)
  refine wpAny_bind (wpAny_nextOf_tuple_end hh hit ht hx fun h' x he' hx' => ?_)
  obtain ⟨o, ho, hc⟩ := hx'
  refine wpAny_bind (wpAny_isInstance (T := "StopIteration") (b := true) ⟨o, ho, hc⟩ isSubtype_stop ?_)
  exact wpAny_pure (hQ _ he')
/-- the tuple at a, each item in a new pair -/
def IteT (K : PySem.W.Frag) (a : Addr) : It :=
  ⟨fun i H => ∃ (xs : List V) (x : V), SqT K H a xs ∧ xs[i]? = some x, fun i H v H' => ∃ T x, v = .ref T ∧ H T = none ∧ H' = upd H T (.tup [.int (i : Nat), x]) ∧ ∀ xs, SqT K H a xs → xs[i]? = some x, fun i H => ∃ xs : List V, SqT K H a xs ∧ xs.length ≤ i⟩
theorem turn_enumT {P : Program} {w : World} {K : PySem.W.Frag} {elts : List Expr} {kk : Nat} {tpos : Pos} (a e it : Addr) (its : Array Value) :
    Turn P w K (.Tuple elts kk tpos) (IteT K a) [e, it] e (fun i h => (∃ old, IsEnum h e it ((i : Nat) : Int) old) ∧ h.IsTupleIter it a i ∧ e ≠ it) where
  mem := by simp
  obj := fun i h st b hb => by
    obtain ⟨⟨old, he⟩, ⟨o, ho, hc, hd⟩, _⟩ := st
    have e' : b = e ∨ b = it := by simpa using hb
    rcases e' with z | z
    · rw [z]; exact ⟨_, he, fun v q => nomatch q⟩
    · rw [z]; exact ⟨o, ho, fun v q => by rw [hd] at q; cases q⟩
  keep := fun i h h' st k => by
    obtain ⟨⟨old, he⟩, ⟨o, ho, r⟩, hne⟩ := st
    exact ⟨⟨old, k e (by simp) _ he⟩, ⟨o, k it (by simp) o ho, r⟩, hne⟩
  item := by
    intro X hP hw hK hc i pins s σ H E I hf st hg
    subst hP hw hK
    obtain ⟨⟨old, he⟩, hit, hne⟩ := st
    obtain ⟨xs, x, hq, hx⟩ := hg
    obtain ⟨its, rv, p, hz⟩ := I.tuple hq
    obtain ⟨u, hu, ru⟩ := rv.get hx
    have hel : e < s.heap.objs.size := Heap.lt_size he
    have hil : it < s.heap.objs.size := by obtain ⟨_, q, _⟩ := hit; exact Heap.lt_size q
    have pT : s.heap.IsTuple a its.toArray := p
    obtain ⟨oa, hoa, hca, na, hda⟩ := id pT
    have hai : a ≠ it := fun z => by
      obtain ⟨o, ho, hc, _⟩ := hit
      rw [← z, hoa] at ho
      cases ho
      rw [hca] at hc
      exact absurd hc (by decide)
    have hea : e ≠ a := fun z => by
      have he' : s.heap.get? e = _ := he
      rw [z, hoa] at he'
      cases he'
      exact absurd (show Value.type "enumerate" = Value.type "tuple" from hca) (by decide)
    refine wpAny_pyNext_enum_itemD (D := Draws.tuple (A := X.A.in1) (I.ok.hd hc) it a hai its.toArray) he ⟨hit, pT⟩ (by have := (List.getElem?_eq_some_iff.mp hu).1; simpa using this) hne (by simp [hne, hea]) fun y h' tk hy ho hst hT hsz hk => ?_
    have ey : y = u := by
      have h1 : its.toArray[i]? = some y := hy
      simp only [List.getElem?_toArray] at h1
      rw [hu] at h1
      exact (Option.some.inj h1).symm
    subst ey
    obtain ⟨hit', _⟩ := hst
    refine ⟨_, rfl, wpAny_letOwnedTupleGo_enum (s := { s with heap := h', toks := tk + 1 }) ho fun h'' he' sb => ?_⟩
    have hT2 : h''.get? s.heap.objs.size = some { cls := .type "tuple", data := .seq #[.int i tk, y] } := (sb.2 _ (Nat.ne_of_gt hel)).trans hT
    have new : ObjOk X.prog X.w (upd H s.heap.objs.size (.tup [.int (i : Nat), x])) h'' s.heap.objs.size (.tup [.int (i : Nat), x]) :=
      ⟨by show 2 ≤ sizeLine; decide, [.int i tk, y], .cons ⟨_, rfl⟩ (.cons ru .nil), ⟨_, hT2, rfl, _, rfl⟩⟩
    have I1 : Inv X pins σ (upd H s.heap.objs.size (.tup [.int (i : Nat), x])) { s with heap := h'', toks := tk + 1 } :=
      I.turnedNew (ch := [e, it]) (fun b ob hb q => (sb.2 b (fun z => hb (by simp [z]))).trans (hk b ob (fun z => hb (by simp [z])) (fun z => hb (by simp [z])) q)) hf (Nat.le_refl _) new
    refine ⟨.ref s.heap.objs.size, _, I1, rfl, ⟨_, x, rfl, I.hok.fresh (Nat.le_refl _), rfl, fun ys hy => by rw [I.tuple_inj hy hq]; exact hx⟩, ⟨⟨y, ?_⟩, ?_, hne⟩, fun b hb => ?_⟩
    · have e1 : ((i + 1 : Nat) : Int) = (i : Int) + 1 := by omega
      rw [e1]; exact he'
    · obtain ⟨o, q, r⟩ := hit'
      exact ⟨o, (sb.2 it (Ne.symm hne)).trans q, r⟩
    · have hb' : b < s.heap.objs.size := by
        have e' : b = e ∨ b = it := by simpa using hb
        rcases e' with z | z
        · rw [z]; exact hel
        · rw [z]; exact hil
      rw [upd_ne (Nat.ne_of_lt hb')]
      exact (hf b hb).1
  done := by
    intro X hP hw hK hc i pins s σ H E I hf st hg
    subst hP hw hK
    obtain ⟨⟨old, he⟩, hit, hne⟩ := st
    obtain ⟨xs, hq, hx⟩ := hg
    obtain ⟨its, rv, p, hz⟩ := I.tuple hq
    obtain ⟨f0, f1, f2, f3, f4, f5⟩ := hf it (by simp)
    have hl := rv.length
    have pT : s.heap.IsTuple a its.toArray := p
    obtain ⟨oa, hoa, hca, na, hda⟩ := id pT
    have hai : a ≠ it := fun z => by
      obtain ⟨o, ho, hc, _⟩ := hit
      rw [← z, hoa] at ho
      cases ho
      rw [hca] at hc
      exact absurd hc (by decide)
    exact wpAny_pyNext_enum_endT (I.ok.hd hc) he hit pT (by simp; omega) fun h' eb => ⟨rfl, I.turned (t' := s.toks) (fun b o hb q => eb b o hb q) f0 f1 f3 f4 f5⟩
  self := fun A i s Q E st h => let ⟨⟨_, he⟩, _⟩ := st; wpAny_pyIter_enum he h
def iEnumT (K : PySem.W.Frag) (ta : TA) : TI := fun σ H R => ta σ H fun vs H1 => ∃ a xs, vs = [.ref a] ∧ SqT K H1 a xs ∧ R (IteT K a) H1
theorem pi_enumT {X : Cx} {e : Expr} {ta : TA} {p pos tpos : Pos} {elts : List Expr} {kk : Nat} (hg : Gl X "enumerate") (hm : X.mg "enumerate" = none) (ha : PA X [e] ta) (hs : starEach [e] X.env = [(false, eval e X.env)] := by rfl) :
    PI X (.Tuple elts kk tpos) (.Call (.Name "enumerate" p) [e] [] pos) (iEnumT X.K ta) := by
  refine ⟨fun pins s σ H R I h => ?_⟩
  refine Call_ (ld_blt I hg hm boot_enumerate (PyProof.Rows.callWith_type1 (thn (ha.run pos pins s σ H _ I h) fun us s1 ⟨vs, H1, I1, r1, q1⟩ => ?_) hs rfl))
  obtain ⟨a, xs, ex, hq, q⟩ := q1
  subst ex
  cases r1 with
  | cons r rr =>
    cases rr
    cases r
    obtain ⟨its, rv, p', hz⟩ := I1.tuple hq
    have pT : s1.heap.IsTuple a its.toArray := p'
    refine call_enumT (begins_tuple a its.toArray) pT fun h' he hit hsz hk => wpAny_pyIter_enum he ?_
    have I2 : Inv X pins σ H1 { s1 with heap := h' } := I1.kept (t' := s1.toks) hk
    refine ⟨s1.heap.objs.size + 1, [s1.heap.objs.size + 1, s1.heap.objs.size], _, _, H1, rfl, I2, turn_enumT a (s1.heap.objs.size + 1) s1.heap.objs.size #[], ⟨⟨.none, he⟩, ⟨_, hit, rfl, rfl⟩, Nat.succ_ne_self _⟩, fun b hb => ?_, q⟩
    have e' : b = s1.heap.objs.size + 1 ∨ b = s1.heap.objs.size := by simpa using hb
    have hle : s1.heap.objs.size ≤ b := by
      rcases e' with z | z
      · rw [z]; exact Nat.le_add_right _ _
      · rw [z]; exact Nat.le_refl _
    exact I1.fpOk hle (I1.hok.fresh hle)
/-! ### .. in the judgements -/
variable {α β γ δ τ υ ω ρ ε : Type}
def enumL : Nat → List α → List (Int × α)
  | _, [] => []
  | k, x :: xs => ((k : Int), x) :: enumL (k + 1) xs
theorem enumL_get : ∀ {xs : List α} {k i : Nat}, (enumL k xs)[i]? = xs[i]?.map fun x => (((k + i : Nat) : Int), x)
  | [], k, i => by simp [enumL]
  | x :: xs, k, 0 => by simp [enumL]
  | x :: xs, k, i + 1 => by
    have := enumL_get (xs := xs) (k := k + 1) (i := i)
    simp only [enumL, List.getElem?_cons_succ, this]
    rw [show k + 1 + i = k + (i + 1) by omega]
theorem enumL_len {xs : List α} {k : Nat} : (enumL k xs).length = xs.length := by
  induction xs generalizing k with
  | nil => rfl
  | cons x xs ih => simp [enumL, ih]
theorem ok_enumT {K : PySem.W.Frag} {C : Wd → Prop} {p : Addr} {xs : List α} {E : α → SP} (h : ∀ W1, C W1 → Ex W1.B W1.H ∧ ∃ vs, W1.H p = some (.tup vs) ∧ Each E W1.B vs xs) : ItOk (IteT K p) C (enumL 0 xs) (prS intS E) := fun W1 c => by
  obtain ⟨ok, vs, h1, h2⟩ := h W1 c
  have hq : SqT K W1.H p vs := .inl (.inl h1)
  refine ⟨fun i x hx => ?_, fun i hi => ⟨vs, hq, by rw [h2.len]; rw [enumL_len] at hi; exact hi⟩⟩
  rw [enumL_get] at hx
  cases hxi : xs[i]? with
  | none => rw [hxi] at hx; cases hx
  | some y =>
    rw [hxi] at hx
    cases hx
    obtain ⟨v, hv, pv⟩ := h2.get hxi
    refine ⟨⟨vs, v, hq, hv⟩, fun u H' ⟨T, x', e1, e2, e3, e4⟩ => ?_⟩
    have q := e4 vs hq
    rw [hv] at q
    cases q
    subst e1 e3
    have e2' := Ext.newB ok (o := .tup [.int (i : Nat), v]) e2
    refine ⟨⟨upd W1.H T (.tup [.int (i : Nat), v]), upd W1.B T (.tup [.int (i : Nat), v])⟩, rfl, e2', T, [.int (i : Nat), v], rfl, upd_same, ?_⟩
    refine ⟨?_, SP.mono _ pv e2'.b, trivial⟩
    show V.int (i : Nat) = V.int (((0 + i : Nat) : Int))
    rw [Nat.zero_add]
theorem ok_enumL {K : PySem.W.Frag} {C : Wd → Prop} {p : Addr} {xs : List α} {E : α → SP} (h : ∀ W1, C W1 → Ex W1.B W1.H ∧ ∃ vs, W1.H p = some (.lst vs) ∧ Each E W1.B vs xs) : ItOk (Ite K p) C (enumL 0 xs) (prS intS E) := fun W1 c => by
  obtain ⟨ok, vs, h1, h2⟩ := h W1 c
  have hq : SqL K W1.H p vs := .inl (.inl h1)
  refine ⟨fun i x hx => ?_, fun i hi => ⟨vs, hq, by rw [h2.len]; rw [enumL_len] at hi; exact hi⟩⟩
  rw [enumL_get] at hx
  cases hxi : xs[i]? with
  | none => rw [hxi] at hx; cases hx
  | some y =>
    rw [hxi] at hx
    cases hx
    obtain ⟨v, hv, pv⟩ := h2.get hxi
    refine ⟨⟨vs, v, hq, hv⟩, fun u H' ⟨T, x', e1, e2, e3, e4⟩ => ?_⟩
    have q := e4 vs hq
    rw [hv] at q
    cases q
    subst e1 e3
    have e2' := Ext.newB ok (o := .tup [.int (i : Nat), v]) e2
    refine ⟨⟨upd W1.H T (.tup [.int (i : Nat), v]), upd W1.B T (.tup [.int (i : Nat), v])⟩, rfl, e2', T, [.int (i : Nat), v], rfl, upd_same, ?_⟩
    refine ⟨?_, SP.mono _ pv e2'.b, trivial⟩
    show V.int (i : Nat) = V.int (((0 + i : Nat) : Int))
    rw [Nat.zero_add]
section
variable {S : Stc} {Γ Δ : Ctx} {a b c e tg iter elt : Expr} {es ifs : List Expr} {pos : Pos}
theorem ji_enumT {p tpos : Pos} {elts : List Expr} {kk : Nat} {m : Option (List α)} {E : α → SP} (hm : S.mg "enumerate" = none) (h : JN S a Γ m fun xs => sh (tupS E xs)) (hg : GlS S "enumerate" := by rfl) (hs : ∀ env, starEach [a] env = [(false, eval a env)] := by intro _; rfl) :
    JI S (.Tuple elts kk tpos) (.Call (.Name "enumerate" p) [a] [] pos) Γ (m.bind fun xs => some (enumL 0 xs)) (prS intS E) := fun σ W F st xs hx R k => by
  obtain ⟨ys, h1, h2⟩ := run1 hx
  cases h2
  refine ⟨iEnumT S.K (tCons (tOf S a) tNil), fun X hX => hX.K ▸ pi_enumT (hg.gl hX) (mgS hm hX) (pa_cons (peO hX) pa_nil (hs _)) (hs _), h σ W F st ys h1 _ fun v W' Fv ext _ _ r => ?_⟩
  obtain ⟨_, a, vs, rfl, h2, h3⟩ := r
  exact ⟨a, vs, rfl, .inl (.inl (ext.ok a _ h2)), k _ W' ext (ok_enumT fun W1 c => ⟨c.1, vs, c.1 a _ (c.2 a _ h2), h3.mono c.2⟩)⟩
theorem ji_enumL {p tpos : Pos} {elts : List Expr} {kk : Nat} {m : Option (List α)} {E : α → SP} (hm : S.mg "enumerate" = none) (h : JN S a Γ m fun xs => sh (lstS E xs)) (hg : GlS S "enumerate" := by rfl) (hs : ∀ env, starEach [a] env = [(false, eval a env)] := by intro _; rfl) :
    JI S (.Tuple elts kk tpos) (.Call (.Name "enumerate" p) [a] [] pos) Γ (m.bind fun xs => some (enumL 0 xs)) (prS intS E) := fun σ W F st xs hx R k => by
  obtain ⟨ys, h1, h2⟩ := run1 hx
  cases h2
  refine ⟨iEnum S.K (tCons (tOf S a) tNil), fun X hX => hX.K ▸ pi_enum (hg.gl hX) (mgS hm hX) (pa_cons (peO hX) pa_nil (hs _)) (hs _), h σ W F st ys h1 _ fun v W' Fv ext _ _ r => ?_⟩
  obtain ⟨_, a, vs, rfl, h2, h3⟩ := r
  exact ⟨a, vs, rfl, .inl (.inl (ext.ok a _ h2)), k _ W' ext (ok_enumL fun W1 c => ⟨c.1, vs, c.1 a _ (c.2 a _ h2), h3.mono c.2⟩)⟩
end
end CC
set_option maxHeartbeats 4000000
/-! Bits, truth, slices, insert, order of tuples. -/
namespace CC
open PySem PySem.Spec L2
open PyProof.Rows hiding St
variable {α β γ δ τ υ ω ρ ε : Type}
/-! ### bits -/
def bAnd (x y : Int) : Int := Builtin.bitAnd x y
def bOr (x y : Int) : Int := Builtin.bitOr x y
def bXor (x y : Int) : Int := Builtin.bitXor x y
def bNot (x : Int) : Int := Builtin.bitNot x
def shlO (x j : Int) : Option Int := if 0 ≤ j ∧ j ≤ 1000000 ∧ x.natAbs < 2 ^ 64 then some (x * 2 ^ j.toNat) else none
def shrO (x j : Int) : Option Int := if 0 ≤ j then some (x / 2 ^ j.toNat) else none
def powO (x j : Int) : Option Int := if 0 ≤ j ∧ j ≤ 1000000 ∧ x.natAbs < 2 ^ 64 then some (x ^ j.toNat) else none
theorem ov_bAnd : OpV (rI0 fun i j => .int (Builtin.bitAnd i j)) intS intS (fun x y => some (bAnd x y)) fun z => sh (intS z) := ov_I0 fun _ _ _ => rfl
theorem ov_bOr : OpV (rI0 fun i j => .int (Builtin.bitOr i j)) intS intS (fun x y => some (bOr x y)) fun z => sh (intS z) := ov_I0 fun _ _ _ => rfl
theorem ov_bXor : OpV (rI0 fun i j => .int (Builtin.bitXor i j)) intS intS (fun x y => some (bXor x y)) fun z => sh (intS z) := ov_I0 fun _ _ _ => rfl
theorem ov_shl : OpV (rI CPow fun i j => .int (i * 2 ^ j.toNat)) intS intS shlO fun z => sh (intS z) := ov_I fun i j z h => by
  unfold shlO at h
  split at h
  · cases h
    rename_i c
    exact ⟨c, fun _ => rfl⟩
  · cases h
theorem ov_pow : OpV (rI CPow fun i j => .int (i ^ j.toNat)) intS intS powO fun z => sh (intS z) := ov_I fun i j z h => by
  unfold powO at h
  split at h
  · cases h
    rename_i c
    exact ⟨c, fun _ => rfl⟩
  · cases h
theorem ov_shr : OpV (rI (fun _ j => 0 ≤ j) fun i j => .int (i / 2 ^ j.toNat)) intS intS shrO fun z => sh (intS z) := ov_I fun i j z h => by
  unfold shrO at h
  split at h
  · cases h
    rename_i c
    exact ⟨c, fun _ => rfl⟩
  · cases h
section
variable {S : Stc}
theorem oBAnd : ∀ X, S.In X → OpR X (binaryOp .BitAnd) (rI0 fun i j => .int (Builtin.bitAnd i j)) := fun _ _ => op_and
theorem oBOr : ∀ X, S.In X → OpR X (binaryOp .BitOr) (rI0 fun i j => .int (Builtin.bitOr i j)) := fun _ _ => op_or
theorem oBXor : ∀ X, S.In X → OpR X (binaryOp .BitXor) (rI0 fun i j => .int (Builtin.bitXor i j)) := fun _ _ => op_xor
theorem oShl : ∀ X, S.In X → OpR X (binaryOp .LShift) (rI CPow fun i j => .int (i * 2 ^ j.toNat)) := fun _ _ => op_shl
theorem oPow : ∀ X, S.In X → OpR X (binaryOp .Pow) (rI CPow fun i j => .int (i ^ j.toNat)) := fun _ _ => op_pow
theorem oShr : ∀ X, S.In X → OpR X (binaryOp .RShift) (rI (fun _ j => 0 ≤ j) fun i j => .int (i / 2 ^ j.toNat)) := fun _ _ => op_shr
theorem oLtT : ∀ X, S.In X → OpR X (compareOp .Lt) (rLtT S.K) := fun X h => h.K ▸ op_ltT (by have := h.un; omega)
theorem oLeT : ∀ X, S.In X → OpR X (compareOp .LtE) (rLeT S.K) := fun X h => h.K ▸ op_leT (by have := h.un; omega)
end
section
variable {S : Stc} {Γ Δ : Ctx} {a b c e tg iter elt : Expr} {es ifs : List Expr} {pos : Pos} {st : Stmt} {rest A B : List Stmt}
theorem jn_inv {ma : Option Int} (ha : JN S a Γ ma fun x => sh (intS x)) : JN S (.UnaryOp .Invert a pos) Γ (ma.bind fun x => some (bNot x)) fun z => sh (intS z) :=
  jn_un (f := fun x : Int => some (bNot x)) (fun _ _ => un_inv) (fun W x v z ok h e Q k => by cases e; cases h; exact ⟨x, rfl, k.val ok rfl⟩) ha
/-- x.bit_length() -/
def bitLen (x : Int) : Int := (Builtin.Int.intBits x : Nat)
theorem jn_bits {apos : Pos} {ma : Option Int} (ha : JN S a Γ ma fun x => sh (intS x)) (hbase : ∀ env, attributeBase a "bit_length" env (eval a env) = eval a env := by intro _; rfl) (hline : (apos.endLine == pos.line) = true := by rfl) : JN S (.Call (.Attribute a "bit_length" apos) [] [] pos) Γ (ma.bind fun x => some (bitLen x)) fun z => sh (intS z) := fun σ W F sta z hz Q k => by
  obtain ⟨x, h1, h2⟩ := run1 hz
  cases h2
  exact ⟨tBits (tOf S a), fun X hX => pe_bits (peO hX) (hbase _) hline, ha σ W F sta x h1 _ fun v W' Fv e _ _ r => ⟨x, r.2, (k.ext e).val e.ok rfl⟩⟩
/-! ### truth of a value -/
def tTru (K : PySem.W.Frag) (t : TE) : TT := fun σ H Q => t σ H fun x H' => ∃ k, TruV K x H' k ∧ Q k H'
theorem jt_truI {m : Option Int} (h : JN S e Γ m fun z => sh (intS z)) (he : ∀ env whole, isTrue e env whole = (do let v ← whole; standAt e.pos; holding [v] (truthy v)) := by intro _ _; rfl) : JT S e Γ (m.bind fun x => some (x != 0)) := fun σ W F st z hz Q k => by
  obtain ⟨x, h1, h2⟩ := run1 hz
  cases h2
  exact ⟨tTru S.K (tOf S e), fun X hX => hX.K ▸ pt_truth (peO hX) (he _), h σ W F st x h1 _ fun v W' Fv e _ _ r => ⟨x != 0, by rw [r.2]; rfl, k W' e⟩⟩
theorem jt_truT {m : Option (List α)} {E : α → SP} (h : JN S e Γ m fun z => sh (tupS E z)) (he : ∀ env whole, isTrue e env whole = (do let v ← whole; standAt e.pos; holding [v] (truthy v)) := by intro _ _; rfl) : JT S e Γ (m.bind fun x => some (!x.isEmpty)) := fun σ W F st z hz Q k => by
  obtain ⟨x, h1, h2⟩ := run1 hz
  cases h2
  refine ⟨tTru S.K (tOf S e), fun X hX => hX.K ▸ pt_truth (peO hX) (he _), h σ W F st x h1 _ fun v W' Fv e _ _ r => ?_⟩
  obtain ⟨_, p, vs, rfl, q2, q3⟩ := r
  refine ⟨!x.isEmpty, .inr (.inl ⟨vs, .inl (.inl (e.ok p _ q2)), ?_⟩), k W' e⟩
  have := q3.len
  cases vs <;> cases x <;> simp at this ⊢
theorem jt_truL {m : Option (List α)} {E : α → SP} (h : JN S e Γ m fun z => sh (lstS E z)) (he : ∀ env whole, isTrue e env whole = (do let v ← whole; standAt e.pos; holding [v] (truthy v)) := by intro _ _; rfl) : JT S e Γ (m.bind fun x => some (!x.isEmpty)) := fun σ W F st z hz Q k => by
  obtain ⟨x, h1, h2⟩ := run1 hz
  cases h2
  refine ⟨tTru S.K (tOf S e), fun X hX => hX.K ▸ pt_truth (peO hX) (he _), h σ W F st x h1 _ fun v W' Fv e _ _ r => ?_⟩
  obtain ⟨_, p, vs, rfl, q2, q3⟩ := r
  refine ⟨!x.isEmpty, .inl ⟨vs, .inl (.inl (e.ok p _ q2)), ?_⟩, k W' e⟩
  have := q3.len
  cases vs <;> cases x <;> simp at this ⊢
theorem jt_truO {m : Option (List α)} {E : α → OP} (h : JR S e Γ m (lstO E)) (he : ∀ env whole, isTrue e env whole = (do let v ← whole; standAt e.pos; holding [v] (truthy v)) := by intro _ _; rfl) : JT S e Γ (m.bind fun x => some (!x.isEmpty)) := fun σ W F st z hz Q k => by
  obtain ⟨x, h1, h2⟩ := run1 hz
  cases h2
  refine ⟨tTru S.K (tOf S e), fun X hX => hX.K ▸ pt_truth (peO hX) (he _), h σ W F st x h1 _ fun v W' e ⟨F1, r, _⟩ => ?_⟩
  obtain ⟨p, vs, F2, rfl, q2, _, q3⟩ := r
  refine ⟨!x.isEmpty, .inl ⟨vs, .inl (.inl q2), ?_⟩, k W' e⟩
  have := q3.len
  cases vs <;> cases x <;> simp at this ⊢
/-! ### order of pairs of ints -/
def ltPI (x y : Int × Int) : Bool := if x.1 = y.1 then decide (x.2 < y.2) else decide (x.1 < y.1)
theorem prI_sq {K : PySem.W.Frag} {W : Wd} {x : Int × Int} {v : V} (ok : Ex W.B W.H) (h : (prS intS intS x).P W.B v) : ∃ a, v = .ref a ∧ SqT K W.H a ([x.1, x.2].map V.int) := by
  obtain ⟨a, vs, rfl, h2, h3⟩ := h
  obtain ⟨u, w, rfl, a1, a2⟩ := hts2 h3
  cases a1
  cases a2
  exact ⟨a, rfl, .inl (.inl (ok a _ h2))⟩
theorem ov_ltPI {K : PySem.W.Frag} : OpV (rLtT K) (prS intS intS) (prS intS intS) (fun x y => some (ltPI x y)) fun z => sh (boolS z) := fun W x y v u z ok hx hy e Q k => by
  cases e
  obtain ⟨a, rfl, ha⟩ := prI_sq (K := K) ok hx
  obtain ⟨b, rfl, hb⟩ := prI_sq (K := K) ok hy
  refine ⟨a, b, _, _, rfl, rfl, ha, hb, k.val ok ?_⟩
  show V.bl (HT.lexLt [x.1, x.2] [y.1, y.2]) = V.bl (ltPI x y)
  congr 1
  unfold ltPI
  simp only [HT.lexLt_cons, HT.lexLt_nil_nil]
  split
  · by_cases h : x.2 = y.2
    · rw [if_pos h]; simp [h]
    · rw [if_neg h]
  · rfl
/-! ### slices -/
def cutL (xs : List α) (lo hi : Option Int) : List α := (xs.drop (HT.sIx xs.length 0 lo)).take (HT.sIx xs.length xs.length hi - HT.sIx xs.length 0 lo)
theorem each_cut {E : α → SP} {B : Hp} {vs : List V} {xs : List α} (h : Each E B vs xs) (lo hi : Option Int) : Each E B (cutV vs lo hi) (cutL xs lo hi) := by
  unfold cutV cutL
  rw [h.len]
  exact (h.drop _).take _
def toOf (S : Stc) (o : Option Expr) : TO := fun σ H Q => ∃ t : TO, (∀ X, S.In X → PO X o t) ∧ t σ H Q
theorem poO {X : Cx} {o : Option Expr} (h : S.In X) : PO X o (toOf S o) := ⟨fun pins s σ H Q I ⟨_, p, q⟩ => (p X h).run pins s σ H Q I q⟩
def JO (S : Stc) (o : Option Expr) (Γ : Ctx) (m : Option (Option Int)) : Prop :=
  ∀ σ W F, Sta Γ σ W F → ∀ x, m = some x → ∀ Q : Option Int → Hp → Prop, (∀ W', Ext W W' → Q x W'.H) → toOf S o σ W.H Q
theorem jo_none : JO S none Γ (some none) := fun σ W F st x hx Q k => by
  cases hx
  exact ⟨tNoPart, fun _ _ => po_none, k W (Ext.refl st.ok)⟩
theorem jo_some {m : Option Int} (h : JN S e Γ m fun z => sh (intS z)) : JO S (some e) Γ (m.bind fun x => some (some x)) := fun σ W F st x hx Q k => by
  obtain ⟨y, h1, h2⟩ := run1 hx
  cases h2
  exact ⟨tPart (tOf S e), fun X hX => po_some (peO hX), h σ W F st y h1 _ fun v W' Fv e _ _ r => ⟨y, r.2, k W' e⟩⟩
theorem jn_slO {E : α → SP} {lo hi : Option Expr} {p2 : Pos} {m : Option (List α)} {ml mh : Option (Option Int)} (h : JR S a Γ m (lstO fun x => sh (E x))) (hl : JO S lo Γ ml) (hh : JO S hi Γ mh) : JN S (.Subscript a (.Slice lo hi none p2) pos) Γ (m.bind fun xs => ml.bind fun l => mh.bind fun u => some (cutL xs l u)) (lstO fun x => sh (E x)) := fun σ W F sta z hz Q kq => by
  obtain ⟨x, h1, h2⟩ := run1 hz
  obtain ⟨l, u, h3, h4, h5⟩ := run2 (f := fun l u => some (cutL x l u)) h2
  cases h5
  refine ⟨tSl (rSlL S.K) (tOf S a) (toOf S lo) (toOf S hi), fun X hX => hX.K ▸ pe_slice sl_list (peO hX) (poO hX) (poO hX), h σ W F sta x h1 _ fun v W1 e1 ⟨F1, r, al⟩ => ?_⟩
  obtain ⟨p, vs, F2, rfl, q2, rfl, q3⟩ := r
  obtain ⟨_, q4⟩ := q3.each
  refine hl σ W1 F (sta.ext e1) l h3 _ fun W2 e2 => ?_
  refine hh σ W2 F (sta.ext (e1.trans e2)) u h4 _ fun W3 e3 => ?_
  have e := (e1.trans e2).trans e3
  exact ⟨p, vs, rfl, .inl (.inl (e3.h p _ (e2.h p _ q2))), (kq.ext e).newL e.ok (each_cut (q4.mono (e2.b.trans e3.b)) l u)⟩
theorem jn_slL {E : α → SP} {lo hi : Option Expr} {p2 : Pos} {m : Option (List α)} {ml mh : Option (Option Int)} (h : JN S a Γ m fun x => sh (lstS E x)) (hl : JO S lo Γ ml) (hh : JO S hi Γ mh) : JN S (.Subscript a (.Slice lo hi none p2) pos) Γ (m.bind fun xs => ml.bind fun l => mh.bind fun u => some (cutL xs l u)) (lstO fun x => sh (E x)) := fun σ W F sta z hz Q kq => by
  obtain ⟨x, h1, h2⟩ := run1 hz
  obtain ⟨l, u, h3, h4, h5⟩ := run2 (f := fun l u => some (cutL x l u)) h2
  cases h5
  refine ⟨tSl (rSlL S.K) (tOf S a) (toOf S lo) (toOf S hi), fun X hX => hX.K ▸ pe_slice sl_list (peO hX) (poO hX) (poO hX), h σ W F sta x h1 _ fun v W1 Fv e1 _ _ r => ?_⟩
  obtain ⟨_, p, vs, rfl, q2, q4⟩ := r
  refine hl σ W1 F (sta.ext e1) l h3 _ fun W2 e2 => ?_
  refine hh σ W2 F (sta.ext (e1.trans e2)) u h4 _ fun W3 e3 => ?_
  have e := (e1.trans e2).trans e3
  exact ⟨p, vs, rfl, .inl (.inl (e.ok p _ (e3.b p _ (e2.b p _ q2)))), (kq.ext e).newL e.ok (each_cut (q4.mono (e2.b.trans e3.b)) l u)⟩
theorem cutL_all {xs : List α} {l u : Option Int} (h : HT.sIx xs.length 0 l = 0 ∧ HT.sIx xs.length xs.length u = xs.length) : cutL xs l u = xs := by
  unfold cutL
  rw [h.1, h.2]
  simp
theorem jn_slT {E : α → SP} {lo hi : Option Expr} {p2 : Pos} {m : Option (List α)} {ml mh : Option (Option Int)} (h : JN S a Γ m fun x => sh (tupS E x)) (hl : JO S lo Γ ml) (hh : JO S hi Γ mh) : JN S (.Subscript a (.Slice lo hi none p2) pos) Γ (m.bind fun xs => ml.bind fun l => mh.bind fun u => some (cutL xs l u)) (fun x => sh (tupS E x)) := fun σ W F sta z hz Q kq => by
  obtain ⟨x, h1, h2⟩ := run1 hz
  obtain ⟨l, u, h3, h4, h5⟩ := run2 (f := fun l u => some (cutL x l u)) h2
  cases h5
  refine ⟨tSl (rSlA S.K) (tOf S a) (toOf S lo) (toOf S hi), fun X hX => hX.K ▸ pe_slice sl_tupA (peO hX) (poO hX) (poO hX), h σ W F sta x h1 _ fun v W1 Fv e1 _ _ r => ?_⟩
  obtain ⟨_, p, vs, rfl, q2, q4⟩ := r
  refine hl σ W1 F (sta.ext e1) l h3 _ fun W2 e2 => ?_
  refine hh σ W2 F (sta.ext (e1.trans e2)) u h4 _ fun W3 e3 => ?_
  have e := (e1.trans e2).trans e3
  have q2' := e3.b p _ (e2.b p _ q2)
  have q4' := q4.mono (e2.b.trans e3.b)
  refine ⟨p, vs, rfl, .inl (.inl (e.ok p _ q2')), fun hw => ?_, fun _ => (kq.ext e).newT e.ok (each_cut q4' l u)⟩
  rw [q4.len] at hw
  refine (kq.ext e).val e.ok ?_
  rw [cutL_all hw]
  exact ⟨p, vs, rfl, q2', q4'⟩
/-! ### max, min of two ints -/
theorem jn_max2 {p : Pos} {m : Option α} {G : α → List SP} (g1 g2 : α → Int) (hm : S.mg "max" = none) (h : JA S (e :: es) Γ m G) (hG : ∀ x, G x = [intS (g1 x), intS (g2 x)] := by intro _; rfl) (hg : GlS S "max" := by rfl) (he : ∀ env, starEach (e :: es) env = (false, eval e env) :: starEach es env := by intro _; rfl) (hpl : ∀ env, (backTo pos (starEach es env)).any (·.1) = false := by intro _; rfl) (hcm : S.calm = true := by rfl) : JN S (.Call (.Name "max" p) (e :: es) [] pos) Γ (m.bind fun x => some (if g2 x > g1 x then g2 x else g1 x)) fun z => sh (intS z) := fun σ W F sta z hz Q kq => by
  obtain ⟨x, h1, h2⟩ := run1 hz
  cases h2
  refine ⟨tCB (fun xs H Q => ∃ i j, xs = [.int i, .int j] ∧ Q (.int (if j > i then j else i)) H) (taOf S (e :: es)), fun X hX => pe_callB (call_max2 (hX.calm.trans hcm)) (hg.gl hX) (mgS hm hX) (by decide +kernel) (paO hX) (by decide) (by decide) (he _) (hpl _), h σ W F sta x h1 _ fun vs W' ext hh => ?_⟩
  rw [hG] at hh
  obtain ⟨u, v, rfl, a1, a2⟩ := hets2 hh
  cases a1
  cases a2
  exact ⟨_, _, rfl, (kq.ext ext).val ext.ok rfl⟩
theorem jn_min2 {p : Pos} {m : Option α} {G : α → List SP} (g1 g2 : α → Int) (hm : S.mg "min" = none) (h : JA S (e :: es) Γ m G) (hG : ∀ x, G x = [intS (g1 x), intS (g2 x)] := by intro _; rfl) (hg : GlS S "min" := by rfl) (he : ∀ env, starEach (e :: es) env = (false, eval e env) :: starEach es env := by intro _; rfl) (hpl : ∀ env, (backTo pos (starEach es env)).any (·.1) = false := by intro _; rfl) (hcm : S.calm = true := by rfl) : JN S (.Call (.Name "min" p) (e :: es) [] pos) Γ (m.bind fun x => some (if g2 x < g1 x then g2 x else g1 x)) fun z => sh (intS z) := fun σ W F sta z hz Q kq => by
  obtain ⟨x, h1, h2⟩ := run1 hz
  cases h2
  refine ⟨tCB (fun xs H Q => ∃ i j, xs = [.int i, .int j] ∧ Q (.int (if j < i then j else i)) H) (taOf S (e :: es)), fun X hX => pe_callB (call_min2 (hX.calm.trans hcm)) (hg.gl hX) (mgS hm hX) (by decide +kernel) (paO hX) (by decide) (by decide) (he _) (hpl _), h σ W F sta x h1 _ fun vs W' ext hh => ?_⟩
  rw [hG] at hh
  obtain ⟨u, v, rfl, a1, a2⟩ := hets2 hh
  cases a1
  cases a2
  exact ⟨_, _, rfl, (kq.ext ext).val ext.ok rfl⟩
/-! ### x, y = [a, b] -/
theorem jg_pairL {E : α → SP} {G : β → SP} {x y : Str} {pos p1 p2 : Pos} {k : Nat} (i j : Nat) (nd : S.N.Nodup) (hN : S.N[i]? = some x := by rfl) (hM : S.N[j]? = some y := by rfl) (hx : Loc S.sc x := by first | exact Or.inl rfl | exact Or.inr rfl) (hy : Loc S.sc y := by first | exact Or.inl rfl | exact Or.inr rfl)
    (hp : (S.prot.contains i) = false := by rfl) (hq : (S.prot.contains j) = false := by rfl) (hf : S.fn x = true ∨ S.sc.names.lookup x = some .local := by first | exact .inl rfl | exact .inr rfl) (hf2 : S.fn y = true ∨ S.sc.names.lookup y = some .local := by first | exact .inl rfl | exact .inr rfl)
    (hs : ∀ env, (assignEach [Expr.Name x p1, .Name y p2] env).map (·.2) = assign (.Name x p1) env :: (assignEach [Expr.Name y p2] env).map (·.2) := by intro _; rfl) (hs2 : ∀ env, (assignEach [Expr.Name y p2] env).map (·.2) = assign (.Name y p2) env :: (assignEach [] env).map (·.2) := by intro _; rfl)
    (hn : ∀ env, (assignEach [Expr.Name x p1, .Name y p2] env).length = 2 := by intro _; rfl) (hst : ∀ env, (assignEach [Expr.Name x p1, .Name y p2] env).findIdx? (·.1) = none := by intro _; rfl) (hcm : S.calm = true := by rfl) :
    JG S (.Tuple [.Name x p1, .Name y p2] k pos) (l2S E G) (fun a Γ => (Γ.set i (some (sh (E a.1)))).set j (some (sh (G a.2)))) [i, j] := fun Γ σ W F q v st hl h Q kk => by
  refine ⟨gLst S.K 2 (gCons (gName i) (gCons (gName j) gNil)), fun X hX => hX.K ▸ pg_lst (hX.calm.trans hcm) (pgs_cons (pg_name (by rw [hX.N]; exact nd) (by rw [hX.N]; exact hN) (locS hx hX) (by rw [hX.fn, hX.sc]; exact hf)) (pgs_cons (pg_name (by rw [hX.N]; exact nd) (by rw [hX.N]; exact hM) (locS hy hX) (by rw [hX.fn, hX.sc]; exact hf2)) pgs_nil (hs2 _)) (hs _)) (hn _) (hst _), ?_⟩
  obtain ⟨a, vs, rfl, h2, h3⟩ := h
  match vs, h3 with
  | [u, w], ⟨p1, p2, _⟩ =>
    refine ⟨a, [u, w], rfl, .inl (.inl (st.ok a _ h2)), rfl, u, [w], rfl, w, [], rfl, rfl, ?_⟩
    obtain ⟨F1, s1, sub1⟩ := set_keeps st (hl i (by simp)) p1
    obtain ⟨F2, s2, sub2⟩ := set_keeps s1 (by rw [List.length_set]; exact hl j (by simp)) p2
    refine kk _ F2 (fun vs hv => ?_) ((Keep.set (ncon hp)).trans (Keep.set (ncon hq))) s2 fun b hb => sub1 b (sub2 b hb)
    rw [wipe_set (hv j (by simp)), wipe_set (hv i (by simp))]
end
/-! ### line.insert(i, y) -/
def insM (xs : List α) (i : Int) (x : α) : Option (List α) := if xs.length < LIM ∧ 0 ≤ i ∧ i < 1000000000 then some (xs.take i.toNat ++ [x] ++ xs.drop i.toNat) else none
section
variable {S : Stc} {Γ : τ → Ctx} {s : τ} {a b c e : Expr} {pos : Pos}
theorem js_insE {x : Str} {p0 apos cpos spos : Pos} {E : α → SP} {m : Option ((Int × α × Unit) × τ)} (i : Nat) (get : τ → List α) (h : JEA S [a, b] Γ s m fun z => [intS z.1, E z.2.1]) (hi : ∀ s, (Γ s)[i]? = some (some (lstO (fun x => sh (E x)) (get s))) := by intro _; rfl) (hN : S.N[i]? = some x := by rfl) (hv : Vis S.sc x := by first | exact Or.inl rfl | exact Or.inr (Or.inl rfl) | exact Or.inr (Or.inr rfl))
    (hd : (x == ("__debug__" : Str)) = false := by decide) (hcd : (x == ("__classdict__" : Str)) = false := by decide)
    (hbase : ∀ env, attributeBase (.Name x p0) "insert" env (eval (.Name x p0) env) = eval (.Name x p0) env := by intro _; rfl)
    (hfew : ∀ env, ((backTo cpos (starEach [a, b] env)).all (fun x => !x.1) && (backToKw cpos (keywordEach [] env)).all (fun x => x.1.isSome) && decide ([a, b].length + ([] : List Keyword).length + (if ([] : List Keyword).isEmpty then 0 else 1) < 30)) = true := by intro _; rfl)
    (hline : (apos.endLine == cpos.line) = true := by rfl) (hs : ∀ env, starEach [a, b] env = (false, eval a env) :: starEach [b] env := by intro _; rfl) (hpl : ∀ env, (backTo cpos (starEach [b] env)).any (·.1) = false := by intro _; rfl) (hsw : ∀ env, swapsWith (.Call (.Attribute (.Name x p0) "insert" apos) [a, b] [] cpos) none spos.line env = pure false := by intro _; rfl) :
    JS S (.Expr (.Call (.Attribute (.Name x p0) "insert" apos) [a, b] [] cpos) spos) (Γ s) (m.bind fun q => (insM (get q.2) q.1.1 q.1.2.1).bind fun ys => some (ys, q.2)) fun q => .nx ((Γ q.2).set i (some (lstO (fun x => sh (E x)) q.1))) := fun σ W F sta z hz Ed k => by
  obtain ⟨q, h1, h2⟩ := run1 hz
  obtain ⟨ys, h3, h4⟩ := run1 (f := fun ys : List α => some (ys, q.2)) h2
  cases h4
  unfold insM at h3
  split at h3
  · rename_i hc
    cases h3
    refine ⟨tDrop (tBM S.K "list" (fun x vs H Q => ∃ (l : Addr) (xs : List V) (i : Int) (y : V), x = .ref l ∧ vs = [.int i, y] ∧ H l = some (.lst xs) ∧ xs.length < sizeLine ∧ 0 ≤ i ∧ i < 2 ^ 63 ∧ Q .non (upd H l (.lst (xs.take i.toNat ++ [y] ++ xs.drop i.toNat)))) (tVar i) (taOf S [a, b])), fun X hX => ps_expr (hX.K ▸ pe_bm PySem.F.plainAttrs_list PySem.F.slot_list_insert PySem.F.type_list_insert mt_insert (pe_var (by rw [hX.N]; exact hN) (visS hv hX) hd hcd) (paO hX) (hbase _) (hfew _) hline (hs _) (hpl _)) (hsw _), ?_⟩
    obtain ⟨v, F1, F2, a1, a2, a3, a4⟩ := sta.hold.at (hi s)
    obtain ⟨p, vs, G2, rfl, b2, rfl, b4⟩ := id a2
    refine ⟨.ref p, a1, .inl ⟨rfl, vs, .inl (.inl b2)⟩, h σ W F sta q h1 _ fun us W1 Fa stp1 sa1 hh => ?_⟩
    obtain ⟨u1, u2, rfl, r1, r2⟩ := hets2 hh
    cases r1
    obtain ⟨v', F1', F2', c1, c2, c3, c4⟩ := sa1.hold.at (hi q.2)
    have ev : v' = .ref p := by rw [a1] at c1; exact (Option.some.inj (Option.some.inj c1)).symm
    subst ev
    obtain ⟨p', vs', G2', e1, d2, rfl, d4⟩ := c2
    cases e1
    have hB : W1.B p = none := (sa1.fp.perm c3).fr p (by simp)
    obtain ⟨rfl, d5⟩ := d4.each
    refine ⟨p, vs', q.1.1, u2, rfl, rfl, d2, lim_lt (by rw [d4.len]; exact hc.1), hc.2.1, by have := hc.2.2; omega, ?_⟩
    have fpA : FpOk W1 [p] := (sa1.fp.perm c3).left
    have A4 : Owns (fun x => sh (E x)) ⟨upd W1.H p (.lst (vs'.take q.1.1.toNat ++ [u2] ++ vs'.drop q.1.1.toNat)), W1.B⟩ (vs'.take q.1.1.toNat ++ [u2] ++ vs'.drop q.1.1.toNat) ((get q.2).take q.1.1.toNat ++ [q.1.2.1] ++ (get q.2).drop q.1.1.toNat) [] :=
      Owns.of_each (W := ⟨upd W1.H p (.lst (vs'.take q.1.1.toNat ++ [u2] ++ vs'.drop q.1.1.toNat)), W1.B⟩) (((d5.take _).app (show Each (fun x => E x) W1.B [u2] [q.1.2.1] from ⟨r2, trivial⟩)).app (d5.drop _))
    obtain ⟨F', s', stp⟩ := sta_own (W' := ⟨upd W1.H p (.lst (vs'.take q.1.1.toNat ++ [u2] ++ vs'.drop q.1.1.toNat)), W1.B⟩) (F1' := [p]) (o' := lstO (fun x => sh (E x)) ((get q.2).take q.1.1.toNat ++ [q.1.2.1] ++ (get q.2).drop q.1.1.toNat)) [] sa1 (by rw [List.append_nil]; exact sa1.fp) c1 c3 c4 (wr_ok sa1.ok hB) rfl (fun a ha _ => upd_ne fun z => ha (z ▸ List.mem_cons_self)) wr_al
      ⟨fpA.nd, fun a ha => wr_al a (fpA.al a ha), fpA.fr⟩ (fun a ha => .inl ha) ⟨p, _, [], rfl, upd_same, rfl, A4⟩
    rw [List.append_nil] at stp
    exact k σ _ F' Keep.refl (stp1.trans stp) s'
  · cases h3
end
end CC
set_option maxHeartbeats 4000000
/-! while without leaving; walks over what a state def hands back; short lists as values. -/
namespace CC
open PySem PySem.Spec L2
open PyProof.Rows hiding St
variable {α β γ δ τ υ ω ρ ε : Type}
def whileF (c : τ → Option Bool) (f : τ → Option τ) : Nat → τ → Option τ
  | 0, _ => none
  | n + 1, s => (c s).bind fun b => bif b then (f s).bind fun s' => whileF c f n s' else some s
theorem whileGo_F {c : τ → Option Bool} {f : τ → Option τ} : ∀ (n : Nat) (s : τ), whileGo (ρ := Empty) c (fun s => (f s).bind fun s' => some (.nx s')) n s = (whileF c f n s).bind fun s' => some (.nx s')
  | 0, s => rfl
  | n + 1, s => by
    show (c s).bind (fun b => bif b then ((f s).bind fun s' => some (Out.nx s')).bind (fun o : Out τ Empty => o.step fun s' => whileGo c (fun s => (f s).bind fun s' => some (.nx s')) n s') else some (.nx s)) = ((c s).bind fun b => bif b then (f s).bind fun s' => whileF c f n s' else some s).bind _
    cases c s with
    | none => rfl
    | some b =>
      cases b with
      | false => rfl
      | true =>
        show ((f s).bind fun s' => some (Out.nx s')).bind _ = ((f s).bind fun s' => whileF c f n s').bind _
        cases f s with
        | none => rfl
        | some s' => exact whileGo_F n s'
section
variable {S : Stc} {Γ Δ : Ctx} {a b c e tg iter elt : Expr} {es ifs : List Expr} {pos : Pos} {st : Stmt} {rest A B : List Stmt}
theorem js_whileS {Γl : τ → Ctx} {mc : τ → Option Bool} {f : τ → Option τ} (n : Nat) (s0 : τ) (w : Weak Γ (Γl s0)) (hc : ∀ s, JT S c (Γl s) (mc s)) (hb : ∀ s, JB S A (Γl s) (f s) fun s' => .nx (Γl s')) :
    JS S (.While c A [] pos) Γ (whileF mc f n s0) fun s => .nx (Γl s) := fun σ W F sta z hz Ed k => by
  have h := js_while (ρ := Empty) (T := fun r => nomatch r) (f := fun s => (f s).bind fun s' => some (.nx s')) (pos := pos) (Γ := Γ) (Γl := Γl) n s0 w (fun r => nomatch r) hc fun s => JB.map (hb s) fun s' => rfl
  refine h σ W F sta (.nx z) ?_ Ed k
  rw [whileGo_F, hz]
  rfl
theorem ao_l2 {E : α → SP} {G : β → SP} {f : α → PV} {g : β → PV} (h : AnyOf E f) (k : AnyOf G g) : AnyOf (l2S E G) (fun p => PV.lst [f p.1, g p.2]) := ⟨fun B x v hx => by
  show anyP B (.lst _) v
  unfold anyP
  obtain ⟨a, vs, h1, h2, h3⟩ := hx
  obtain ⟨u, w, rfl, a1, a2⟩ := hts2 h3
  exact ⟨a, _, h1, h2, each_anys ⟨h.go B _ _ a1, k.go B _ _ a2, trivial⟩⟩⟩
theorem ao_l3 {E : α → SP} {G : β → SP} {I : γ → SP} {f : α → PV} {g : β → PV} {i : γ → PV} (h : AnyOf E f) (k : AnyOf G g) (l : AnyOf I i) : AnyOf (l3S E G I) (fun p => PV.lst [f p.1, g p.2.1, i p.2.2]) := ⟨fun B x v hx => by
  show anyP B (.lst _) v
  unfold anyP
  obtain ⟨a, vs, h1, h2, h3⟩ := hx
  obtain ⟨u, w, y, rfl, a1, a2, a3⟩ := hts3 h3
  exact ⟨a, _, h1, h2, each_anys ⟨h.go B _ _ a1, k.go B _ _ a2, l.go B _ _ a3, trivial⟩⟩⟩
end
section
variable {S : Stc} {Γ : τ → Ctx} {s : τ} {a b c e tg iter : Expr} {es ifs : List Expr} {pos : Pos}
theorem je_intB {m : Option (Bool × τ)} {p : Pos} (hm : S.mg "int" = none) (h : JE S a Γ s m fun x => sh (boolS x)) (hg : GlS S "int" := by rfl) (hs : ∀ env, starEach [a] env = [(false, eval a env)] := by intro _; rfl) : JE S (.Call (.Name "int" p) [a] [] pos) Γ s (m.bind fun q => some (b2i q.1, q.2)) fun z => sh (intS z) :=
  je_t1 (f := fun x : Bool => some (b2i x)) (fun X hX => call_int1) (fun W x v z ok hh e Q k => by
    cases e
    cases hh
    exact .inr ⟨_, rfl, k.val ok rfl⟩) hm h hg (by decide +kernel) (by decide) (by decide) hs
theorem jie_lst {m : Option (List α × τ)} {E : α → SP} (h : JE S iter Γ s m fun xs => sh (lstS E xs)) : JIE S tg iter Γ s m E := fun σ W F sta z hz R k => by
  refine ⟨iList S.K (tOf S iter), fun X hX => hX.K ▸ pi_list (peO hX), h.sh sta hz fun v W' F' stp sa r => ?_⟩
  obtain ⟨a, vs, rfl, h2, h3⟩ := r
  exact ⟨a, rfl, ⟨vs, .inl (.inl (sa.ok a _ h2))⟩, k _ W' F' stp sa (ok_list fun W1 c => ⟨c.1, vs, c.1 a _ (c.2 a _ h2), h3.mono c.2⟩)⟩
theorem jie_tup {m : Option (List α × τ)} {E : α → SP} (h : JE S iter Γ s m fun xs => sh (tupS E xs)) : JIE S tg iter Γ s m E := fun σ W F sta z hz R k => by
  refine ⟨iTup S.K (tOf S iter), fun X hX => hX.K ▸ pi_tup (peO hX), h.sh sta hz fun v W' F' stp sa r => ?_⟩
  obtain ⟨a, vs, rfl, h2, h3⟩ := r
  exact ⟨a, rfl, ⟨vs, .inl (.inl (sa.ok a _ h2))⟩, k _ W' F' stp sa (ok_tup fun W1 c => ⟨c.1, vs, c.1 a _ (c.2 a _ h2), h3.mono c.2⟩)⟩
/-- xs[b] = e with state -/
theorem js_setIE {x : Str} {p0 tpos : Pos} {E : α → SP} {mv : Option (α × τ)} {mi : τ → Option (Int × τ)} (i : Nat) (get : τ → List α) (h : JE S e Γ s mv fun x => CC.sh (E x)) (hb : ∀ s1, JE S b Γ s1 (mi s1) fun z => CC.sh (intS z)) (hi : ∀ s, (Γ s)[i]? = some (some (lstO (fun x => CC.sh (E x)) (get s))) := by intro _; rfl) (hN : S.N[i]? = some x := by rfl) (hv : Vis S.sc x := by first | exact Or.inl rfl | exact Or.inr (Or.inl rfl) | exact Or.inr (Or.inr rfl))
    (hd : (x == ("__debug__" : Str)) = false := by decide) (hcd : (x == ("__classdict__" : Str)) = false := by decide)
    (ha : ∀ env v, assign (.Subscript (.Name x p0) b tpos) env v = (do
      let ov ← holding [v] (eval (.Name x p0) env)
      let iv ← holding [v, ov] (eval b env)
      standAt tpos
      holding [v, ov, iv] (setItem ov iv v)
      release [v, ov, iv] []) := by intro _ _; rfl) (hs : ∀ env, swapsWithSole [.Subscript (.Name x p0) b tpos] e pos.line env = pure false := by intro _; rfl) (hw : ∀ env, swappedStores [.Subscript (.Name x p0) b tpos] e env = pure none := by intro _; rfl)
    (h1 : ∀ env, (assignEach [.Subscript (.Name x p0) b tpos] env).map (·.2) = [assign (.Subscript (.Name x p0) b tpos) env] := by intro _; rfl) :
    JS S (.Assign [.Subscript (.Name x p0) b tpos] e pos) (Γ s) (mv.bind fun q => (mi q.2).bind fun r => (setAt (get r.2) r.1 q.1).bind fun ys => some (ys, r.2)) fun q => .nx ((Γ q.2).set i (some (lstO (fun x => CC.sh (E x)) q.1))) := fun σ W F sta z hz Ed kk => by
  obtain ⟨q, m1, m2⟩ := run1 hz
  obtain ⟨r, m3, m4⟩ := run1 (f := fun r : Int × τ => (setAt (get r.2) r.1 q.1).bind fun ys => some (ys, r.2)) m2
  obtain ⟨ys, m5, m6⟩ := run1 (f := fun ys : List α => some (ys, r.2)) m4
  cases m6
  obtain ⟨j, j1, j2⟩ := run1 (f := fun j => some ((get r.2).set j q.1)) m5
  cases j2
  refine ⟨tAsg (tOf S e) (gSub (tVar i) (tOf S b) rSetL), fun X hX => ps_asg (peO hX) (pg_sub (pe_var (by rw [hX.N]; exact hN) (visS hv hX) hd hcd) (peO hX) set_list (ha _)) (hs _) (hw _) (h1 _), ?_⟩
  refine h.sh sta m1 fun u W1 Fa stp1 sa1 ru => ?_
  obtain ⟨v, F1, F2, a1, a2, a3, a4⟩ := sa1.hold.at (hi q.2)
  obtain ⟨p, vs, G2, rfl, b2, rfl, b4⟩ := a2
  refine ⟨.ref p, a1, ?_⟩
  refine (hb q.2).sh sa1 m3 fun t W2 Fb stp2 sa2 r2 => ?_
  cases r2
  obtain ⟨v', F1', F2', c1, c2, c3, c4⟩ := sa2.hold.at (hi r.2)
  have ev : v' = .ref p := by rw [a1] at c1; exact (Option.some.inj (Option.some.inj c1)).symm
  subst ev
  obtain ⟨p', vs', G2', e1, d2, rfl, d4⟩ := c2
  cases e1
  have hB : W2.B p = none := (sa2.fp.perm c3).fr p (by simp)
  obtain ⟨rfl, d5⟩ := d4.each
  refine ⟨p, vs', r.1, j, rfl, rfl, d2, by rw [d4.len]; exact j1, ?_⟩
  have fpA : FpOk W2 [p] := (sa2.fp.perm c3).left
  have A4 : Owns (fun x => CC.sh (E x)) ⟨upd W2.H p (.lst (vs'.set j u)), W2.B⟩ (vs'.set j u) ((get r.2).set j q.1) [] :=
    Owns.of_each (W := ⟨upd W2.H p (.lst (vs'.set j u)), W2.B⟩) (d5.set (SP.mono _ ru stp2.b) j)
  obtain ⟨F', s', stp⟩ := sta_own (W' := ⟨upd W2.H p (.lst (vs'.set j u)), W2.B⟩) (F1' := [p]) (o' := lstO (fun x => CC.sh (E x)) ((get r.2).set j q.1)) [] sa2 (by rw [List.append_nil]; exact sa2.fp) c1 c3 c4 (wr_ok sa2.ok hB) rfl (fun a ha _ => upd_ne fun z => ha (z ▸ List.mem_cons_self)) wr_al
    ⟨fpA.nd, fun a ha => wr_al a (fpA.al a ha), fpA.fr⟩ (fun a ha => .inl ha) ⟨p, _, [], rfl, upd_same, rfl, A4⟩
  rw [List.append_nil] at stp
  exact kk σ _ F' Keep.refl ((stp1.trans stp2).trans stp) s'
theorem je_notV {m : Option (Bool × τ)} (h : JE S e Γ s m fun z => sh (boolS z)) : JE S (.UnaryOp .Not e pos) Γ s (m.bind fun x => some (!x.1, x.2)) fun z => sh (boolS z) := JE.of_sh fun σ W F sta z hz Q k => by
  obtain ⟨x, h1, h2⟩ := run1 hz
  cases h2
  exact ⟨tNotV (tOf S e), fun X hX => pe_not (peO hX), h.sh sta h1 fun v W' F' stp sa r => ⟨x.1, r, k _ W' F' stp sa rfl⟩⟩
end
end CC
set_option maxHeartbeats 4000000
/-! list.remove of ints. -/
namespace CC
open PySem PySem.Spec L2
open PyProof.Rows hiding St
variable {α β γ δ τ υ ω ρ ε : Type}
def remM (xs : List Int) (k : Int) : Option (List Int) := (xs.findIdx? (fun z => z == k)).bind fun j => some (xs.eraseIdx j)
theorem each_intsV {B : Hp} : ∀ {vs : List V} {xs : List Int}, Each intS B vs xs → vs = xs.map V.int
  | [], [], _ => rfl
  | v :: vs, x :: xs, h => by
    have h1 : v = .int x := h.1
    rw [h1, List.map_cons, ← each_intsV h.2]
  | [], _ :: _, h => h.elim
  | _ :: _, [], h => h.elim
section
variable {S : Stc} {Γ Δ : Ctx} {a b c e tg iter elt : Expr} {es ifs : List Expr} {pos : Pos} {st : Stmt} {rest A B : List Stmt}
theorem js_remI {x : Str} {p0 apos cpos spos : Pos} {xs : List Int} {m : Option Int} (i : Nat) (h : JN S e Γ m fun z => sh (intS z)) (hi : Γ[i]? = some (some (lstO (fun x => sh (intS x)) xs)) := by rfl) (hN : S.N[i]? = some x := by rfl) (hv : Vis S.sc x := by first | exact Or.inl rfl | exact Or.inr (Or.inl rfl) | exact Or.inr (Or.inr rfl))
    (hd : (x == ("__debug__" : Str)) = false := by decide) (hcd : (x == ("__classdict__" : Str)) = false := by decide)
    (hbase : ∀ env, attributeBase (.Name x p0) "remove" env (eval (.Name x p0) env) = eval (.Name x p0) env := by intro _; rfl)
    (hfew : ∀ env, ((backTo cpos (starEach [e] env)).all (fun x => !x.1) && (backToKw cpos (keywordEach [] env)).all (fun x => x.1.isSome) && decide ([e].length + ([] : List Keyword).length + (if ([] : List Keyword).isEmpty then 0 else 1) < 30)) = true := by intro _; rfl)
    (hline : (apos.endLine == cpos.line) = true := by rfl) (hs : ∀ env, starEach [e] env = (false, eval e env) :: starEach [] env := by intro _; rfl) (hsw : ∀ env, swapsWith (.Call (.Attribute (.Name x p0) "remove" apos) [e] [] cpos) none spos.line env = pure false := by intro _; rfl) :
    JS S (.Expr (.Call (.Attribute (.Name x p0) "remove" apos) [e] [] cpos) spos) Γ (m.bind fun y => remM xs y) fun ys => .nx (Γ.set i (some (lstO (fun x => sh (intS x)) ys))) := fun σ W F sta z hz Ed k => by
  obtain ⟨y, h1, h2⟩ := run1 hz
  unfold remM at h2
  obtain ⟨j, j1, j2⟩ := run1 (f := fun j => some (xs.eraseIdx j)) h2
  cases j2
  obtain ⟨jl, j3, j4⟩ := List.findIdx?_eq_some_iff_getElem.mp j1
  refine ⟨tDrop (tBM S.K "list" rRemI (tVar i) (tCons (tOf S e) tNil)), fun X hX => ps_expr (hX.K ▸ pe_bm PySem.F.plainAttrs_list PySem.F.slot_list_remove PySem.F.type_list_remove mt_remove (pe_var (by rw [hX.N]; exact hN) (visS hv hX) hd hcd) (pa_cons (peO hX) pa_nil (hs _)) (hbase _) (hfew _) hline (hs _) rfl) (hsw _), ?_⟩
  obtain ⟨v, F1, F2, a1, a2, a3, a4⟩ := sta.hold.at hi
  obtain ⟨p, vs, G2, rfl, b2, rfl, b4⟩ := id a2
  refine ⟨.ref p, a1, .inl ⟨rfl, vs, .inl (.inl b2)⟩, h σ W F sta y h1 _ fun u W1 Fv ext fr fp r => ?_⟩
  obtain ⟨rfl, ru⟩ := r
  cases ru
  have sta1 := sta.ext ext
  obtain ⟨v', F1', F2', c1, c2, c3, c4⟩ := sta1.hold.at hi
  have ev : v' = .ref p := by rw [a1] at c1; exact (Option.some.inj (Option.some.inj c1)).symm
  subst ev
  obtain ⟨p', vs', G2', e1, d2, rfl, d4⟩ := c2
  cases e1
  have hB : W1.B p = none := (sta1.fp.perm c3).fr p (by simp)
  obtain ⟨rfl, d5⟩ := d4.each
  have ev := each_intsV d5
  subst ev
  refine ⟨p, xs, y, j, rfl, rfl, d2, ?_, fun m hm => ?_, ?_⟩
  · rw [List.getElem?_eq_getElem jl]
    have : (xs[j] == y) = true := j3
    rw [beq_iff_eq] at this
    rw [this]
  · have := j4 m hm
    rw [List.getElem?_eq_getElem (by omega)]
    intro z
    have := Option.some.inj z
    simp_all
  · have fpA : FpOk W1 [p] := (sta1.fp.perm c3).left
    have A4 : Owns (fun x => sh (intS x)) ⟨upd W1.H p (.lst ((xs.eraseIdx j).map V.int)), W1.B⟩ ((xs.eraseIdx j).map V.int) (xs.eraseIdx j) [] := by
      refine Owns.of_each (W := ⟨upd W1.H p (.lst ((xs.eraseIdx j).map V.int)), W1.B⟩) ?_
      have := d5.eraseIdx j
      rwa [L2.erase_mapI] at this
    obtain ⟨F', s', stp⟩ := sta_own (W' := ⟨upd W1.H p (.lst ((xs.eraseIdx j).map V.int)), W1.B⟩) (F1' := [p]) (o' := lstO (fun x => sh (intS x)) (xs.eraseIdx j)) [] sta1 (by rw [List.append_nil]; exact sta1.fp) c1 c3 c4 (wr_ok ext.ok hB) rfl (fun a ha _ => upd_ne fun z => ha (z ▸ List.mem_cons_self)) wr_al
      ⟨fpA.nd, fun a ha => wr_al a (fpA.al a ha), fpA.fr⟩ (fun a ha => .inl ha) ⟨p, _, [], rfl, upd_same, rfl, A4⟩
    rw [List.append_nil] at stp
    exact k σ _ F' Keep.refl (ext.stp0.trans stp) s'
end
end CC
set_option maxHeartbeats 4000000
/-! A walk over what a call that may raise returns. -/
namespace CC
open PySem PySem.Spec L2
open PyProof.Rows hiding St
variable {α β γ δ τ υ ω ρ ε : Type}
def JIX (S : Stc) (tg iter : Expr) (Γ : Ctx) (m : Option (Res ε (List α))) (E : α → SP) (Xp : ε → XP) : Prop :=
  ∀ σ W F, Sta Γ σ W F → ∀ r, m = some r → ∀ R : It → Hp → Prop, (match r with | .ok xs => ∀ J W', Ext W W' → ItOk J (fun W1 => Ex W1.B W1.H ∧ Ex W'.B W1.B) xs E → R J W'.H | .er e => ∀ c d W', Ext W W' → (Xp e).P W'.B c d → S.W c d σ W'.H) → tiOf S tg iter σ W.H R
section
variable {S : Stc} {Γ Δ : Ctx} {a b c e tg iter : Expr} {es : List Expr} {pos : Pos} {A : List Stmt}
theorem jix_tup {m : Option (Res ε (List α))} {E : α → SP} {Xp : ε → XP} (h : JNX S iter Γ m (fun xs => sh (tupS E xs)) Xp) : JIX S tg iter Γ m E Xp := fun σ W F st r hr R k => by
  refine ⟨iTup S.K (tOf S iter), fun X hX => hX.K ▸ pi_tup (peO hX), h σ W F st r hr _ ?_⟩
  cases r with
  | ok xs =>
    exact fun v W' Fv ext _ _ q => by
      obtain ⟨_, a, vs, rfl, h2, h3⟩ := q
      exact ⟨a, rfl, ⟨vs, .inl (.inl (ext.ok a _ h2))⟩, k _ W' ext (ok_tup fun W1 c => ⟨c.1, vs, c.1 a _ (c.2 a _ h2), h3.mono c.2⟩)⟩
  | er u => exact k
/-- only where it does not raise -/
theorem jn_part {m : Option (Res ε α)} {R : α → OP} {Xp : ε → XP} (h : JNX S e Γ m R Xp) : JN S e Γ (m.bind fun r => r.k (fun x => some x) fun _ => none) R := fun σ W F st x hx Q k => by
  obtain ⟨r, h1, h2⟩ := run1 hx
  cases r with
  | ok y =>
    cases h2
    exact h σ W F st (.ok x) h1 Q k
  | er u => cases h2
theorem js_forSX {mi : Option (Res ε (List α))} {E : α → SP} {up : α → Ctx → Ctx} {ws : List Nat} {Γl : τ → Ctx} {f : α → τ → Option τ} {Xp : ε → XP} (s0 : τ) (hi : JIX S tg iter Γ mi E Xp) (hg : JG S tg E up ws) (w : Weak Γ (Γl s0)) (hl : ∀ s, ∀ i ∈ ws, i < (Γl s).length)
    (hb : ∀ x s, JB S A (up x (Γl s)) (f x s) fun s' => .nx (Γl s')) (hs : ∀ env x, foldedSetIterable iter env x = pure x := by intro _ _; rfl) (hcm : S.calm = true := by rfl) : JS S (.For tg iter A [] pos) Γ (mi.bind fun r => r.k (fun xs => (foldGo f xs s0).bind fun s => some (Res.ok s)) fun e => some (Res.er e)) (XD Γl Γ Xp) := fun σ W F sta z hz Ed k => by
  obtain ⟨r, h1, h2⟩ := run1 hz
  cases r with
  | ok xs =>
    obtain ⟨s', h3, h4⟩ := run1 (f := fun s : τ => some (Res.ok (ε := ε) s)) h2
    cases h4
    have hi' : JI S tg iter Γ (mi.bind fun r => r.k (fun ys => some ys) fun _ => none) E := fun σ W F st ys hy R k => by
      rw [h1] at hy
      cases hy
      exact hi σ W F st (.ok xs) h1 R k
    exact js_forS (pos := pos) s0 hi' hg w hl hb hs hcm σ W F sta s' (by rw [h1]; exact h3) Ed k
  | er u =>
    cases h2
    exact ⟨tFor (tiOf S tg iter) (tgOf S tg) (tbOf S A), fun X hX => ps_for hX.pass (hX.calm.trans hcm) (piO hX) (pgO hX) (pbO hX) (hs _), hi σ W F sta (.er u) h1 _ fun c d W' ext hp => k c d σ W' F Keep.refl ext.stp0 (sta.ext ext) hp⟩
end
end CC
set_option maxHeartbeats 4000000
/-! list.extend with a tuple; slices with state. -/
namespace CC
open PySem PySem.Spec L2
open PyProof.Rows hiding St
variable {α β γ δ τ υ ω ρ ε : Type}
section
open PySem.AutoSeq1
theorem ext_tup (l : Addr) (items : Array Value) (n : Nat) (b : Addr) (items2 : Array Value) (n2 : Nat) (dc : Option Addr) (sl : Array (Option Value)) (hs0 : ¬(!items.isEmpty && Builtin.List.listTooLong (items.size + items2.size)) = true) (hs1 : items.size ≤ sizeLine) (hs2 : items.size + items2.size ≤ sizeLine + 1) :
    Meets (Builtin.«list.extend» ⟨[.ref l, .ref b], []⟩) (fun _ R s => s.heap.get? l = some { cls := .type "list", dict := none, data := .seq items n, slots := #[] } ∧ s.heap.get? b = some { cls := .type "tuple", dict := dc, data := .seq items2 n2, slots := sl } ∧ R (.ok (.ret Value.none)) { s with heap := s.heap.update l (Obj.mapSeq fun x => x ++ items2), toks := s.toks }) :=
  .of_wp fun prog w A R s h => by
    obtain ⟨hp, g, d, tk, os⟩ := s; obtain ⟨hl, hb, h⟩ := h; have f2 := AutoSeq1.sub_tuple_tuple; have f3 := AutoSeq1.sub_list_list; have f4 := AutoSeq1.sub_tuple_list; have f5 := AutoSeq1.sub_list_tuple
    have hz' : (items ++ items2).size ≤ sizeLine + 1 := by rw [Array.size_append]; exact hs2
    wp_walk using (wpAny_updateSeq hl rfl (hz := hs1) (_hz' := hz')), wpAny_loadPart' hl, wpAny_loadPart' hb; exact ⟨_, rfl, h⟩
end
def rExtT (K : PySem.W.Frag) : V → List V → Hp → VK → Prop := fun x vs H Q => ∃ l b xs zs, x = .ref l ∧ vs = [.ref b] ∧ H l = some (.lst xs) ∧ SqT K H b zs ∧ xs.length + zs.length ≤ sizeLine ∧ Q .non (upd H l (.lst (xs ++ zs)))
theorem mt_extT {X : Cx} : MtM X "list.extend" (rExtT X.K) := by
  intro pins s σ H x vs v us Q I rx rv h
  obtain ⟨l, b, xs, zs, rfl, rfl, hH, hB, hz, q⟩ := h
  cases rx
  obtain ⟨u, rfl, ru⟩ := rv.one
  cases ru
  obtain ⟨z, its, n, r, hl, e⟩ := I.lstM hH
  obtain ⟨its2, r2, ⟨o2, e2, hc2, n2, hd2⟩, _⟩ := I.tuple hB
  have hl2 := r2.length
  have hsz : its.toArray.size + its2.toArray.size ≤ sizeLine := by rw [List.size_toArray, List.size_toArray]; omega
  have hlong : ¬ (!its.toArray.isEmpty && Builtin.List.listTooLong (its.toArray.size + its2.toArray.size)) = true := by
    rw [notLongL hsz, Bool.and_false]
    exact Bool.false_ne_true
  obtain ⟨c2, dc, d2, sl⟩ := o2
  simp only at hc2 hd2
  subst hc2 hd2
  refine call_meets PySem.F.slot_list_extend ⟨_, e, rfl⟩ PySem.F.entry_list_extend (PySem.F.args_list_extend_2 _ _)
    (ext_tup l its.toArray n b its2.toArray n2 dc sl hlong (by rw [List.size_toArray]; omega) (by omega)) ⟨e, e2, ?_⟩
  refine ⟨.non, _, I.lset (its' := its ++ its2) hH e (by simp) (r.append r2) ?_, rfl, q⟩
  rw [List.length_append]
  omega
section
variable {S : Stc} {Γ : Ctx} {a b c e : Expr} {pos : Pos}
theorem js_extT {x : Str} {p0 apos cpos spos : Pos} {E : α → SP} {xs : List α} {m : Option (List α)} (i : Nat) (h : JN S e Γ m fun ys => sh (tupS E ys)) (hi : Γ[i]? = some (some (lstO (fun x => sh (E x)) xs)) := by rfl) (hN : S.N[i]? = some x := by rfl) (hv : Vis S.sc x := by first | exact Or.inl rfl | exact Or.inr (Or.inl rfl) | exact Or.inr (Or.inr rfl))
    (hd : (x == ("__debug__" : Str)) = false := by decide) (hcd : (x == ("__classdict__" : Str)) = false := by decide)
    (hbase : ∀ env, attributeBase (.Name x p0) "extend" env (eval (.Name x p0) env) = eval (.Name x p0) env := by intro _; rfl)
    (hfew : ∀ env, ((backTo cpos (starEach [e] env)).all (fun x => !x.1) && (backToKw cpos (keywordEach [] env)).all (fun x => x.1.isSome) && decide ([e].length + ([] : List Keyword).length + (if ([] : List Keyword).isEmpty then 0 else 1) < 30)) = true := by intro _; rfl)
    (hline : (apos.endLine == cpos.line) = true := by rfl) (hs : ∀ env, starEach [e] env = (false, eval e env) :: starEach [] env := by intro _; rfl) (hsw : ∀ env, swapsWith (.Call (.Attribute (.Name x p0) "extend" apos) [e] [] cpos) none spos.line env = pure false := by intro _; rfl) :
    JS S (.Expr (.Call (.Attribute (.Name x p0) "extend" apos) [e] [] cpos) spos) Γ (m.bind fun ys => catM xs ys) fun ys => .nx (Γ.set i (some (lstO (fun x => sh (E x)) ys))) := fun σ W F sta z hz Ed k => by
  obtain ⟨ys, h1, h2⟩ := run1 hz
  unfold catM at h2
  split at h2
  · rename_i hlen
    cases h2
    refine ⟨tDrop (tBM S.K "list" (rExtT S.K) (tVar i) (tCons (tOf S e) tNil)), fun X hX => ps_expr (hX.K ▸ pe_bm PySem.F.plainAttrs_list PySem.F.slot_list_extend PySem.F.type_list_extend mt_extT (pe_var (by rw [hX.N]; exact hN) (visS hv hX) hd hcd) (pa_cons (peO hX) pa_nil (hs _)) (hbase _) (hfew _) hline (hs _) rfl) (hsw _), ?_⟩
    obtain ⟨v, F1, F2, a1, a2, a3, a4⟩ := sta.hold.at hi
    obtain ⟨p, vs, G2, rfl, b2, rfl, b4⟩ := id a2
    refine ⟨.ref p, a1, .inl ⟨rfl, vs, .inl (.inl b2)⟩, h σ W F sta ys h1 _ fun u W1 Fv ext fr fp r => ?_⟩
    obtain ⟨rfl, q, us, rfl, r2, r3⟩ := r
    have sta1 := sta.ext ext
    obtain ⟨v', F1', F2', c1, c2, c3, c4⟩ := sta1.hold.at hi
    have ev : v' = .ref p := by rw [a1] at c1; exact (Option.some.inj (Option.some.inj c1)).symm
    subst ev
    obtain ⟨p', vs', G2', e1, d2, rfl, d4⟩ := c2
    cases e1
    have hB : W1.B p = none := (sta1.fp.perm c3).fr p (by simp)
    obtain ⟨rfl, d5⟩ := d4.each
    refine ⟨p, q, vs', us, rfl, rfl, d2, .inl (.inl (ext.ok q _ r2)), lim_le (by rw [d5.len, r3.len]; exact hlen), ?_⟩
    have fpA : FpOk W1 [p] := (sta1.fp.perm c3).left
    have A4 : Owns (fun x => sh (E x)) ⟨upd W1.H p (.lst (vs' ++ us)), W1.B⟩ (vs' ++ us) (xs ++ ys) [] :=
      Owns.of_each (W := ⟨upd W1.H p (.lst (vs' ++ us)), W1.B⟩) (d5.app r3)
    obtain ⟨F', s', stp⟩ := sta_own (W' := ⟨upd W1.H p (.lst (vs' ++ us)), W1.B⟩) (F1' := [p]) (o' := lstO (fun x => sh (E x)) (xs ++ ys)) [] sta1 (by rw [List.append_nil]; exact sta1.fp) c1 c3 c4 (wr_ok ext.ok hB) rfl (fun a ha _ => upd_ne fun z => ha (z ▸ List.mem_cons_self)) wr_al
      ⟨fpA.nd, fun a ha => wr_al a (fpA.al a ha), fpA.fr⟩ (fun a ha => .inl ha) ⟨p, _, [], rfl, upd_same, rfl, A4⟩
    rw [List.append_nil] at stp
    exact k σ _ F' Keep.refl (ext.stp0.trans stp) s'
  · cases h2
end
/-! ### a tuple turned round -/
section
variable {prog : Program} {w : World} {A : Around} {E : Value → Shared → Prop} {s : Shared}
theorem adjust_rev (n : Nat) : Builtin.Slice.sliceAdjust none none (-1) (n : Int) = ((n : Int) - 1, -1) := rfl
theorem places_rev (n : Nat) : Builtin.Slice.slicePlaces ((n : Int) - 1) (-1) (-1) = n := by
  unfold Builtin.Slice.slicePlaces
  rw [if_neg (by decide)]
  split
  · rw [show (-(-1 : Int)) = 1 by decide, Int.ediv_one]
    omega
  · omega
theorem sliceApplied_rev {sl : Addr} {vs : Value} {n : Nat} {Q : Int × Int × Nat → Shared → Prop} (hs : s.heap.IsSliceOf sl .none .none vs) (ps : IsPart vs (some (-1)))
    (h : Q ((n : Int) - 1, -1, n) s) : wpAny (model prog w) A (Builtin.Slice.sliceApplied (.ref sl) (pure (n : Int))) Q E s := by
  obtain ⟨os, hos, hcs, hds⟩ := id hs
  unfold Builtin.Slice.sliceApplied Builtin.Slice.sliceFields
  refine wpAny_bind (wpAny_bind (wpAny_field hos hds (x := .none) rfl (wpAny_bind (wpAny_field hos hds (x := .none) rfl (wpAny_bind (wpAny_field hos hds (x := vs) rfl (wpAny_pure ?_)))))))
  refine wpAny_bind (HT.slicePart_ ps ?_)
  show wpAny _ _ (if ((-1 : Int) == 0) = true then _ else _) _ _ s
  rw [if_neg (by decide)]
  refine wpAny_bind (slicePart_none (wpAny_bind (slicePart_none (wpAny_bind (wpAny_pure ?_)))))
  show wpAny _ _ (match Builtin.Slice.sliceAdjust none none (-1) (n : Int) with | (lo, hi) => pure (lo, (-1 : Int), Builtin.Slice.slicePlaces lo hi (-1))) _ _ s
  rw [adjust_rev n]
  show wpAny _ _ (pure ((n : Int) - 1, (-1 : Int), Builtin.Slice.slicePlaces ((n : Int) - 1) (-1) (-1))) _ _ s
  rw [places_rev]
  exact wpAny_pure h
theorem fm_congr {α β : Type} {f g : α → Option β} : ∀ {l : List α}, (∀ x ∈ l, f x = g x) → l.filterMap f = l.filterMap g
  | [], _ => rfl
  | x :: l, h => by
    rw [List.filterMap_cons, List.filterMap_cons, h x List.mem_cons_self, fm_congr fun y hy => h y (List.mem_cons_of_mem _ hy)]
theorem pick_rev (xs : Array Value) : ((List.range xs.size).filterMap fun (m : Nat) => xs[((xs.size : Int) - 1 + (m : Int) * (-1)).toNat]?).toArray = xs.toList.reverse.toArray := by
  congr 1
  have e := PySem.W.krv_all xs
  have e2 : xs.toList.reverse = ((List.range xs.size).reverse).filterMap (xs[·]?) := by rw [List.filterMap_reverse, e]
  rw [e2, ← PySem.W.krv_range, List.filterMap_map]
  refine fm_congr fun m hm => ?_
  have := List.mem_range.mp hm
  show _ = xs[xs.size - 1 - m]?
  congr 1
  omega
theorem getItem_tuple_rev {t sl : Addr} {items : Array Value} {vs : Value} {Q : Value → Shared → Prop} (ht : IsTup s.heap t items) (hs : s.heap.IsSliceOf sl .none .none vs) (ps : IsPart vs (some (-1)))
    (h : Q (.ref s.heap.objs.size) { s with heap := s.heap.push { cls := .type "tuple", data := .seq items.toList.reverse.toArray } })
    (hsz : items.size ≤ sizeLine) : wpAny (model prog w) A (getItem (.ref t) (.ref sl)) Q E s := by
  have htake : sizeOk (.seq items.toList.reverse.toArray) := by
    show items.toList.reverse.toArray.size ≤ sizeLine
    rw [List.size_toArray, List.length_reverse, Array.length_toList]
    exact hsz
  obtain ⟨os, hos, hcs, hds⟩ := id hs
  have hTs : s.TypeIs (.ref sl) "slice" := ⟨os, hos, hcs⟩
  unfold getItem
  try with_reducible refine wpAny_holding ?_
  first | refine wpAny_bind (wpAny_pure ?_) | skip
  refine wpAny_bind (wpAny_sequenceKey ht.typeIs (by decide) ?_)
  refine wpAny_bind (wpAny_callSpecial?_slot (name := Str.ofString "__getitem__") ht.typeIs PyProof.Rows.slot_tuple_getitem
    (wpAny_call_entry PyProof.Rows.slot_tuple_getitem ht.typeIs entry_tuple_getitem ?_ (args_tuple_getitem _ _)))
  show wpAny _ _ (Builtin.Tuple.tupleItemsOf (.ref t) >>= _) _ _ s
  refine wpAny_bind (tupleItemsOf_ ht ?_)
  refine wpAny_bind (wpAny_typeOf hTs ?_)
  rw [if_pos (by decide)]
  refine wpAny_bind (sliceApplied_rev hs ps ?_)
  have hno : ¬ ((((items.size : Int) - 1) == 0 && (-1 : Int) == 1 && items.size == items.size) = true) := by
    rw [show ((-1 : Int) == 1) = false from rfl, Bool.and_false, Bool.false_and]
    exact Bool.false_ne_true
  show wpAny _ _ (if (((items.size : Int) - 1) == 0 && (-1 : Int) == 1 && items.size == items.size) = true then _ else _) _ _ s
  rw [if_neg hno, pick_rev]
  first
    | exact wpAny_bind (m := Builtin.Tuple.tupleExact _) (wpAny_newObj_type (wpAny_pure ⟨_, rfl, wpAny_pure h⟩) htake)
    | exact wpAny_bind (m := Builtin.Tuple.tupleExact _) (wpAny_newObj_type (wpAny_bind (wpAny_pure (wpAny_pure ⟨_, rfl, wpAny_pure h⟩))) htake)
    | exact wpAny_bind (wpAny_bind (m := Builtin.Tuple.tupleExact _) (wpAny_newObj_type (wpAny_pure (wpAny_pure ⟨_, rfl, wpAny_pure h⟩)) htake))
    | exact wpAny_bind (wpAny_bind (m := Builtin.Tuple.tupleExact _) (wpAny_newObj_type (wpAny_pure ⟨_, rfl, wpAny_pure h⟩) htake))
end
def tRevT (K : PySem.W.Frag) (te : TE) : TE := fun σ H Q => te σ H fun x H1 => ∃ a xs, x = .ref a ∧ SqT K H1 a xs ∧ ∀ p, H1 p = none → Q (.ref p) (upd H1 p (.tup xs.reverse))
theorem pe_revT {X : Cx} {e : Expr} {te : TE} {k : Nat} {p1 p2 p3 pos : Pos} (he : PE X e te) : PE X (.Subscript e (.Slice none none (some (.UnaryOp .USub (.Constant (.int 1) k p1) p2)) p3) pos) (tRevT X.K te) := by
  refine ⟨fun pins s σ H Q I h => ?_⟩
  refine Subscript_ (thn (he.run pins s σ H _ I h) fun v s1 ⟨x, H1, I1, r1, q1⟩ => ?_)
  obtain ⟨a, xs, ex, hx, q⟩ := q1
  subst ex
  cases r1
  have hst : PO X (some (.UnaryOp .USub (.Constant (.int 1) k p1) p2)) (tPart (tUn (rU fun i => .int (-i)) (tC (.int 1)))) := po_some (pe_un un_neg pe_int)
  refine wpAny_Slice (thn (po_none.run pins s1 σ H1 (fun o H2 => o = none ∧ H2 = H1) I1 ⟨rfl, rfl⟩) fun vl s2 ⟨l, H2, I2, pl, el, e2⟩ => ?_)
  subst el e2
  refine thn (po_none.run pins s2 σ H2 (fun o H3 => o = none ∧ H3 = H2) I2 ⟨rfl, rfl⟩) fun vu s3 ⟨u, H3, I3, pu, eu, e3⟩ => ?_
  subst eu e3
  refine thn (hst.run pins s3 σ H3 (fun o H4 => o = some (-1) ∧ H4 = H3) I3 ⟨1, rfl, -1, rfl, rfl, rfl⟩) fun vs s4 ⟨o, H4, I4, ps, eo, e4⟩ => ?_
  subst eo e4
  have I5 : Inv X pins σ H4 { s4 with heap := s4.heap.push { cls := .type "slice", data := .fields #[vl, vu, vs] } } := I4.kept (t' := s4.toks) fun b ob q => Heap.get?_push_of_some _ q
  obtain ⟨its, r, ht, hz⟩ := I5.tuple hx
  have hlen := r.length
  cases pl
  cases pu
  show wpAny (model X.prog X.w) X.A (subscriptTail e (.Slice none none (some (.UnaryOp .USub (.Constant (.int 1) k p1) p2)) p3) (.ref a) (.ref s4.heap.objs.size)) (EP X pins σ Q) X.xe { s4 with heap := s4.heap.push { cls := .type "slice", data := .fields #[.none, .none, vs] } }
  refine tail_any (ops := [.ref a, .ref s4.heap.objs.size]) ht.typeIs (PyProof.Rows.slot_tuple_getitem.lookup) ?_ (by with_unfolding_all rfl)
  refine getItem_tuple_rev ht (Heap.IsSliceOf.new _ .none .none vs) ps ?_ (by rw [List.size_toArray]; omega)
  refine ⟨.ref _, _, I5.laid (t' := s4.toks) (o := .tup xs.reverse) (fun b ob q => Heap.get?_push_of_some _ q) (Nat.le_refl _) ?_, rfl, q _ (I5.hok.fresh (Nat.le_refl _))⟩
  exact ⟨by rw [List.length_reverse]; exact hz, _, r.reverse, IsTup.new _ _⟩
theorem jn_revT {S : Stc} {Γ : Ctx} {a : Expr} {pos : Pos} {E : α → SP} {m : Option (List α)} {k : Nat} {p1 p2 p3 : Pos} (h : JN S a Γ m fun x => sh (tupS E x)) : JN S (.Subscript a (.Slice none none (some (.UnaryOp .USub (.Constant (.int 1) k p1) p2)) p3) pos) Γ (m.bind fun xs => some xs.reverse) (fun x => sh (tupS E x)) := fun σ W F sta z hz Q kq => by
  obtain ⟨x, h1, h2⟩ := run1 hz
  cases h2
  refine ⟨tRevT S.K (tOf S a), fun X hX => hX.K ▸ pe_revT (peO hX), h σ W F sta x h1 _ fun v W' Fv ext _ _ r => ?_⟩
  obtain ⟨_, p, vs, rfl, q2, q3⟩ := r
  exact ⟨p, vs, rfl, .inl (.inl (ext.ok p _ q2)), (kq.ext ext).newT ext.ok q3.rev⟩
/-! ### slices -/
section
variable {S : Stc} {Γ : τ → Ctx} {s : τ} {a b c e : Expr} {pos : Pos}
def JOE (S : Stc) (o : Option Expr) (Γ : τ → Ctx) (s : τ) (m : Option (Option Int × τ)) : Prop :=
  ∀ σ W F, Sta (Γ s) σ W F → ∀ x, m = some x → ∀ Q : Option Int → Hp → Prop, (∀ W' F', Stp W F W' F' → Sta (Γ x.2) σ W' F' → Q x.1 W'.H) → toOf S o σ W.H Q
theorem joe_none : JOE S none Γ s (some (none, s)) := fun σ W F st x hx Q k => by
  cases hx
  exact ⟨tNoPart, fun _ _ => po_none, k W F (Stp.refl st.ok) st⟩
theorem joe_some {m : Option (Int × τ)} (h : JE S e Γ s m fun z => sh (intS z)) : JOE S (some e) Γ s (m.bind fun x => some (some x.1, x.2)) := fun σ W F st x hx Q k => by
  obtain ⟨y, h1, h2⟩ := run1 hx
  cases h2
  exact ⟨tPart (tOf S e), fun X hX => po_some (peO hX), h.sh st h1 fun v W' F' stp sa r => ⟨y.1, r, k W' F' stp sa⟩⟩
theorem je_slL {E : α → SP} {lo hi : Option Expr} {p2 : Pos} {ma : Option (List α × τ)} {ml mh : τ → Option (Option Int × τ)} (h : JE S a Γ s ma fun x => sh (lstS E x)) (hl : ∀ s1, JOE S lo Γ s1 (ml s1)) (hh : ∀ s1, JOE S hi Γ s1 (mh s1)) : JE S (.Subscript a (.Slice lo hi none p2) pos) Γ s (ma.bind fun p => (ml p.2).bind fun l => (mh l.2).bind fun u => some (cutL p.1 l.1 u.1, u.2)) (lstO fun x => sh (E x)) := fun σ W F sta z hz Q k => by
  obtain ⟨p, h1, h2⟩ := run1 hz
  obtain ⟨l, h3, h4⟩ := run1 (f := fun l : Option Int × τ => (mh l.2).bind fun u => some (cutL p.1 l.1 u.1, u.2)) h2
  obtain ⟨u, h5, h6⟩ := run1 (f := fun u : Option Int × τ => some (cutL p.1 l.1 u.1, u.2)) h4
  cases h6
  refine ⟨tSl (rSlL S.K) (tOf S a) (toOf S lo) (toOf S hi), fun X hX => hX.K ▸ pe_slice sl_list (peO hX) (poO hX) (poO hX), h.sh sta h1 fun v W1 F1 stp1 sa1 r => ?_⟩
  obtain ⟨q, vs, rfl, q2, q4⟩ := r
  refine hl p.2 σ W1 F1 sa1 l h3 _ fun W2 F2 stp2 sa2 => ?_
  refine hh l.2 σ W2 F2 sa2 u h5 _ fun W3 F3 stp3 sa3 => ?_
  have eb := stp2.b.trans stp3.b
  have kq : Got (lstO (fun x => sh (E x)) (cutL p.1 l.1 u.1)) W3 Q := fun t W4 Fv ext fr fp rr => k t W4 F3 Fv (((stp1.trans stp2).trans stp3).trans (ext.stp fr)) (sa3.ext ext) (sa3.fp.fresh ext fp fr) rr
  exact ⟨q, vs, rfl, .inl (.inl (sa3.ok q _ (eb q _ q2))), kq.newL sa3.ok (each_cut (q4.mono eb) l.1 u.1)⟩
theorem je_slT {E : α → SP} {lo hi : Option Expr} {p2 : Pos} {ma : Option (List α × τ)} {ml mh : τ → Option (Option Int × τ)} (h : JE S a Γ s ma fun x => sh (tupS E x)) (hl : ∀ s1, JOE S lo Γ s1 (ml s1)) (hh : ∀ s1, JOE S hi Γ s1 (mh s1)) : JE S (.Subscript a (.Slice lo hi none p2) pos) Γ s (ma.bind fun p => (ml p.2).bind fun l => (mh l.2).bind fun u => some (cutL p.1 l.1 u.1, u.2)) (fun x => sh (tupS E x)) := fun σ W F sta z hz Q k => by
  obtain ⟨p, h1, h2⟩ := run1 hz
  obtain ⟨l, h3, h4⟩ := run1 (f := fun l : Option Int × τ => (mh l.2).bind fun u => some (cutL p.1 l.1 u.1, u.2)) h2
  obtain ⟨u, h5, h6⟩ := run1 (f := fun u : Option Int × τ => some (cutL p.1 l.1 u.1, u.2)) h4
  cases h6
  refine ⟨tSl (rSlA S.K) (tOf S a) (toOf S lo) (toOf S hi), fun X hX => hX.K ▸ pe_slice sl_tupA (peO hX) (poO hX) (poO hX), h.sh sta h1 fun v W1 F1 stp1 sa1 r => ?_⟩
  obtain ⟨q, vs, rfl, q2, q4⟩ := r
  refine hl p.2 σ W1 F1 sa1 l h3 _ fun W2 F2 stp2 sa2 => ?_
  refine hh l.2 σ W2 F2 sa2 u h5 _ fun W3 F3 stp3 sa3 => ?_
  have eb := stp2.b.trans stp3.b
  have kq : Got (sh (tupS E (cutL p.1 l.1 u.1))) W3 Q := fun t W4 Fv ext fr fp rr => k t W4 F3 Fv (((stp1.trans stp2).trans stp3).trans (ext.stp fr)) (sa3.ext ext) (sa3.fp.fresh ext fp fr) rr
  have q2' := eb q _ q2
  have q4' := q4.mono eb
  refine ⟨q, vs, rfl, .inl (.inl (sa3.ok q _ q2')), fun hw => ?_, fun _ => kq.newT sa3.ok (each_cut q4' l.1 u.1)⟩
  rw [q4.len] at hw
  refine kq.val sa3.ok ?_
  rw [cutL_all hw]
  exact ⟨q, vs, rfl, q2', q4'⟩
end
end CC
set_option maxHeartbeats 4000000
/-! Targets of any number. -/
namespace CC
open PySem PySem.Spec L2
open PyProof.Rows hiding St
variable {α β γ δ τ υ ω ρ ε : Type}
section
variable {S : Stc} {e : Expr} {es : List Expr} {pos : Pos}
def tgsOf (S : Stc) (es : List Expr) (vs : List V) (σ : L2.St) (H : Hp) (Q : L2.St → Hp → Prop) : Prop := ∃ t : TGs, (∀ X, S.In X → PGs X es t) ∧ t vs σ H Q
def JGs (S : Stc) (es : List Expr) (G : α → List SP) (up : α → Ctx → Ctx) (ws : List Nat) : Prop :=
  ∀ Γ σ W F x vs, Sta Γ σ W F → (∀ i ∈ ws, i < Γ.length) → Hets W.B vs (G x) → ∀ Q : L2.St → Hp → Prop, (∀ σ' F', (∀ vs : List Nat, (∀ i ∈ ws, i ∈ vs) → wipe σ' vs = wipe σ vs) → Keep S.prot σ σ' → Sta (up x Γ) σ' W F' → (∀ a ∈ F', a ∈ F) → Q σ' W.H) → tgsOf S es vs σ W.H Q
theorem jgs_nil : JGs S [] (fun _ : Unit => []) (fun _ Γ => Γ) [] := fun Γ σ W F x vs st _ h Q k => by
  cases vs with
  | nil => exact ⟨gNil, fun _ _ => pgs_nil, rfl, k σ F (fun _ _ => rfl) Keep.refl st fun _ h => h⟩
  | cons _ _ => exact h.elim
theorem pgsO {X : Cx} (h : S.In X) : PGs X es (tgsOf S es) := ⟨fun pins s σ H vs us Q I r ⟨_, p, q⟩ => (p X h).run pins s σ H vs us Q I r q⟩
theorem jgs_cons {E : α → SP} {G : β → List SP} {up : α → Ctx → Ctx} {up2 : β → Ctx → Ctx} {ws ws2 : List Nat} (h : JG S e E up ws) (k : JGs S es G up2 ws2) (hlen : ∀ a Γ, (up a Γ).length = Γ.length := by intro _ _; simp)
    (hs : ∀ env, (assignEach (e :: es) env).map (·.2) = assign e env :: (assignEach es env).map (·.2) := by intro _; rfl) : JGs S (e :: es) (fun p : α × β => E p.1 :: G p.2) (fun p Γ => up2 p.2 (up p.1 Γ)) (ws ++ ws2) := fun Γ σ W F x vs st hl hh Q kk => by
  cases vs with
  | nil => exact hh.elim
  | cons v vs =>
    refine ⟨gCons (tgOf S e) (tgsOf S es), fun X hX => pgs_cons (pgO hX) (pgsO hX) (hs _), v, vs, rfl, ?_⟩
    refine h Γ σ W F x.1 v st (fun i hi => hl i (List.mem_append_left _ hi)) hh.1 _ fun σ1 F1 w1 k1 s1 sub1 => ?_
    refine k (up x.1 Γ) σ1 W F1 x.2 vs s1 (fun i hi => by rw [hlen]; exact hl i (List.mem_append_right _ hi)) hh.2 Q fun σ2 F2 w2 k2 s2 sub2 => ?_
    exact kk σ2 F2 (fun us hu => (w2 us fun i hi => hu i (List.mem_append_right _ hi)).trans (w1 us fun i hi => hu i (List.mem_append_left _ hi))) (k1.trans k2) s2 fun b hb => sub1 b (sub2 b hb)
theorem jg_tupN {P : γ → SP} {G : α → List SP} {up : α → Ctx → Ctx} {ws : List Nat} {n k : Nat} (g : γ → α) (h : JGs S es G up ws) (hP : ∀ y, P y = htupS (G (g y)) := by intro _; rfl) (hn : ∀ y, (G (g y)).length = n := by intro _; rfl)
    (hl : ∀ env, (assignEach es env).length = n := by intro _; rfl) (hst : ∀ env, (assignEach es env).findIdx? (·.1) = none := by intro _; rfl) (hcm : S.calm = true := by rfl) : JG S (.Tuple es k pos) P (fun y Γ => up (g y) Γ) ws := fun Γ σ W F q v st hi hh Q kk => by
  rw [hP] at hh
  obtain ⟨a, vs, rfl, h2, h3⟩ := hh
  have hlen : vs.length = n := by rw [← hn q]; exact h3.len
  refine ⟨gTup S.K n (tgsOf S es), fun X hX => hX.K ▸ pg_tup (hX.calm.trans hcm) (pgsO hX) (hl _) (hst _), a, vs, rfl, .inl (.inl (st.ok a _ h2)), hlen, ?_⟩
  exact h Γ σ W F (g q) vs st hi h3 Q kk
end
end CC
set_option maxHeartbeats 4000000
/-! An own exception whose __init__ says super().__init__(text), then stores attributes. -/
namespace CC
open PySem PySem.Spec L2
open PyProof.Rows hiding St
open PySem.W (kxs_mw)
/-- what is told of such a class -/
structure SupK (P : Program) (K : PySem.W.Frag) (C cc cda : Addr) : Prop where
  cd : ∃ cd, PySem.W.clsIn K C = some cd ∧ PySem.W.alongIn K "__init__" ((cd.mro.dropWhile (· != .ref C)).drop 1) = some (some (.builtin "ValueError.__init__"))
  sub : PySem.W.mroIn K C (.ref C) = some true
  ve : PySem.W.subIn K (.ref C) (.type "ValueError") = some true
  cell : ∃ cl cld csl, K.lookup cc = some ⟨cl, cld, .cell (some (.ref C)), csl⟩
  code : ∃ ccl cdd vs ccs file tf, K.lookup cda = some ⟨ccl, cdd, .fields vs, ccs⟩ ∧ vs[2]? = some (.str file tf) ∧ ((P.main.file : Str) == file) = true
  any : PySem.W.nsIn K cStatics "thirdparty.any" = some none
  top : (P.main.scope.names.lookup ("super" : Str)).isSome = false
section
variable {X : Cx} {pins : List (Addr × Obj)} {σ : L2.St} {H : Hp} {s : Shared} {a C cc cda fI u : Addr} {E : Value → Shared → Prop} {A : Around}
/-- ValueError.__init__ bound to an exception, called -/
theorem call_mw {us : List Value} {Q : Value → Shared → Prop} (T : OexC X.K C) (I : Inv X pins σ H s) (e : H a = some (exo a C none)) (hu : s.heap.get? u = some (kxs_mw "ValueError.__init__" a)) (hl : us.length ≤ sizeLine) (h : ∀ s', Inv X pins σ H s' → Q .none s') :
    wpAny (model X.prog X.w) A (call (.ref u) us) Q E s := by
  obtain ⟨nm, q, N, bs, bm, sn, sub, ab, col, dd, k0, k1, k2, k3, k5, hC, hbm⟩ := T.cls
  obtain ⟨t1, ho⟩ := exo_at I.hok e
  obtain ⟨hp, g, d, t, os⟩ := s
  have FB := F.excBase_ValueError
  refine wpAny_call (codeAny_of_tree ?_)
  show wpAny _ A.in1 (callAny (.ref u) ⟨us, []⟩) _ _ _
  simp only [callAny]
  refine wpAny_bind (wpAny_load hu ?_)
  simp only [kxs_mw, show (Value.type "method-wrapper" == Value.type "method" || Value.type "method-wrapper" == Value.type "builtin_function_or_method" || Value.type "method-wrapper" == Value.type "method-wrapper") = true by decide, if_true]
  refine PySem.W.KFB.if_so (by decide) ?_
  refine wpAny_bind (PySem.W.check_bound_init FB.toExcCallFacts (I.kIn _ _ hC) ho rfl ?_)
  refine wpAny_bind (wpAny_pure (wpAny_pure ?_))
  refine ⟨plainId_quiet FB.init.plain _, codeAny_builtin FB.initEntry ?_⟩
  refine PySem.W.exc_init_tree (cls := .ref C) (t0 := t1) (dv := none) (c2 := .none) (c3 := .none) (b4 := .bool false) ho hl fun h' k hx _ => ?_
  have J := I.write (t' := t) (x := a) (e := a) (o := exo a C none) (by rw [e]; exact True.intro) (.inl rfl) k ⟨_, hx⟩ (exo_ok hx)
  have eu : upd H a (exo a C none) = H := by
    funext b
    by_cases hb : b = a
    · rw [hb, upd_same, e]
    · rw [upd_ne hb]
  rw [eu] at J
  exact h _ J
theorem exo_inst {t1 : Addr} {h : Heap} (ho : h.get? a = some ({ cls := .ref C, dict := none, data := .fields #[.ref t1, .none, .none, .none, .bool false, .none] } : Obj)) : PySem.W.InstAt h a ({ cls := .ref C, dict := none, data := .fields #[.ref t1, .none, .none, .none, .bool false, .none] } : Obj) C none := ⟨ho, rfl, rfl, trivial⟩
/-- super() in its __init__ -/
theorem sup_node {qual attr : Str} {scope : Scope} {L : Addr} {whole : Sem Value} {body : List Stmt} {p0 p1 : Pos} {oc : Value} {od : Option Addr} {osl : Array (Option Value)} {fd : FuncData} {ar : Arg} {Q : Value → Shared → Prop} (I : Inv X pins σ H s) (T : OexC X.K C) (SK : SupK X.prog X.K C cc cda) (henv : X.env = PySem.W.envX qual scope L fI (.ref cda) [("__class__", cc)])
    (lkf : X.K.lookup fI = some ⟨oc, od, .func fd, osl⟩) (hp : (fd.params.posonlyargs ++ fd.params.args).head? = some ar) (hN : X.N[0]? = some ar.arg) (hs0 : σ[0]? = some (some (.ref a))) (ea : H a = some (exo a C none)) (hms : X.mg "super" = none)
    (hat : (attr == ("__class__" : Str)) = false) (hks : scope.names.lookup ("super" : Str) = some .globalImplicit) (hkc : scope.names.lookup ("__class__" : Str) = some .free) (hka : scope.names.lookup ar.arg = some .local)
    (h : ∀ so s', Inv X pins σ H s' → s'.heap.get? so = some (PySem.W.ks_superObj C a C) → (∀ b o, s.heap.get? b = some o → s'.heap.get? b = some o) → Q (.ref so) s') :
    _root_.PySem.wpAt (model X.prog X.w) X.A (.func body X.env) (attributeBase (.Call (.Name "super" p0) [] [] p1) attr X.env whole) Q E s := by
  have KX := I.kIn
  obtain ⟨mb, b1, b2⟩ := I.mod.blt
  have hk : scope.kind = .function := by
    have := I.ok.kind
    rw [henv] at this
    exact this
  obtain ⟨cd, hcd, hal⟩ := SK.cd
  obtain ⟨cl, cld, csl, hcell⟩ := SK.cell
  obtain ⟨ccl, cdd, vs, ccs, file, tf, hcode, hvs, hfile⟩ := SK.code
  obtain ⟨t1, ho⟩ := exo_at I.hok ea
  obtain ⟨oD, hD1, hD2⟩ : ∃ oD, s.heap.get? C = some oD ∧ oD.data = .cls cd := by
    unfold PySem.W.clsIn at hcd
    split at hcd
    · rename_i c d cd' sl ho'
      cases hcd
      exact ⟨_, KX _ _ ho', rfl⟩
    · cases hcd
  obtain ⟨m, hn, hl⟩ := I.loc
  have hvis : Vis X.env.scope ar.arg := by rw [henv]; exact .inl hka
  obtain ⟨u0, r0, l0⟩ := hl 0 ar.arg (.ref a) hN hs0 hvis
  have r0 : u0 = .ref a := r0
  subst r0
  have hm : m ar.arg = some (.ref a) := by
    rcases l0 with ⟨_, hm⟩ | ⟨hk', _⟩
    · exact hm
    · rw [henv] at hk'
      have hk' : scope.names.lookup ar.arg = some .cell ∨ scope.names.lookup ar.arg = some .free := hk'
      rw [hka] at hk'
      rcases hk' with z | z <;> cases z
  have G := I.mod.glob.keeps I.bk
  have B := b1.keeps I.bk
  have hgl := I.ok.glob
  have hbl := I.ok.blt
  rw [henv] at hn ⊢
  have hI := I
  obtain ⟨hh, g, d, t, os⟩ := s
  refine PySem.ks_wpAt_super_base (env := PySem.W.envX qual scope L fI (.ref cda) [("__class__", cc)]) hks hkc hat rfl (KX _ _ lkf) rfl hp rfl (KX _ _ hcode) rfl hvs hfile SK.top ?_
  refine PySem.W.ks_loadName_global hk hks (Calls.loadGlobal_builtin (env := PySem.W.envX qual scope L fI (.ref cda) [("__class__", cc)]) G hms B ((b2 _ (by decide +kernel)).trans (by decide +kernel)) ⟨rfl, ?_⟩)
  refine wpAny_loadName_free hk hkc rfl ⟨_, KX _ _ hcell, rfl⟩ ?_
  refine wpAny_loadName_local hk hka hn hm ?_
  refine PySem.ks_wpAny_isType_cls hD1 hD2 ⟨rfl, ?_⟩
  refine PySem.ks_wpAny_call_super hD1 hD2 ho rfl (fun c e => nomatch e) (PySem.W.looks_mroIn KX SK.sub) (fun h' e k => ?_)
  exact h _ _ (hI.kept k) e k
theorem Inv.pinned {q : Addr} {o : Obj} (I : Inv X pins σ H s) (hq : s.heap.get? q = some o) (hn : H q = none) (hl : q ≠ X.env.locals) (hf : q ∉ X.fs) (hc : ∀ v, o.data ≠ .cell v) : Inv X ((q, o) :: pins) σ H s :=
  have key : ∀ p ∈ X.pn ++ (q, o) :: pins, s.heap.get? p.1 = some p.2 ∧ H p.1 = none ∧ p.1 ≠ X.env.locals ∧ p.1 ∉ X.fs ∧ ∀ v, p.2.data ≠ .cell v := fun p hp => by
    rcases List.mem_append.mp hp with hp | hp
    · exact I.pin p (List.mem_append_left _ hp)
    · rcases List.mem_cons.mp hp with rfl | hp
      · exact ⟨hq, hn, hl, hf, hc⟩
      · exact I.pin p (List.mem_append_right _ hp)
  ⟨I.ok, I.os, I.bare, I.base, I.loc, I.cell, I.free, I.freeC, key, I.hok, I.len⟩
theorem Inv.unpin {p0 : Addr × Obj} (I : Inv X (p0 :: pins) σ H s) : Inv X pins σ H s :=
  have key : ∀ p ∈ X.pn ++ pins, s.heap.get? p.1 = some p.2 ∧ H p.1 = none ∧ p.1 ≠ X.env.locals ∧ p.1 ∉ X.fs ∧ ∀ v, p.2.data ≠ .cell v := fun p hp => I.pin p (by
    rcases List.mem_append.mp hp with hp | hp
    · exact List.mem_append_left _ hp
    · exact List.mem_append_right _ (List.mem_cons_of_mem _ hp))
  ⟨I.ok, I.os, I.bare, I.base, I.loc, I.cell, I.free, I.freeC, key, I.hok, I.len⟩
/-- super().__init__(text) -/
theorem sup_stmt {qual z : Str} {scope : Scope} {L : Addr} {body : List Stmt} {p0 p1 apos cp cpos spos : Pos} {ck : Nat} {oc : Value} {od : Option Addr} {osl : Array (Option Value)} {fd : FuncData} {ar : Arg} (I : Inv X pins σ H s) (T : OexC X.K C) (SK : SupK X.prog X.K C cc cda) (henv : X.env = PySem.W.envX qual scope L fI (.ref cda) [("__class__", cc)])
    (lkf : X.K.lookup fI = some ⟨oc, od, .func fd, osl⟩) (hp : (fd.params.posonlyargs ++ fd.params.args).head? = some ar) (hN : X.N[0]? = some ar.arg) (hs0 : σ[0]? = some (some (.ref a))) (ea : H a = some (exo a C none)) (hms : X.mg "super" = none)
    (hks : scope.names.lookup ("super" : Str) = some .globalImplicit) (hkc : scope.names.lookup ("__class__" : Str) = some .free) (hka : scope.names.lookup ar.arg = some .local)
    (hsw : swapsWith (.Call (.Attribute (.Call (.Name "super" p0) [] [] p1) "__init__" apos) [.Constant (.str z) ck cp] [] cpos) none spos.line X.env = pure false)
    (he : ∃ pl, eval (.Call (.Attribute (.Call (.Name "super" p0) [] [] p1) "__init__" apos) [.Constant (.str z) ck cp] [] cpos) X.env = (do
      let ov ← attributeBase (.Call (.Name "super" p0) [] [] p1) "__init__" X.env (eval (.Call (.Name "super" p0) [] [] p1) X.env)
      standAt apos.atName
      let (f, first) ← holding [ov] (getMethod ov "__init__" pl)
      callWith cpos f first (backTo cpos (starEach [.Constant (.str z) ck cp] X.env)) []))
    (hst : starEach [.Constant (.str z) ck cp] X.env = (false, eval (.Constant (.str z) ck cp) X.env) :: starEach [] X.env) :
    _root_.PySem.wpAt (model X.prog X.w) X.A (.func body X.env) (exec (.Expr (.Call (.Attribute (.Call (.Name "super" p0) [] [] p1) "__init__" apos) [.Constant (.str z) ck cp] [] cpos) spos) X.env) (fun fl s' => fl = .next ∧ Inv X pins σ H s') X.xe s := by
  obtain ⟨pl, he⟩ := he
  obtain ⟨cd, hcd, hal⟩ := SK.cd
  refine PySem.ks_wpAt_Expr_any (Q := fun fl s' => fl = .next ∧ Inv X pins σ H s') ?_ I.quiet hsw
  refine PySem.ks_wpAt_MethodCall (pl := pl) ?_ he
  refine sup_node I T SK henv lkf hp hN hs0 ea hms rfl hks hkc hka fun so s' I1 hso k1 => ?_
  have KX := I1.kIn
  obtain ⟨t1, ho⟩ := exo_at I1.hok ea
  have IA := exo_inst ho
  have hll := I1.lt
  have hfr := I1.hok.fresh (Nat.le_refl _)
  have hnf := I1.nofs (Nat.le_refl _)
  have I2 := I1
  obtain ⟨hh, g, d, t, os⟩ := s'
  refine PySem.W.kxs_getMethod PySem.W.kxs_ValueError hso (PySem.W.looks_opaque KX SK.any) (l₀ := cd.mro) ?_ rfl KX hal (IA.type.andThen (PySem.W.looks_subIn KX SK.ve)) (PySem.W.ks_ne KX IA hcd) rfl ?_
  · exact fun A Q E s k q => wpAny_bind ((PySem.W.looks_clsIn KX hcd) A _ E s k (wpAny_pure q))
  · have gq : (hh.push (kxs_mw "ValueError.__init__" a)).get? hh.objs.size = some (kxs_mw "ValueError.__init__" a) := Heap.get?_push_at rfl rfl
    have I3 : Inv X pins σ H ⟨hh.push (kxs_mw "ValueError.__init__" a), g, d, t + 1, os⟩ := I2.kept (t' := t + 1) fun b o q => Heap.get?_push_of_some _ q
    have I4 := Inv.pinned I3 (q := hh.objs.size) (o := kxs_mw "ValueError.__init__" a) gq hfr (fun z => by rw [← z] at hll; exact Nat.lt_irrefl _ hll) hnf (fun v z => nomatch z)
    have ha : PA X [.Constant (.str z) ck cp] (tCons (tC (.str z)) tNil) := pa_cons pe_str pa_nil hst
    rw [hst]
    refine PySem.W.kxs_callWith (i := "ValueError.__init__") (x := a) rfl (PySem.Calls.evalArgs_plain ?_)
    have hr := ha.run cpos _ _ σ H (fun vs H1 => vs = [.str z] ∧ H1 = H) I4 ⟨rfl, rfl⟩
    rw [hst] at hr
    refine thn hr fun us s2 ⟨vs, H1, I5, r1, hv, hH⟩ => ?_
    subst hH
    have hq5 := (I5.pin (hh.objs.size, kxs_mw "ValueError.__init__" a) (List.mem_append_right _ List.mem_cons_self)).1
    refine ⟨hq5, ?_⟩
    refine call_mw T I5 ea hq5 (by show us.length ≤ sizeLine; rw [← Paired.length r1, hv, sizeLine_eq]; show 1 ≤ _; omega) fun s3 J => ⟨rfl, Inv.unpin J⟩
end
open NdefX (NScope CellsAt NF envF startF ncx inv_startN) in
/-- such an __init__ as a def -/
theorem fnok_sup {CX : CXT} {P : Program} {w : World} {K : PySem.W.Frag} {mg : Str → Option Value} {base : Heap} {k : Nat} {C cc cda fI : Addr} {name qual z : Str} {params : Arguments} {rest : List Stmt} {scope : Scope} {dV kV doc pm ct oc : Value} {an od : Option Addr} {osl : Array (Option Value)} {N ps : List Str} {sp : Sp} {p0 p1 apos cp cpos spos : Pos} {ck : Nat} {ar : Arg}
    (lk : K.lookup fI = some ⟨oc, od, .func (PySem.W.fnX name qual params (.Expr (.Call (.Attribute (.Call (.Name "super" p0) [] [] p1) "__init__" apos) [.Constant (.str z) ck cp] [] cpos) spos :: rest) scope [("__class__", cc)] dV kV doc pm an (.ref cda) ct), osl⟩)
    (hcd : PySem.W.codeIn K (.ref cda) qual = true) (S : NScope N ps ["__class__"] scope) (T : OexC K C) (SK : SupK P K C cc cda) (hms : mg "super" = none) (hp : (params.posonlyargs ++ params.args).head? = some ar) (hN : N[0]? = some ar.arg) (hps : ps[0]? = some ar.arg)
    (hks : scope.names.lookup ("super" : Str) = some .globalImplicit)
    (len : ∀ vs H Q E, sp vs H Q E → vs.length = ps.length) (self : ∀ vs H Q E, sp vs H Q E → ∃ a, vs[0]? = some (.ref a) ∧ H a = some (exo a C none))
    (hsw : ∀ env, swapsWith (.Call (.Attribute (.Call (.Name "super" p0) [] [] p1) "__init__" apos) [.Constant (.str z) ck cp] [] cpos) none spos.line env = pure false)
    (he : ∀ env, ∃ pl, eval (.Call (.Attribute (.Call (.Name "super" p0) [] [] p1) "__init__" apos) [.Constant (.str z) ck cp] [] cpos) env = (do
      let ov ← attributeBase (.Call (.Name "super" p0) [] [] p1) "__init__" env (eval (.Call (.Name "super" p0) [] [] p1) env)
      standAt apos.atName
      let (f, first) ← holding [ov] (getMethod ov "__init__" pl)
      callWith cpos f first (backTo cpos (starEach [.Constant (.str z) ck cp] env)) []))
    (hst : ∀ env, starEach [.Constant (.str z) ck cp] env = (false, eval (.Constant (.str z) ck cp) env) :: starEach [] env)
    (hbody : ∀ (X : Cx), X.prog = P → X.K = K → X.N = N → X.env.scope = scope → ∀ (vs : List V) (H : Hp) (Q : VK) (E : XK), sp vs H Q E → ∃ t, PSs X rest t ∧ t { nx := fun _ H' => Q .non H', rt := Q } (startF N vs [none]) H) :
    FnOk P w K mg base CX (k + 1) fI (PySem.W.fnX name qual params (.Expr (.Call (.Attribute (.Call (.Name "super" p0) [] [] p1) "__init__" apos) [.Constant (.str z) ck cp] [] cpos) spos :: rest) scope [("__class__", cc)] dV kV doc pm an (.ref cda) ct) ps sp := by
  refine ⟨len, fun A outer s H args us vs Q E hr e0 hb r hsp => ?_⟩
  have hl := len _ _ _ _ hsp
  have KB := e0.mod.kin
  have KX : K.In s.heap := KB.keeps fun b o e => (e0.bs b o e).1
  have lim : s.heap.NoLimit := e0.mod.nolimit.keeps fun b o e => (e0.bs b o e).1
  obtain ⟨cl, cld, csl, hcell⟩ := SK.cell
  obtain ⟨hc1, hc2⟩ := e0.bs _ _ (KB _ _ hcell)
  have CA : CellsAt [(("__class__" : Str), cc)] ["__class__"] [none] s.heap H := by
    refine ⟨rfl, fun y c e => ?_, fun x y c h1 h2 => ?_, fun i y hy => ?_⟩
    · simp only [List.lookup] at e
      split at e
      · cases e
        exact ⟨hc2, _, _, hc1, rfl⟩
      · cases e
    · have e1 : x = ("__class__" : Str) := by
        simp only [List.lookup] at h1
        split at h1
        · rename_i q
          exact beq_iff_eq.mp q
        · cases h1
      have e2 : y = ("__class__" : Str) := by
        simp only [List.lookup] at h2
        split at h2
        · rename_i q
          exact beq_iff_eq.mp q
        · cases h2
      rw [e1, e2]
    · cases i with
      | zero =>
        have e : ("__class__" : Str) = y := Option.some.inj hy
        subst e
        exact ⟨cc, by simp [List.lookup], fun v hv => by cases hv⟩
      | succ i => cases hy
  let F : NF := ⟨name, qual, params, .Expr (.Call (.Attribute (.Call (.Name "super" p0) [] [] p1) "__init__" apos) [.Constant (.str z) ck cp] [] cpos) spos :: rest, scope, [("__class__", cc)], cda⟩
  refine codeAny_call_function hr.depth (KX _ _ lk) rfl S.co S.gen rfl (PySem.W.codeRec_of KX hcd) (hb _ _ _ _ ?_)
  refine wpAny_newFunctionEnv S.nocell (fun ⟨n, _⟩ hy => S.par n (List.of_mem_zip hy).1) (fun h₁ hns hsb => ⟨lim.fresh _ hsb, ?_⟩) S.kind
  show codeAny _ _ (.func F.body (envF F fI s.heap.objs.size)) _ _
  refine PySem.ks_codeAny_funcAt ?_
  have kp : ∀ b o, s.heap.get? b = some o → h₁.get? b = some o := fun b o e => hsb.extBut b o (Nat.ne_of_lt (Heap.lt_size e)) (Heap.get?_push_of_some _ e)
  have I : Inv (ncx CX P w K mg base N F fI A outer s H E) [] (startF N vs [none]) H { s with heap := h₁, toks := s.toks + (ps.zip us).length } := inv_startN (F := F) S hr.hd e0 hl r CA hns kp
  obtain ⟨a, ha1, ha2⟩ := self _ _ _ _ hsp
  have h0 : (startF N vs [none])[0]? = some (some (.ref a)) := by
    unfold startF
    cases vs with
    | nil => cases ha1
    | cons v vs =>
      have : v = .ref a := Option.some.inj ha1
      rw [this]
      rfl
  have hka : scope.names.lookup ar.arg = some .local := S.par _ (List.mem_of_getElem? hps)
  have hkc : scope.names.lookup ("__class__" : Str) = some .free := S.frk _ List.mem_cons_self
  obtain ⟨t, ht, hq⟩ := hbody (ncx CX P w K mg base N F fI A outer s H E) rfl rfl rfl rfl vs H Q E hsp
  refine PySem.ks_wpAt_execs_cons (PySem.ks_wpAt_mono (sup_stmt (X := ncx CX P w K mg base N F fI A outer s H E) I T SK rfl lk hp hN h0 ha2 hms hks hkc hka (hsw _) (he _) (hst _)) (fun fl s' hf => ?_) fun _ _ y => y)
  obtain ⟨rfl, J⟩ := hf
  refine wpAt_of_wpAny (wpAny_mono (ht.run [] _ (startF N vs [none]) H _ J hq) (fun fl s2 hs => ?_) fun e s' hs => hs)
  have fin : ∀ {σ' : L2.St} {H' : Hp} {v : V} {u : Value}, Inv (ncx CX P w K mg base N F fI A outer s H E) [] σ' H' s2 → L2.RelV v u → Q v H' → CE outer P w H s Q u s2 :=
    fun {σ' H' v u} J rv q => ⟨v, H', J.os, J.bare, J.base, J.hok, rv, q⟩
  cases fl with
  | ret u =>
    obtain ⟨v, σ', H', J, rv, q⟩ := hs
    exact fin J rv q
  | next =>
    obtain ⟨σ', H', J, q⟩ := hs
    exact fin (v := V.non) (u := Value.none) J rfl q
  | brk =>
    obtain ⟨_, _, _, q⟩ := hs
    exact False.elim q
  | cont =>
    obtain ⟨_, _, _, q⟩ := hs
    exact False.elim q
end CC
set_option maxHeartbeats 4000000
/-! Exceptions with an attribute: what the top tells, raising, reading. -/
namespace CC
open PySem PySem.Spec L2
open PyProof.Rows hiding St
variable {α β γ δ τ υ ω ρ ε : Type}
structure SupD where
  x : Str
  qual : Str
  params : Arguments
  body : List Stmt
  scope : Scope
abbrev SupW : Type := Option (Str × Str × Arguments × FuncBody × Scope × Addr × List Str × Addr)
abbrev iAd (K : PySem.W.Frag) (x : Str) : Addr := He.ma K (He.ga K x) "__init__"
def supW (K : PySem.W.Frag) (x : Str) : SupW := match K.lookup (iAd K x) with
  | some ⟨_, _, .func fd, _⟩ => some (fd.name, fd.qualname, fd.params, fd.body, fd.scope, fd.globals, fd.closure.map (·.1), fd.builtins)
  | _ => none
def SupD.val (d : SupD) : SupW := some ("__init__", d.qual, d.params, .stmts d.body, d.scope, mainGlobals, ["__class__"], builtinsNs)
def oexB (K : PySem.W.Frag) (C : Addr) : Bool := match K.lookup C with
  | some ⟨.type t, _, .cls cd, sl⟩ => decide (t = "type") && (match cd.mro, sl.toList with
    | .ref C' :: bm, [_, _, _, _, some (.builtin n), _] => decide (C' = C) && (decide (n = "ValueError.__new__") && (!cd.hasDel && (cd.hasDict && PySem.HandSPX.refsVE bm)))
    | _, _ => false)
  | _ => false
theorem oexB_ok {K : PySem.W.Frag} {C : Addr} (h : oexB K C = true) : ∃ nm q N bs bm sn sub ab col dd k0 k1 k2 k3 k5, K.lookup C = some (excClassObj nm q C N bs bm true sn sub ab col dd k0 k1 k2 k3 k5 "ValueError.__new__") ∧ PySem.HandSPX.refsVE bm = true := by
  unfold oexB at h
  split at h
  · rename_i t dd cd sl ho
    obtain ⟨h1, h2⟩ := Bool.and_eq_true_iff.mp h
    have h1 := of_decide_eq_true h1
    subst h1
    obtain ⟨nm, bs, mro, ns, qn, hd, sn, sb, ab, col, del⟩ := cd
    split at h2
    · rename_i C' bm k0 k1 k2 k3 n k5 e1 e2
      dsimp only at e1
      subst e1
      obtain ⟨a1, h3⟩ := Bool.and_eq_true_iff.mp h2
      obtain ⟨a2, h4⟩ := Bool.and_eq_true_iff.mp h3
      obtain ⟨a3, h5⟩ := Bool.and_eq_true_iff.mp h4
      obtain ⟨a4, a5⟩ := Bool.and_eq_true_iff.mp h5
      have a1 := of_decide_eq_true a1
      have a2 := of_decide_eq_true a2
      dsimp only at a3 a4
      rw [Bool.not_eq_true'] at a3
      subst a1 a2 a3 a4
      have e3 : sl = #[k0, k1, k2, k3, some (.builtin "ValueError.__new__"), k5] := by
        apply Array.toList_inj.mp
        rw [e2]
      subst e3
      exact ⟨nm, qn, ns, bs, bm, sn, sb, ab, col, dd, k0, k1, k2, k3, k5, ho, a5⟩
    · cases h2
  · cases h
/-- SupK without the program -/
structure SupC (K : PySem.W.Frag) (fl : Str) (C cc cda : Addr) : Prop where
  cd : ∃ cd, PySem.W.clsIn K C = some cd ∧ PySem.W.alongIn K "__init__" ((cd.mro.dropWhile (· != .ref C)).drop 1) = some (some (.builtin "ValueError.__init__"))
  sub : PySem.W.mroIn K C (.ref C) = some true
  ve : PySem.W.subIn K (.ref C) (.type "ValueError") = some true
  cell : ∃ cl cld csl, K.lookup cc = some ⟨cl, cld, .cell (some (.ref C)), csl⟩
  code : ∃ ccl cdd vs ccs tf, K.lookup cda = some ⟨ccl, cdd, .fields vs, ccs⟩ ∧ vs[2]? = some (.str fl tf)
  any : PySem.W.nsIn K cStatics "thirdparty.any" = some none
/-- what is asked of the program -/
structure PF (P : Program) (fl : Str) : Prop where
  file : ((P.main.file : Str) == fl) = true
  top : (P.main.scope.names.lookup ("super" : Str)).isSome = false
theorem SupC.k {P : Program} {K : PySem.W.Frag} {fl : Str} {C cc cda : Addr} (h : SupC K fl C cc cda) (p : PF P fl) : SupK P K C cc cda := by
  obtain ⟨a, b, c, d, e, hc, hv⟩ := h.code
  exact ⟨h.cd, h.sub, h.ve, h.cell, ⟨a, b, c, d, fl, e, hc, hv, p.file⟩, h.any, p.top⟩
def tSup (fl : Str) (d : SupD) (K : PySem.W.Frag) : Bool :=
  oexB K (He.ga K d.x) && (decide (PySem.W.findIn K (.ref (He.ga K d.x)) "__setattr__" = some (some (.builtin "object.__setattr__"))) && (decide (PySem.W.subIn K (.ref (He.ga K d.x)) (.type "BaseException") = some true) && (decide (PySem.W.typeIn K (.ref (He.ga K d.x)) = some (.type "type")) && (PySem.W.keepIn K (.ref (He.ga K d.x)) &&
  (decide (PySem.W.findIn K (.ref (He.ga K d.x)) "__init__" = some (some (.ref (iAd K d.x)))) && (decide (PySem.W.typeIn K (.ref (iAd K d.x)) = some (.type "function")) &&
  (decide (PySem.W.mroIn K (He.ga K d.x) (.ref (He.ga K d.x)) = some true) && (decide (PySem.W.subIn K (.ref (He.ga K d.x)) (.type "ValueError") = some true) && (decide (PySem.W.nsIn K cStatics "thirdparty.any" = some none) &&
  ((match PySem.W.clsIn K (He.ga K d.x) with
    | some cd => decide (PySem.W.alongIn K "__init__" ((cd.mro.dropWhile (· != .ref (He.ga K d.x))).drop 1) = some (some (.builtin "ValueError.__init__")))
    | none => false) &&
  (match K.lookup (iAd K d.x) with
    | some ⟨_, _, .func fd, _⟩ => (match fd.code, fd.closure with
      | .ref cda, [(_, cc)] => (decide (fd.defaults = .none) && decide (fd.kwdefaults = .none)) && (PySem.W.codeIn K (.ref cda) d.qual && ((match K.lookup cc with
        | some ⟨_, _, .cell (some (.ref D)), _⟩ => decide (D = He.ga K d.x)
        | _ => false) && (match K.lookup cda with
        | some ⟨_, _, .fields vs, _⟩ => (match (show Option Value from vs[2]?) with
          | some (Value.str z _) => decide (z = fl)
          | _ => false)
        | _ => false)))
      | _, _ => false)
    | _ => false)))))))))))
structure SupF (K : PySem.W.Frag) (fl : Str) (C fI : Addr) (d : SupD) : Prop where
  ex : ∃ oc od doc pm an cda ct osl cc, K.lookup fI = some ⟨oc, od, .func (PySem.W.fnX "__init__" d.qual d.params d.body d.scope [("__class__", cc)] .none .none doc pm an (.ref cda) ct), osl⟩ ∧ PySem.W.codeIn K (.ref cda) d.qual = true ∧ SupC K fl C cc cda
  oex : OexC K C
  iC : PySem.W.findIn K (.ref C) "__init__" = some (some (.ref fI))
  tI : PySem.W.typeIn K (.ref fI) = some (.type "function")
theorem supF_ok {K : PySem.W.Frag} {fl : Str} {d : SupD} (e : supW K d.x = d.val) (h : tSup fl d K = true) : SupF K fl (He.ga K d.x) (iAd K d.x) d := by
  unfold tSup at h
  simp only [Bool.and_eq_true, decide_eq_true_eq] at h
  obtain ⟨h1, h2, h3, h4, h5, h6, h7, h8, h9, h10, h11, h12⟩ := h
  refine ⟨?_, ⟨oexB_ok h1, h2, h3, h4, h5⟩, h6, h7⟩
  unfold supW at e
  split at h12
  · rename_i oc od fd osl ho
    rw [ho] at e
    obtain ⟨n1, n2, n3, n4, n5, n6, n7, n8, n9, n10, n11, n12, n13, n14, n15⟩ := fd
    have e2 : (some (n1, n2, n3, n4, n5, n6, n7.map (·.1), n15) : SupW) = d.val := e
    unfold SupD.val at e2
    simp only [Option.some.injEq, Prod.mk.injEq] at e2
    obtain ⟨q1, q2, q3, q4, q5, q6, q7, q8⟩ := e2
    subst q1 q2 q3 q4 q5 q6 q8
    split at h12
    · rename_i cda x cc y1 y2
      dsimp only at y1 y2
      subst y1 y2
      simp only [List.map_cons, List.map_nil, List.cons.injEq, and_true] at q7
      subst q7
      simp only [Bool.and_eq_true, decide_eq_true_eq] at h12
      obtain ⟨⟨z4, z5⟩, z1, z2, z3⟩ := h12
      subst z4 z5
      refine ⟨oc, od, n10, n11, n12, cda, n14, osl, cc, ho, z1, ?_, h8, h9, ?_, ?_, h10⟩
      · split at h11
        · rename_i cd hcd
          exact ⟨cd, hcd, of_decide_eq_true h11⟩
        · cases h11
      · split at z2
        · rename_i a b D c hc
          have := of_decide_eq_true z2
          rw [this] at hc
          exact ⟨a, b, c, hc⟩
        · cases z2
      · split at z3
        · rename_i a b vs c hc
          split at z3
          · rename_i z tf hv
            have := of_decide_eq_true z3
            rw [this] at hv
            exact ⟨a, b, vs, c, tf, hc, hv⟩
          · cases z3
        · cases z3
    · cases h12
  · cases h12
end CC
set_option maxHeartbeats 4000000
/-! Exceptions with an attribute: the hook, raising, reading. -/
namespace CC
open PySem PySem.Spec L2
open PyProof.Rows hiding St
variable {α β γ δ τ υ ω ρ ε : Type}
/-! ### the hook -/
def asY (g : Addr → Option Obj) (n : Nat) : List Addr := cStatics :: He.asD g n
abbrev AlY : Type := (Bool × He.AlD) × List SupW
def obsY (mo : List Tst) (fa : List He.Fa) (fn : List He.DefD) (sp : List SupD) (K : PySem.W.Frag) : AlY := (obsX mo fa fn K, sp.map fun d => supW K d.x)
def valY (fn : List He.DefD) (sp : List SupD) : AlY := ((true, He.valD fn), sp.map SupD.val)
def SaysY (mo : List Tst) (fa : List He.Fa) (fn : List He.DefD) (sp : List SupD) (K : PySem.W.Frag) : Prop := obsY mo fa fn sp K = valY fn sp
def obsYG (n : Nat) (mo : List Tst) (fa : List He.Fa) (fn : List He.DefD) (sp : List SupD) (g : Addr → Option Obj) : AlY := obsY mo fa fn sp (He.frG g (asY g n))
def hookY (n : Nat) (mo : List Tst) (fa : List He.Fa) (fn : List He.DefD) (sp : List SupD) : PySem.W.Hook where
  α := AlY
  obs := fun s => obsYG n mo fa fn sp s.heap.get?
  val := fun _ => valY fn sp
  says := fun _ h => ∃ K : PySem.W.Frag, K.In h ∧ SaysY mo fa fn sp K
  of := fun _ _ e => ⟨_, He.frG_in, e⟩
  keeps := fun _ _ _ ⟨K, hK, c⟩ k => ⟨K, PySem.W.Frag.In.keeps hK k, c⟩
theorem obsYG_eq {n : Nat} {mo : List Tst} {fa : List He.Fa} {fn : List He.DefD} {sp : List SupD} {g : Addr → Option Obj} {s : Shared} (h : ∀ a, g a = s.heap.get? a) : obsYG n mo fa fn sp g = (hookY n mo fa fn sp).obs s := by
  have e : g = s.heap.get? := funext h
  rw [e] <;> rfl
theorem SaysY.x {mo : List Tst} {fa : List He.Fa} {fn : List He.DefD} {sp : List SupD} {K : PySem.W.Frag} (c : SaysY mo fa fn sp K) : SaysX mo fa fn K := congrArg (fun z : AlY => z.1) c
theorem SaysY.s {mo : List Tst} {fa : List He.Fa} {fn : List He.DefD} {sp : List SupD} {K : PySem.W.Frag} (c : SaysY mo fa fn sp K) (i : Nat) {d : SupD} (h : sp[i]? = some d := by rfl) : supW K d.x = d.val := by
  have e : sp.map (fun d => supW K d.x) = sp.map SupD.val := congrArg (fun z : AlY => z.2) c
  have e2 : (sp.map fun d => supW K d.x)[i]? = (sp.map SupD.val)[i]? := by rw [e]
  rw [List.getElem?_map, List.getElem?_map, h] at e2
  exact Option.some.inj e2
/-- the j-th statement of a class -/
def clsM (st : Stmt) (j : Nat) : Stmt := match st with
  | .ClassDef _ _ _ body .. => body.getD j (.Pass ⟨0, 0, 0, 0⟩)
  | _ => .Pass ⟨0, 0, 0, 0⟩
/-! ### an __init__ that stores one thing -/
def spI (C : Addr) (f : Str) : Sp := fun vs H Q _ => ∃ a v, vs = [.ref a, v] ∧ H a = some (exo a C none) ∧ ∀ dx, H dx = none → dx ≠ a → Q .non (upd (upd H dx (exd dx [(f, v)])) a (exo a C (some dx)))
structure ShI (d : SupD) (f y : Str) : Prop where
  ex : ∃ (p0 p1 apos cp cpos spos q0 q1 q2 q3 : Pos) (ck : Nat) (z : Str) (ar : Arg), d.body = [.Expr (.Call (.Attribute (.Call (.Name "super" p0) [] [] p1) "__init__" apos) [.Constant (.str z) ck cp] [] cpos) spos, .Assign [.Attribute (.Name "self" q0) f q1] (.Name y q2) q3] ∧
    (d.params.posonlyargs ++ d.params.args).head? = some ar ∧ ar.arg = ("self" : Str) ∧
    (∀ env, swapsWith (.Call (.Attribute (.Call (.Name "super" p0) [] [] p1) "__init__" apos) [.Constant (.str z) ck cp] [] cpos) none spos.line env = pure false) ∧
    (∀ env, ∃ pl, eval (.Call (.Attribute (.Call (.Name "super" p0) [] [] p1) "__init__" apos) [.Constant (.str z) ck cp] [] cpos) env = (do
      let ov ← attributeBase (.Call (.Name "super" p0) [] [] p1) "__init__" env (eval (.Call (.Name "super" p0) [] [] p1) env)
      standAt apos.atName
      let (f, first) ← holding [ov] (getMethod ov "__init__" pl)
      callWith cpos f first (backTo cpos (starEach [.Constant (.str z) ck cp] env)) [])) ∧
    (∀ env, starEach [.Constant (.str z) ck cp] env = (false, eval (.Constant (.str z) ck cp) env) :: starEach [] env) ∧
    ∀ env, swapsWith (.Name y q2) (some (.Attribute (.Name "self" q0) f q1)) q3.line env = pure false
  sc : NdefX.NScope ["self", y, "__class__"] ["self", y] ["__class__"] d.scope
  ks : d.scope.names.lookup ("super" : Str) = some .globalImplicit
  yd : (y == ("__debug__" : Str)) = false ∧ (y == ("__classdict__" : Str)) = false
  bind : ∀ doc pm an cdv ct cc (us : List Value), us.length = 2 → bindArgs (PySem.W.fnX "__init__" d.qual d.params d.body d.scope [("__class__", cc)] .none .none doc pm an cdv ct) ⟨us, []⟩ = pure ([("self" : Str), y].zip us)
theorem sup1_fn {P : Program} {w : World} {K : PySem.W.Frag} {mg : Str → Option Value} {base : Heap} {fl f y : Str} {C fI : Addr} {d : SupD} (F : SupF K fl C fI d) (hp : PF P fl) (hms : mg "super" = none) (hno : PySem.W.findIn K (.ref C) f = some none) (Sh : ShI d f y) :
    ∃ fd, FnOk P w K mg base CX0 1 fI fd ["self", y] (spI C f) ∧ Binds K fd ["self", y] [] := by
  obtain ⟨oc, od, doc, pm, an, cda, ct, osl, cc, lk, hcd, SC⟩ := F.ex
  obtain ⟨p0, p1, apos, cp, cpos, spos, q0, q1, q2, q3, ck, z, ar, hb, har, har2, hsw, he, hst, hsw2⟩ := Sh.ex
  refine ⟨_, ?_, Binds.all fun us hl => Sh.bind doc pm an (.ref cda) ct cc us hl⟩
  have S := Sh.sc
  have hks := Sh.ks
  have hyd := Sh.yd
  obtain ⟨x, qual, params, body, scope⟩ := d
  dsimp only at hb lk hcd har S hks ⊢
  subst hb
  refine fnok_sup (k := 0) (z := z) lk hcd S F.oex (SC.k hp) hms har (by rw [har2]; rfl) (by rw [har2]; rfl) hks (fun vs H Q E h => ?_) (fun vs H Q E h => ?_) hsw he hst fun X hP hK hN hsc vs H Q E h => ?_
  · obtain ⟨a, v, rfl, _⟩ := h
    rfl
  · obtain ⟨a, v, rfl, h2, _⟩ := h
    exact ⟨a, rfl, h2⟩
  · obtain ⟨a, v, rfl, h2, h3⟩ := h
    have v1 : Vis X.env.scope "self" := by rw [hsc]; exact .inl (S.par _ (by simp))
    have v2 : Vis X.env.scope y := by rw [hsc]; exact .inl (S.par _ (by simp))
    refine ⟨tSeq (tOst X.K f (tVar 0) (tVar 1)) tNext, pss_cons (ps_ost (pe_var (by rw [hN]; rfl) v1) (pe_var (by rw [hN]; rfl) v2 hyd.1 hyd.2) (hsw2 _)) pss_nil, ?_⟩
    exact ⟨v, rfl, .ref a, rfl, a, C, rfl, by rw [hK]; exact F.oex, by rw [hK]; exact hno, .inl ⟨h2, h3⟩⟩
/-! ### raising it -/
section
variable {S : Stc} {Γ Δ : Ctx} {e : Expr} {pos : Pos}
theorem jm_sup {x fl f y : Str} {p : Pos} {C fI : Addr} {d : SupD} {m : Option α} {E : α → SP} {u : α → ε} {Xp : ε → XP} (F : SupF S.K fl C fI d) (hP : PF S.P fl) (hms : S.mg "super" = none) (hno : PySem.W.findIn S.K (.ref C) f = some none) (Sh : ShI d f y) (hm : S.mg x = some (.ref C)) (ha : JN S e Γ m fun z => sh (E z)) (hX : ∀ z, Xp (u z) = excX C (some (f, E z)) := by intro _; rfl)
    (hk : 2 ≤ S.k := by exact Nat.le_of_ble_eq_true rfl) (hg : GlS S x := by rfl) (hdb : (x == ("__debug__" : Str)) = false := by decide) (he : ∀ env, starEach [e] env = (false, eval e env) :: starEach [] env := by intro _; rfl) (hcm : S.calm = true := by rfl) : JM S (.Call (.Name x p) [e] [] pos) Γ (m.bind fun z => some (u z)) Xp := fun σ W F' sta w hw Q k => by
  obtain ⟨z, h1, h2⟩ := run1 hw
  cases h2
  refine ⟨tMkO C (spI C f) [] (tCons (tOf S e) tNil), fun X hX' => ?_, ?_⟩
  · obtain ⟨fd, Fn, Bd⟩ := sup1_fn (P := S.P) (w := S.w) (mg := S.mg) (base := S.base) F hP hms hno Sh
    rw [← hX'.K] at F
    refine pmk_oex (ds := []) (dvs := []) (k := 1) F.oex F.iC F.tI (CX := CX0) ?_ ((hX'.room hcm).mono hk) (by rw [hX'.K]; exact Bd) .nil passE0 (hg.gl hX') (mgS hm hX') (pa_cons (peO hX') pa_nil (he _)) hdb (he _) rfl
    rw [hX'.prog, hX'.w, hX'.K, hX'.mg, hX'.base]
    exact Fn
  · refine ha σ W F' sta z h1 _ fun v W1 Fv ext fr fp r => ?_
    obtain ⟨_, hv⟩ := r
    refine ⟨by simp, fun a hna => ?_⟩
    refine ⟨a, v, rfl, upd_same, fun dx hdx hne => ⟨rfl, dx, [(f, v)], upd_same, ?_, ?_, ?_⟩⟩
    · rw [upd_ne hne, upd_same]
    · rwa [upd_ne hne] at hdx
    · have hd1 : W1.H dx = none := by rwa [upd_ne hne] at hdx
      have e2 := Ext.newB ext.ok (o := .xd [(f, v)]) hd1
      have eH : upd (del (upd (upd (upd W1.H a (exo a C none)) dx (exd dx [(f, v)])) a (exo a C (some dx))) a) dx (.xd [(f, v)]) = (⟨upd W1.H dx (.xd [(f, v)]), upd W1.B dx (.xd [(f, v)])⟩ : Wd).H := by
        funext b
        by_cases hb : b = dx
        · rw [hb, upd_same]
          exact upd_same.symm
        · rw [upd_ne hb]
          show _ = upd W1.H dx _ b
          rw [upd_ne hb]
          by_cases hb2 : b = a
          · rw [hb2, del_same, hna]
          · rw [del_ne hb2, upd_ne hb2, upd_ne hb, upd_ne hb2]
      rw [eH]
      refine k (.ref C) (some dx) ⟨upd W1.H dx (.xd [(f, v)]), upd W1.B dx (.xd [(f, v)])⟩ (ext.trans e2) ?_
      rw [hX]
      exact ⟨rfl, dx, v, rfl, upd_same, SP.mono _ hv e2.b⟩
/-- e.f in its suite -/
theorem jn_xat {n f : Str} {p0 : Pos} {a C : Addr} {d : Option Addr} {x : α} {E : α → SP} (i : Nat) (hex : S.ex = some (a, C, d)) (hE : ExcC S.K C) (hno : PySem.W.findIn S.K (.ref C) f = some none) (hi : Γ[i]? = some (some (sh (excS a d (some (f, E x))))) := by rfl) (hN : S.N[i]? = some n := by rfl) (hv : Vis S.sc n := by first | exact Or.inl rfl | exact Or.inr (Or.inl rfl) | exact Or.inr (Or.inr rfl))
    (hd : (n == ("__debug__" : Str)) = false := by decide) (hcd : (n == ("__classdict__" : Str)) = false := by decide) (hb : ∀ env, attributeBase (.Name n p0) f env (eval (.Name n p0) env) = eval (.Name n p0) env := by intro _; rfl) : JN S (.Attribute (.Name n p0) f pos) Γ (some x) fun z => sh (E z) := fun σ W F sta z hz Q kq => by
  cases hz
  obtain ⟨v, h1, h2⟩ := sta.get hi
  obtain ⟨rfl, dd, w, rfl, h4, h5⟩ := h2
  refine ⟨tXf a (.ref C) (some dd) C f (tVar i), fun X hX => ?_, ?_⟩
  · obtain ⟨X', oe, pn, rfl, hz, hf⟩ := hX.ex a C (some dd) hex
    have eK : (X'.suite a ((a, oe) :: pn)).K = S.K := hX.K
    have eK' : X'.K = S.K := eK
    exact pe_xf (X := X') ⟨by rw [eK']; exact hE.hg, by rw [eK']; exact hE.hk, by rw [eK']; exact hE.hs, by rw [eK']; exact hE.hd⟩ (by rw [eK']; exact hno) hz hf (pe_var (by rw [hX.N]; exact hN) (visS hv hX) hd hcd) (hb _)
  · exact ⟨.ref a, h1, rfl, rfl, dd, [(f, w)], w, rfl, sta.ok _ _ h4, by simp [List.lookup], kq.val sta.ok h5⟩
end
end CC
set_option maxHeartbeats 4000000
/-! a < b < c as a test. -/
namespace CC
open PySem PySem.Spec L2
open PyProof.Rows hiding St
variable {α β γ δ τ υ ω ρ ε : Type}
section
variable {S : Stc} {Γ : Ctx} {a b c e : Expr} {pos : Pos}
theorem jt_chain {op op' : CmpOp} {r r' : R2} {E : α → SP} {G : β → SP} {I : γ → SP} {f : α → β → Option Bool} {g : β → γ → Option Bool} {ma : Option α} {mb : Option β} {mc : Option γ} (ho : ∀ X, S.In X → OpR X (compareOp op) r) (hr : OpV r E G f fun z => sh (boolS z)) (ho' : ∀ X, S.In X → OpR X (compareOp op') r') (hr' : OpV r' G I g fun z => sh (boolS z))
    (ha : JN S a Γ ma fun x => sh (E x)) (hb : JN S b Γ mb fun x => sh (G x)) (hc : JN S c Γ mc fun x => sh (I x)) (hm : lastMarks [op, op'] [b, c] = false := by with_unfolding_all rfl) :
    JT S (.Compare a [op, op'] [b, c] pos) Γ (ma.bind fun x => mb.bind fun y => (f x y).bind fun t => bif t then mc.bind fun z => g y z else some false) := fun σ W F st z hz Q kq => by
  obtain ⟨x, y, h1, h2, h3⟩ := run2 hz
  obtain ⟨t, h4, h5⟩ := run1 h3
  refine ⟨tTest (tChain r r' (tOf S a) (tOf S b) (tOf S c)), fun X hX => pt_chain (ho X hX) (ho' X hX) (peO hX) (peO hX) (peO hX) hm, ?_⟩
  have k : Got (sh (boolS z)) W fun v H => ∃ b, v = V.bl b ∧ Q b H := fun v W' Fv ext _ _ r => ⟨z, r.2, kq W' ext⟩
  show tChain r r' (tOf S a) (tOf S b) (tOf S c) σ W.H fun v H => ∃ b, v = V.bl b ∧ Q b H
  refine ha σ W F st x h1 _ fun v W1 F1 e1 _ _ r1 => hb σ W1 F (st.ext e1) y h2 _ fun u W2 F2 e2 _ _ r2 => ?_
  refine hr W2 x y v u t e2.ok (SP.mono _ r1.2 e2.b) r2.2 h4 _ fun w W3 F3 e3 _ _ r3 => ?_
  have e13 := (e1.trans e2).trans e3
  refine ⟨t, r3.2, ?_⟩
  cases t with
  | false =>
    cases h5
    rw [if_neg (fun z => nomatch z)]
    exact (k.ext e13).val e3.ok rfl
  | true =>
    rw [if_pos rfl]
    obtain ⟨q, h6, h7⟩ := run1 (f := fun z => g y z) h5
    refine hc σ W3 F (st.ext e13) q h6 _ fun w' W4 F4 e4 _ _ r4 => ?_
    exact hr' W4 y q u w' z e4.ok (SP.mono _ (SP.mono _ r2.2 e3.b) e4.b) r4.2 h7 _ (k.ext (e13.trans e4))
end
end CC
set_option maxHeartbeats 1000000
/-! Plain laws of the mirrors' words: when they give something, and what. -/
namespace CC
open PySem PySem.Spec L2
open PyProof.Rows hiding St
variable {α β γ δ τ υ ω ρ : Type}
def Ok (m : Option α) (P : α → Prop) : Prop := ∃ x, m = some x ∧ P x
theorem Ok.one {P : α → Prop} {x : α} (h : P x) : Ok (some x) P := ⟨x, rfl, h⟩
theorem Ok.bind {m : Option α} {f : α → Option β} {P : α → Prop} {Q : β → Prop} (h : Ok m P) (k : ∀ x, P x → Ok (f x) Q) : Ok (m.bind f) Q := by
  obtain ⟨x, rfl, hx⟩ := h
  exact k x hx
theorem Ok.mono {m : Option α} {P Q : α → Prop} (h : Ok m P) (k : ∀ x, P x → Q x) : Ok m Q := by
  obtain ⟨x, rfl, hx⟩ := h
  exact ⟨x, rfl, k x hx⟩
theorem Ok.eq {m : Option α} {x : α} (h : m = some x) : Ok m (· = x) := ⟨x, h, rfl⟩
theorem Ok.of_eq {m : Option α} {x : α} {P : α → Prop} (h : m = some x) (p : P x) : Ok m P := ⟨x, h, p⟩
theorem Ok.eq_some {m : Option α} {x : α} (h : Ok m (· = x)) : m = some x := by
  obtain ⟨y, e, rfl⟩ := h
  exact e
theorem Ok.bif {b : Bool} {m n : Option α} {P : α → Prop} (h : b = true → Ok m P) (k : b = false → Ok n P) : Ok (bif b then m else n) P := by
  cases b with
  | true => exact h rfl
  | false => exact k rfl
theorem bind_eta (m : Option (α × β)) : (m.bind fun r => some (r.1, r.2)) = m := by cases m <;> rfl
theorem bind_id (m : Option α) : (m.bind fun r => some r) = m := by cases m <;> rfl
theorem bassoc (m : Option α) (f : α → Option β) (g : β → Option γ) : (m.bind f).bind g = m.bind fun x => (f x).bind g := by cases m <;> rfl
theorem bif_bind (b : Bool) (m n : Option α) (f : α → Option β) : (bif b then m else n).bind f = bif b then m.bind f else n.bind f := by cases b <;> rfl
theorem run_eq {m : Option α} {f : α → Option β} {x : α} (h : m = some x) : m.bind f = f x := by rw [h]; rfl
/-! ### numbers -/
theorem mulO_l {x y : Int} (h1 : -(2 ^ 64) < x) (h2 : x < 2 ^ 64) : mulO x y = some (x * y) := by
  unfold mulO
  rw [if_pos (.inl ⟨h1, h2⟩)]
theorem mulO_r {x y : Int} (h1 : -(2 ^ 64) < y) (h2 : y < 2 ^ 64) : mulO x y = some (x * y) := by
  unfold mulO
  rw [if_pos (.inr ⟨h1, h2⟩)]
theorem divO_eq {x y : Int} (h1 : 0 < y) (h2 : y < 1073741824) : divO x y = some (x / y) := by
  unfold divO
  rw [if_pos ⟨h1, h2⟩]
theorem modO_eq {x y : Int} (h1 : 0 < y) : modO x y = some (x % y) := by
  unfold modO
  rw [if_pos h1]
theorem mod_lo (x : Int) {y : Int} (h : 0 < y) : 0 ≤ x % y := Int.emod_nonneg x (by omega)
theorem mod_hi (x : Int) {y : Int} (h : 0 < y) : x % y < y := Int.emod_lt_of_pos x h
/-! ### ranges -/
def rl (n : Nat) : List Int := (List.range n).map fun i : Nat => (i : Int)
theorem rl_len (n : Nat) : (rl n).length = n := by unfold rl; rw [List.length_map, List.length_range]
theorem rl_get {n k : Nat} (h : k < n) : (rl n)[k]? = some (k : Int) := by
  unfold rl
  rw [List.getElem?_map, List.getElem?_range h]
  rfl
theorem rl_mem {n : Nat} {x : Int} : x ∈ rl n ↔ ∃ k : Nat, k < n ∧ x = (k : Int) := by
  unfold rl
  rw [List.mem_map]
  constructor
  · rintro ⟨k, h, rfl⟩
    exact ⟨k, List.mem_range.mp h, rfl⟩
  · rintro ⟨k, h, rfl⟩
    exact ⟨k, List.mem_range.mpr h, rfl⟩
theorem rl_succ (n : Nat) : rl (n + 1) = rl n ++ [(n : Int)] := by
  unfold rl
  rw [List.range_succ, List.map_append]
  rfl
theorem rl_nodup (n : Nat) : (rl n).Nodup := by
  unfold rl
  refine (List.pairwise_map).mpr ?_
  exact List.Pairwise.imp (fun h e => h (by omega)) (List.nodup_range (n := n))
theorem rng_nat {n : Nat} (h : n ≤ LIM) : rng 0 (n : Int) = some (rl n) := by
  have hl : (LIM : Int) = 1000000 := rfl
  have h' : n ≤ 1000000 := h
  unfold rng rl
  rw [if_pos (by rw [hl]; omega)]
  rw [show ((n : Int) - 0).toNat = n by omega]
  congr 1
  exact List.map_congr_left fun i _ => by omega
theorem rng_int {z : Int} (h0 : 0 ≤ z) (h : z ≤ 1000000) : rng 0 z = some (rl z.toNat) := by
  have : rng 0 ((z.toNat : Nat) : Int) = some (rl z.toNat) := rng_nat (by show z.toNat ≤ 1000000; omega)
  rw [← this]
  congr 1
  omega
/-! ### looks and stores -/
theorem ixN_nat {n k : Nat} (h : k < n) : ixN n (k : Int) = some k := by
  unfold ixN
  rw [if_pos (by omega), if_pos (by omega), Int.toNat_natCast]
theorem ixN_int {n : Nat} {z : Int} (h0 : 0 ≤ z) (h : z < n) : ixN n z = some z.toNat := by
  unfold ixN
  rw [if_pos h0, if_pos h]
theorem atI_nat {xs : List α} {k : Nat} (h : k < xs.length) : atI xs (k : Int) = some xs[k] := by
  unfold atI
  rw [ixN_nat h]
  exact List.getElem?_eq_getElem h
theorem atI_nat? {xs : List α} {k : Nat} {x : α} (h : xs[k]? = some x) : atI xs (k : Int) = some x := by
  obtain ⟨h1, rfl⟩ := List.getElem?_eq_some_iff.mp h
  exact atI_nat h1
theorem atI_ok {xs : List α} {z : Int} {P : α → Prop} (h0 : 0 ≤ z) (h : z < xs.length) (hP : ∀ (k : Nat) x, xs[k]? = some x → (k : Int) = z → P x) : Ok (atI xs z) P := by
  obtain ⟨k, rfl⟩ := Int.eq_ofNat_of_zero_le h0
  have hk : k < xs.length := by omega
  exact ⟨xs[k], atI_nat hk, hP k _ (List.getElem?_eq_getElem hk) rfl⟩
theorem atI_mem {xs : List α} {z : Int} (h0 : 0 ≤ z) (h : z < xs.length) : Ok (atI xs z) fun x => x ∈ xs := atI_ok h0 h fun k x e _ => List.mem_of_getElem? e
theorem setAt_nat {xs : List α} {k : Nat} {x : α} (h : k < xs.length) : setAt xs (k : Int) x = some (xs.set k x) := by
  unfold setAt
  rw [ixN_nat h]
  rfl
theorem appM_eq {xs : List α} {x : α} (h : xs.length < 1000000) : appM xs x = some (xs ++ [x]) := by
  unfold appM
  rw [if_pos (show xs.length < LIM from h)]
theorem catM_eq {xs ys : List α} (h : xs.length + ys.length ≤ 1000000) : catM xs ys = some (xs ++ ys) := by
  unfold catM
  rw [if_pos (show xs.length + ys.length ≤ LIM from h)]
theorem popAt_ok {xs : List α} {z : Int} (h0 : 0 ≤ z) (h : z < xs.length) (hl : xs.length ≤ 1000000) : Ok (popAt xs z) fun r => xs.Perm (r.1 :: r.2) ∧ r.2.length + 1 = xs.length := by
  obtain ⟨k, rfl⟩ := Int.eq_ofNat_of_zero_le h0
  have hk : k < xs.length := by omega
  have e : popAt xs (k : Int) = some (xs[k], xs.eraseIdx k) := by
    unfold popAt
    rw [if_pos ⟨h0, hl⟩, Int.toNat_natCast, List.getElem?_eq_getElem hk]
    rfl
  refine ⟨_, e, ?_, ?_⟩
  · show xs.Perm (xs[k] :: xs.eraseIdx k)
    rw [List.eraseIdx_eq_take_drop_succ]
    have e : xs = xs.take k ++ xs[k] :: xs.drop (k + 1) := by rw [← List.drop_eq_getElem_cons hk, List.take_append_drop]
    exact (List.Perm.of_eq e).trans List.perm_middle
  · show (xs.eraseIdx k).length + 1 = _
    rw [List.length_eraseIdx_of_lt hk]
    omega
/-! ### walks -/
inductive F2 {α β : Type} (P : α → β → Prop) : List α → List β → Prop
  | nil : F2 P [] []
  | cons {x y xs ys} : P x y → F2 P xs ys → F2 P (x :: xs) (y :: ys)
theorem mapGo_eq {f : α → Option β} {g : α → β} : ∀ {xs : List α}, (∀ x ∈ xs, f x = some (g x)) → mapGo f xs = some (xs.map g)
  | [], _ => rfl
  | x :: xs, h => by
    show (f x).bind _ = _
    rw [h x List.mem_cons_self, sb, mapGo_eq fun y hy => h y (List.mem_cons_of_mem _ hy)]
    rfl
theorem mapM_is {f : α → Option β} {g : α → β} {xs : List α} (hl : xs.length ≤ 1000000) (h : ∀ x ∈ xs, f x = some (g x)) : mapM f xs = some (xs.map g) := by
  unfold mapM
  rw [if_pos (show xs.length ≤ LIM from hl), mapGo_eq h]
theorem mapGo_ok {f : α → Option β} {P : α → β → Prop} : ∀ {xs : List α}, (∀ x ∈ xs, Ok (f x) (P x)) → Ok (mapGo f xs) fun ys => F2 P xs ys
  | [], _ => .one .nil
  | x :: xs, h => .bind (h x List.mem_cons_self) fun y hy => .bind (mapGo_ok fun z hz => h z (List.mem_cons_of_mem _ hz)) fun ys hys => .one (.cons hy hys)
theorem mapM_ok {f : α → Option β} {P : α → β → Prop} {xs : List α} (hl : xs.length ≤ 1000000) (h : ∀ x ∈ xs, Ok (f x) (P x)) : Ok (mapM f xs) fun ys => F2 P xs ys := by
  unfold mapM
  rw [if_pos (show xs.length ≤ LIM from hl)]
  exact mapGo_ok h
theorem f2_len {P : α → β → Prop} {xs : List α} {ys : List β} (h : F2 P xs ys) : ys.length = xs.length := by
  induction h with
  | nil => rfl
  | cons _ _ ih => rw [List.length_cons, List.length_cons, ih]
theorem f2_get {P : α → β → Prop} {xs : List α} {ys : List β} (h : F2 P xs ys) : ∀ {k : Nat} {y : β}, ys[k]? = some y → ∃ x, xs[k]? = some x ∧ P x y := by
  induction h with
  | nil => intro k y e; simp at e
  | @cons a b as bs hab _ ih =>
    intro k y e
    cases k with
    | zero =>
      have : b = y := by simpa using e
      subst this
      exact ⟨a, rfl, hab⟩
    | succ k =>
      obtain ⟨x, h1, h2⟩ := ih (k := k) (by simpa using e)
      exact ⟨x, by simpa using h1, h2⟩
theorem f2_mem {P : α → β → Prop} {xs : List α} {ys : List β} (h : F2 P xs ys) {y : β} (hy : y ∈ ys) : ∃ x, x ∈ xs ∧ P x y := by
  obtain ⟨k, hk⟩ := List.mem_iff_getElem?.mp hy
  obtain ⟨x, h1, h2⟩ := f2_get h hk
  exact ⟨x, List.mem_of_getElem? h1, h2⟩
/-- over a range -/
theorem mapR_ok {f : Int → Option β} {P : Nat → β → Prop} {n : Nat} (hl : n ≤ 1000000) (h : ∀ k < n, Ok (f (k : Int)) (P k)) : Ok (mapM f (rl n)) fun ys => ys.length = n ∧ ∀ k y, ys[k]? = some y → P k y := by
  refine (mapM_ok (P := fun x y => ∀ k : Nat, x = (k : Int) → P k y) (by rw [rl_len]; exact hl) fun x hx => ?_).mono fun ys hy => ⟨by rw [f2_len hy, rl_len], fun k y e => ?_⟩
  · obtain ⟨k, hk, rfl⟩ := rl_mem.mp hx
    refine (h k hk).mono fun y hy j e => ?_
    have : k = j := by omega
    exact this ▸ hy
  · obtain ⟨x, h1, h2⟩ := f2_get hy e
    have hk : k < n := by
      have := (List.getElem?_eq_some_iff.mp h1).1
      rwa [rl_len] at this
    rw [rl_get hk] at h1
    exact h2 k (Option.some.inj h1).symm
theorem compGo_eq {t : α → Option Bool} {f : α → Option β} {p : α → Bool} {g : α → β} : ∀ {xs : List α}, (∀ x ∈ xs, t x = some (p x)) → (∀ x ∈ xs, p x = true → f x = some (g x)) → compGo t f xs = some ((xs.filter p).map g)
  | [], _, _ => rfl
  | x :: xs, h, k => by
    have ih := compGo_eq (xs := xs) (fun y hy => h y (List.mem_cons_of_mem _ hy)) fun y hy => k y (List.mem_cons_of_mem _ hy)
    show (t x).bind _ = _
    rw [h x List.mem_cons_self, sb]
    cases hp : p x with
    | true =>
      show (f x).bind _ = _
      rw [k x List.mem_cons_self hp, sb, ih, List.filter_cons_of_pos hp]
      rfl
    | false =>
      show compGo t f xs = _
      rw [ih, List.filter_cons_of_neg (by rw [hp]; exact fun z => nomatch z)]
theorem compM_eq {t : α → Option Bool} {f : α → Option β} {p : α → Bool} {g : α → β} {xs : List α} (hl : xs.length ≤ 1000000) (h : ∀ x ∈ xs, t x = some (p x)) (k : ∀ x ∈ xs, p x = true → f x = some (g x)) : compM t f xs = some ((xs.filter p).map g) := by
  unfold compM
  rw [if_pos (show xs.length ≤ LIM from hl), compGo_eq h k]
theorem foldGo_ok {f : α → τ → Option τ} {Inv : List α → τ → Prop} : ∀ (xs : List α) (pre : List α) {s : τ}, Inv pre s → (∀ pre x post s, pre ++ x :: post = pre ++ x :: post → x ∈ xs → Inv pre s → Ok (f x s) (Inv (pre ++ [x]))) → Ok (foldGo f xs s) (Inv (pre ++ xs))
  | [], pre, s, h, _ => by
    rw [List.append_nil]
    exact .one h
  | x :: xs, pre, s, h, hs => by
    refine .bind (hs pre x xs s rfl List.mem_cons_self h) fun s' h' => ?_
    have := foldGo_ok xs (pre ++ [x]) h' fun pre y post s e hy => hs pre y post s rfl (List.mem_cons_of_mem _ hy)
    rwa [List.append_assoc] at this
/-- a walk with an invariant by what was seen -/
theorem fold_ok {f : α → τ → Option τ} (Inv : List α → τ → Prop) {xs : List α} {s : τ} (h0 : Inv [] s) (hs : ∀ pre x s, x ∈ xs → Inv pre s → Ok (f x s) (Inv (pre ++ [x]))) : Ok (foldGo f xs s) (Inv xs) := by
  have := foldGo_ok (Inv := Inv) xs [] h0 fun pre x post s _ hx h => hs pre x s hx h
  simpa using this
theorem foldG_ok {f : α → τ → Option τ} {Inv : Nat → τ → Prop} : ∀ (xs : List α) (j : Nat) {s : τ}, Inv j s → (∀ k x s, xs[k]? = some x → Inv (j + k) s → Ok (f x s) (Inv (j + k + 1))) → Ok (foldGo f xs s) (Inv (j + xs.length))
  | [], j, s, h, _ => .one h
  | x :: xs, j, s, h, hs => by
    refine .bind (hs 0 x s rfl h) fun s' h' => ?_
    have := foldG_ok xs (j + 1) h' fun k y s e hy => by
      have := hs (k + 1) y s (by simpa using e) (by rwa [show j + (k + 1) = j + 1 + k by omega])
      rwa [show j + (k + 1) = j + 1 + k by omega] at this
    rwa [show j + 1 + xs.length = j + (x :: xs).length by rw [List.length_cons]; omega] at this
/-- over a range: by the turn -/
theorem foldR_ok {f : Int → τ → Option τ} (Inv : Nat → τ → Prop) {n : Nat} {s : τ} (h0 : Inv 0 s) (hs : ∀ k s, k < n → Inv k s → Ok (f (k : Int) s) (Inv (k + 1))) : Ok (foldGo f (rl n) s) (Inv n) := by
  have := foldG_ok (Inv := Inv) (f := f) (rl n) 0 h0 fun k x s e h => by
    have hk : k < n := by
      have := (List.getElem?_eq_some_iff.mp e).1
      rwa [rl_len] at this
    rw [rl_get hk] at e
    rw [← Option.some.inj e]
    rw [Nat.zero_add] at h ⊢
    exact hs k s hk h
  rwa [Nat.zero_add, rl_len] at this
theorem mapGoE_ok {f : α → τ → Option (β × τ)} {Inv : Nat → τ → Prop} {P : Nat → β → Prop} : ∀ (xs : List α) (j : Nat) {s : τ}, Inv j s → (∀ k x s, xs[k]? = some x → Inv (j + k) s → Ok (f x s) fun r => P (j + k) r.1 ∧ Inv (j + k + 1) r.2) →
    Ok (mapGoE f xs s) fun r => r.1.length = xs.length ∧ (∀ k y, r.1[k]? = some y → P (j + k) y) ∧ Inv (j + xs.length) r.2
  | [], j, s, h, _ => .one ⟨rfl, fun k y e => by simp at e, h⟩
  | x :: xs, j, s, h, hs => by
    refine .bind (hs 0 x s rfl h) fun y hy => ?_
    refine .bind (mapGoE_ok (P := P) xs (j + 1) hy.2 fun k y s e hy => by
      have := hs (k + 1) y s (by simpa using e) (by rwa [show j + (k + 1) = j + 1 + k by omega])
      rwa [show j + (k + 1) = j + 1 + k by omega] at this) fun r hr => .one ⟨by rw [List.length_cons, List.length_cons, hr.1], fun k z e => ?_, ?_⟩
    · cases k with
      | zero =>
        have : y.1 = z := by simpa using e
        exact this ▸ hy.1
      | succ k =>
        have := hr.2.1 k z (by simpa using e)
        rwa [show j + 1 + k = j + (k + 1) by omega] at this
    · have := hr.2.2
      rwa [show j + 1 + xs.length = j + (x :: xs).length by rw [List.length_cons]; omega] at this
theorem mapRE_ok {f : Int → τ → Option (β × τ)} (Inv : Nat → τ → Prop) (P : Nat → β → Prop) {n : Nat} {s : τ} (hl : n ≤ 1000000) (h0 : Inv 0 s) (hs : ∀ k s, k < n → Inv k s → Ok (f (k : Int) s) fun r => P k r.1 ∧ Inv (k + 1) r.2) :
    Ok (mapME f (rl n) s) fun r => r.1.length = n ∧ (∀ k y, r.1[k]? = some y → P k y) ∧ Inv n r.2 := by
  unfold mapME
  rw [if_pos (show (rl n).length ≤ LIM by rw [rl_len]; exact hl)]
  have := mapGoE_ok (Inv := Inv) (P := P) (f := f) (rl n) 0 h0 fun k x s e h => by
    have hk : k < n := by
      have := (List.getElem?_eq_some_iff.mp e).1
      rwa [rl_len] at this
    rw [rl_get hk] at e
    rw [← Option.some.inj e]
    rw [Nat.zero_add] at h ⊢
    exact hs k s hk h
  simpa [rl_len] using this
/-- a loop that goes through -/
theorem loopGo_ok {f : α → τ → Option (Out τ ρ)} {Inv : Nat → τ → Prop} : ∀ (xs : List α) (j : Nat) {s : τ}, Inv j s → (∀ k x s, xs[k]? = some x → Inv (j + k) s → Ok (f x s) fun o => ∃ s', (o = .nx s' ∨ o = .ct s') ∧ Inv (j + k + 1) s') → Ok (loopGo f xs s) fun o => ∃ s', o = .nx s' ∧ Inv (j + xs.length) s'
  | [], j, s, h, _ => .one ⟨s, rfl, h⟩
  | x :: xs, j, s, h, hs => by
    refine .bind (hs 0 x s rfl h) fun o ho => ?_
    obtain ⟨s', ho, h'⟩ := ho
    have := loopGo_ok xs (j + 1) h' fun k y s e hy => by
      have := hs (k + 1) y s (by simpa using e) (by rwa [show j + (k + 1) = j + 1 + k by omega])
      rwa [show j + (k + 1) = j + 1 + k by omega] at this
    rw [show j + 1 + xs.length = j + (x :: xs).length by rw [List.length_cons]; omega] at this
    rcases ho with rfl | rfl
    · exact this
    · exact this
theorem loop_unit {f : α → Unit → Option (Out Unit ρ)} {xs : List α} (hs : ∀ x ∈ xs, f x () = some (.nx ())) : loopGo f xs () = some (.nx ()) := by
  induction xs with
  | nil => rfl
  | cons x xs ih =>
    show (f x ()).bind _ = _
    rw [hs x List.mem_cons_self]
    exact ih fun y hy => hs y (List.mem_cons_of_mem _ hy)
/-! ### tables -/
structure Sq (n : Nat) (t : List (List α)) : Prop where
  len : t.length = n
  row : ∀ r ∈ t, r.length = n
def gt (t : List (List Bool)) (x y : Nat) : Bool := ((t[x]?.getD [])[y]?).getD false
theorem Sq.rowk {n : Nat} {t : List (List α)} (h : Sq n t) {x : Nat} (hx : x < n) : ∃ r, t[x]? = some r ∧ r.length = n := by
  have hx' : x < t.length := by rw [h.len]; exact hx
  exact ⟨t[x], List.getElem?_eq_getElem hx', h.row _ (List.getElem_mem hx')⟩
theorem Sq.at2 {n : Nat} {t : List (List Bool)} (h : Sq n t) {x y : Nat} (hx : x < n) (hy : y < n) : ∃ r, atI t (x : Int) = some r ∧ atI r (y : Int) = some (gt t x y) := by
  obtain ⟨r, h1, h2⟩ := h.rowk hx
  refine ⟨r, atI_nat? h1, ?_⟩
  have hy' : y < r.length := by rw [h2]; exact hy
  rw [atI_nat hy']
  unfold gt
  rw [h1]
  show some r[y] = some ((r[y]?).getD false)
  rw [List.getElem?_eq_getElem hy']
  rfl
theorem Sq.set2 {n : Nat} {t : List (List Bool)} (h : Sq n t) {x y : Nat} (b : Bool) (hx : x < n) (hy : y < n) : ∃ t', setAt2 t (x : Int) (y : Int) b = some t' ∧ Sq n t' ∧ ∀ i j, gt t' i j = if i = x ∧ j = y then b else gt t i j := by
  obtain ⟨r, h1, h2⟩ := h.rowk hx
  have hx' : x < t.length := by rw [h.len]; exact hx
  have hy' : y < r.length := by rw [h2]; exact hy
  refine ⟨t.set x (r.set y b), ?_, ⟨by rw [List.length_set]; exact h.len, fun q hq => ?_⟩, fun i j => ?_⟩
  · unfold setAt2
    rw [atI_nat? h1, sb, setAt_nat hy', sb, setAt_nat hx']
  · rcases List.mem_or_eq_of_mem_set hq with z | rfl
    · exact h.row q z
    · rw [List.length_set]; exact h2
  · unfold gt
    by_cases e : i = x
    · subst e
      rw [List.getElem?_set_self hx', h1]
      show ((r.set y b)[j]?).getD false = _
      by_cases e2 : j = y
      · subst e2
        rw [List.getElem?_set_self hy', if_pos ⟨rfl, rfl⟩]
        rfl
      · rw [List.getElem?_set_ne (fun q => e2 q.symm), if_neg (fun q => e2 q.2)]
        rfl
    · rw [List.getElem?_set_ne (fun q => e q.symm), if_neg (fun q => e q.1)]
/-- a table made by its places -/
theorem tab_mk {n : Nat} (hn : n ≤ 1000000) {f : Int → Int → Option Bool} {g : Nat → Nat → Bool} (hf : ∀ x y : Nat, x < n → y < n → f (x : Int) (y : Int) = some (g x y)) :
    Ok (mapM (fun x => mapM (fun y => f x y) (rl n)) (rl n)) fun t => Sq n t ∧ ∀ x y, x < n → y < n → gt t x y = g x y := by
  refine (mapR_ok (P := fun x r => r.length = n ∧ ∀ (y : Nat) b, r[y]? = some b → b = g x y) hn fun x hx => mapR_ok (P := fun y b => b = g x y) hn fun y hy => .of_eq (hf x y hx hy) rfl).mono fun t ht => ?_
  refine ⟨⟨ht.1, fun r hr => ?_⟩, fun x y hx hy => ?_⟩
  · obtain ⟨k, hk⟩ := List.mem_iff_getElem?.mp hr
    exact (ht.2 k r hk).1
  · have hx' : x < t.length := by rw [ht.1]; exact hx
    have h1 := List.getElem?_eq_getElem hx'
    obtain ⟨h2, h3⟩ := ht.2 x _ h1
    have hy' : y < t[x].length := by rw [h2]; exact hy
    unfold gt
    rw [h1]
    show ((t[x])[y]?).getD false = _
    rw [List.getElem?_eq_getElem hy']
    exact h3 y _ (List.getElem?_eq_getElem hy')
theorem Sq.setRow {n : Nat} {t : List (List α)} (h : Sq n t) {x : Nat} {r : List α} (hx : x < n) (hr : r.length = n) : setAt t (x : Int) r = some (t.set x r) ∧ Sq n (t.set x r) :=
  ⟨setAt_nat (by rw [h.len]; exact hx), by rw [List.length_set]; exact h.len, fun q hq => by
    rcases List.mem_or_eq_of_mem_set hq with z | rfl
    · exact h.row q z
    · exact hr⟩
/-- a row of places below m -/
structure Rw (n m : Nat) (r : List Int) : Prop where
  len : r.length = n
  lo : ∀ x ∈ r, 0 ≤ x ∧ x < (m : Int)
def rwv (r : List Int) (x : Nat) : Nat := ((r[x]?).getD 0).toNat
theorem Rw.at {n m : Nat} {r : List Int} (h : Rw n m r) {x : Nat} (hx : x < n) : atI r (x : Int) = some (rwv r x : Int) ∧ rwv r x < m := by
  have hx' : x < r.length := by rw [h.len]; exact hx
  have h1 := List.getElem?_eq_getElem hx'
  have h2 := h.lo _ (List.getElem_mem hx')
  have e : (rwv r x : Int) = r[x] := by
    unfold rwv
    rw [h1]
    show ((r[x]).toNat : Int) = _
    omega
  refine ⟨by rw [atI_nat hx', e], by omega⟩
theorem Rw.of_get {n m : Nat} {r : List Int} (hl : r.length = n) (h : ∀ (k : Nat) (y : Int), r[k]? = some y → 0 ≤ y ∧ y < (m : Int)) : Rw n m r := ⟨hl, fun x hx => by
  obtain ⟨k, hk⟩ := List.mem_iff_getElem?.mp hx
  exact h k x hk⟩
theorem Rw.perm {n : Nat} {r : List Int} (h : r.Perm (rl n)) : Rw n n r := ⟨by rw [h.length_eq, rl_len], fun x hx => by
  obtain ⟨k, hk, rfl⟩ := rl_mem.mp (h.mem_iff.mp hx)
  omega⟩
theorem Sq.look {n : Nat} {t : List (List Bool)} (h : Sq n t) {x : Nat} (hx : x < n) : ∃ r, atI t (x : Int) = some r ∧ r.length = n ∧ ∀ y : Nat, y < n → atI r (y : Int) = some (gt t x y) := by
  obtain ⟨r, h1, h2⟩ := h.rowk hx
  refine ⟨r, atI_nat? h1, h2, fun y hy => ?_⟩
  obtain ⟨u, u1, u2⟩ := h.at2 hx hy
  rw [atI_nat? h1] at u1
  cases u1
  exact u2
end CC
set_option maxHeartbeats 1000000
/-! Plain laws, more. -/
namespace CC
open PySem PySem.Spec L2
open PyProof.Rows hiding St
variable {α β γ δ τ υ ω ρ : Type}
theorem nodup_perm : ∀ {l m : List α}, l.Nodup → (∀ x ∈ l, x ∈ m) → m.length ≤ l.length → l.Perm m
  | [], m, _, _, hl => by rw [List.eq_nil_of_length_eq_zero (Nat.le_zero.mp hl)]
  | a :: l, m, h, s, hl => by
    obtain ⟨u, v, rfl⟩ := List.append_of_mem (s a List.mem_cons_self)
    have h' := List.nodup_cons.mp h
    refine (List.Perm.cons a (nodup_perm (m := u ++ v) h'.2 (fun x hx => ?_) ?_)).trans List.perm_middle.symm
    · have := s x (List.mem_cons_of_mem _ hx)
      have ne : x ≠ a := fun e => h'.1 (e ▸ hx)
      simp only [List.mem_append, List.mem_cons] at this ⊢
      rcases this with q | q | q
      · exact .inl q
      · exact absurd q ne
      · exact .inr q
    · simp only [List.length_append, List.length_cons] at hl ⊢
      omega
theorem comp2Go_eq {t : α → Option Bool} {itM : α → Option (List β)} {t1 : α → β → Option Bool} {f : α → β → Option γ} {it : α → List β} {p : α → β → Bool} {g : α → β → γ} : ∀ {xs : List α}, (∀ x ∈ xs, t x = some true) → (∀ x ∈ xs, itM x = some (it x)) → (∀ x ∈ xs, ∀ y ∈ it x, t1 x y = some (p x y)) → (∀ x ∈ xs, ∀ y ∈ it x, p x y = true → f x y = some (g x y)) →
    comp2Go t itM t1 f xs = some (xs.flatMap fun x => ((it x).filter (p x)).map (g x))
  | [], _, _, _, _ => rfl
  | x :: xs, h0, h1, h2, h3 => by
    show (t x).bind _ = _
    rw [h0 x List.mem_cons_self]
    show (itM x).bind _ = _
    rw [h1 x List.mem_cons_self]
    show (compGo (t1 x) (f x) (it x)).bind _ = _
    rw [compGo_eq (h2 x List.mem_cons_self) (h3 x List.mem_cons_self)]
    show (comp2Go t itM t1 f xs).bind _ = _
    rw [comp2Go_eq (fun y hy => h0 y (List.mem_cons_of_mem _ hy)) (fun y hy => h1 y (List.mem_cons_of_mem _ hy)) (fun y hy => h2 y (List.mem_cons_of_mem _ hy)) fun y hy => h3 y (List.mem_cons_of_mem _ hy)]
    rfl
theorem comp2M_eq {t : α → Option Bool} {itM : α → Option (List β)} {t1 : α → β → Option Bool} {f : α → β → Option γ} {it : α → List β} {p : α → β → Bool} {g : α → β → γ} {xs : List α} (h0 : ∀ x ∈ xs, t x = some true) (h1 : ∀ x ∈ xs, itM x = some (it x)) (h2 : ∀ x ∈ xs, ∀ y ∈ it x, t1 x y = some (p x y)) (h3 : ∀ x ∈ xs, ∀ y ∈ it x, p x y = true → f x y = some (g x y))
    (hl : (xs.flatMap fun x => ((it x).filter (p x)).map (g x)).length ≤ 1000000) : comp2M t itM t1 f xs = some (xs.flatMap fun x => ((it x).filter (p x)).map (g x)) := by
  unfold comp2M
  rw [comp2Go_eq h0 h1 h2 h3]
  show (if _ then _ else _) = _
  rw [if_pos (show _ ≤ LIM from hl)]
theorem eqP_prs (a b c d : Int) : eqP (.tup [.int a, .int b]) (.tup [.int c, .int d]) = some (decide (a = c) && decide (b = d)) := by
  have sh : ∀ a b : Int, SeqAt.shaped (toD (.tup [.int a, .int b])) = true := fun a b => rfl
  unfold eqP
  rw [if_pos ⟨sh a b, sh c d⟩]
  simp only [toD, toDs, PyData.eqv, PyData.eqvAll, Bool.and_true]
  rfl
/-- a loop that only goes through, by what was seen -/
theorem loopR_ok {f : Int → τ → Option (Out τ ρ)} (Inv : Nat → τ → Prop) {n : Nat} {s : τ} (h0 : Inv 0 s) (hs : ∀ k s, k < n → Inv k s → Ok (f (k : Int) s) fun o => ∃ s', (o = .nx s' ∨ o = .ct s') ∧ Inv (k + 1) s') : Ok (loopGo f (rl n) s) fun o => ∃ s', o = .nx s' ∧ Inv n s' := by
  have := loopGo_ok (Inv := Inv) (f := f) (rl n) 0 h0 fun k x s e h => by
    have hk : k < n := by
      have := (List.getElem?_eq_some_iff.mp e).1
      rwa [rl_len] at this
    rw [rl_get hk] at e
    rw [← Option.some.inj e]
    rw [Nat.zero_add] at h ⊢
    exact hs k s hk h
  rwa [Nat.zero_add, rl_len] at this
/-- .. an equation -/
theorem loopGo_eq {f : α → τ → Option (Out τ ρ)} (g : τ → α → τ) (I : τ → Prop) : ∀ {xs : List α} {s : τ}, I s → (∀ x ∈ xs, ∀ s, I s → (f x s = some (.nx (g s x)) ∨ f x s = some (.ct (g s x))) ∧ I (g s x)) → loopGo f xs s = some (.nx (xs.foldl g s)) ∧ I (xs.foldl g s)
  | [], s, h, _ => ⟨rfl, h⟩
  | x :: xs, s, h, hs => by
    obtain ⟨h1, h2⟩ := hs x List.mem_cons_self s h
    have := loopGo_eq g I (xs := xs) h2 fun y hy => hs y (List.mem_cons_of_mem _ hy)
    show (f x s).bind _ = _ ∧ _
    rcases h1 with h1 | h1 <;> rw [h1] <;> exact this
theorem foldGo_eq {f : α → τ → Option τ} (g : τ → α → τ) (I : τ → Prop) : ∀ {xs : List α} {s : τ}, I s → (∀ x ∈ xs, ∀ s, I s → f x s = some (g s x) ∧ I (g s x)) → foldGo f xs s = some (xs.foldl g s) ∧ I (xs.foldl g s)
  | [], s, h, _ => ⟨rfl, h⟩
  | x :: xs, s, h, hs => by
    obtain ⟨h1, h2⟩ := hs x List.mem_cons_self s h
    have := foldGo_eq g I (xs := xs) h2 fun y hy => hs y (List.mem_cons_of_mem _ hy)
    show (f x s).bind _ = _ ∧ _
    rw [h1]
    exact this
theorem nodup_len : ∀ {l m : List α}, l.Nodup → (∀ x ∈ l, x ∈ m) → l.length ≤ m.length
  | [], m, _, _ => Nat.zero_le _
  | a :: l, m, h, s => by
    obtain ⟨u, v, rfl⟩ := List.append_of_mem (s a List.mem_cons_self)
    have h' := List.nodup_cons.mp h
    have := nodup_len (m := u ++ v) h'.2 (fun x hx => by
      have := s x (List.mem_cons_of_mem _ hx)
      have ne : x ≠ a := fun e => h'.1 (e ▸ hx)
      simp only [List.mem_append, List.mem_cons] at this ⊢
      rcases this with q | q | q
      · exact .inl q
      · exact absurd q ne
      · exact .inr q)
    simp only [List.length_append, List.length_cons] at this ⊢
    omega
/-- a range from lo on -/
def rlo (lo n : Nat) : List Int := (List.range n).map fun i : Nat => ((lo + i : Nat) : Int)
theorem rlo_len (lo n : Nat) : (rlo lo n).length = n := by unfold rlo; rw [List.length_map, List.length_range]
theorem rlo_get {lo n k : Nat} (h : k < n) : (rlo lo n)[k]? = some ((lo + k : Nat) : Int) := by
  unfold rlo
  rw [List.getElem?_map, List.getElem?_range h]
  rfl
theorem rlo_mem {lo n : Nat} {x : Int} : x ∈ rlo lo n ↔ ∃ k : Nat, k < n ∧ x = ((lo + k : Nat) : Int) := by
  unfold rlo
  rw [List.mem_map]
  constructor
  · rintro ⟨k, h, rfl⟩
    exact ⟨k, List.mem_range.mp h, rfl⟩
  · rintro ⟨k, h, rfl⟩
    exact ⟨k, List.mem_range.mpr h, rfl⟩
theorem rng_lo {lo hi : Nat} (h1 : lo ≤ 1000000) (h2 : hi ≤ 1000000) : rng (lo : Int) (hi : Int) = some (rlo lo (hi - lo)) := by
  have hl : (LIM : Int) = 1000000 := rfl
  unfold rng rlo
  rw [if_pos (by rw [hl]; omega)]
  rw [show ((hi : Int) - (lo : Int)).toNat = hi - lo by omega]
  congr 1
theorem foldRL_ok {f : Int → τ → Option τ} (Inv : Nat → τ → Prop) {lo n : Nat} {s : τ} (h0 : Inv lo s) (hs : ∀ k s, lo ≤ k → k < lo + n → Inv k s → Ok (f (k : Int) s) (Inv (k + 1))) : Ok (foldGo f (rlo lo n) s) (Inv (lo + n)) := by
  have := foldG_ok (Inv := fun j => Inv (lo + j)) (f := f) (rlo lo n) 0 h0 fun k x s e h => by
    have hk : k < n := by
      have := (List.getElem?_eq_some_iff.mp e).1
      rwa [rlo_len] at this
    rw [rlo_get hk] at e
    rw [← Option.some.inj e]
    rw [Nat.zero_add] at h ⊢
    exact hs (lo + k) s (by omega) (by omega) h
  rwa [Nat.zero_add, rlo_len] at this
end CC
set_option maxHeartbeats 1000000
/-! Plain laws: while, masks, rows by place. -/
namespace CC
open PySem PySem.Spec L2
open PyProof.Rows hiding St
variable {α β γ δ τ υ ω ρ : Type}
theorem whileF_ok {c : τ → Option Bool} {f : τ → Option τ} {P : τ → Prop} (Inv : τ → Prop) (μ : τ → Nat) (hs : ∀ s, Inv s → Ok (c s) fun b => (b = true → Ok (f s) fun s' => Inv s' ∧ μ s' < μ s) ∧ (b = false → P s)) : ∀ {n : Nat} {s : τ}, Inv s → μ s < n → Ok (whileF c f n s) P
  | 0, s, _, h => absurd h (Nat.not_lt_zero _)
  | n + 1, s, hi, h => by
    obtain ⟨b, e, h1, h2⟩ := hs s hi
    show Ok ((c s).bind _) P
    rw [e]
    cases b with
    | false => exact .one (h2 rfl)
    | true =>
      obtain ⟨s', e', h3, h4⟩ := h1 rfl
      show Ok ((f s).bind _) P
      rw [e']
      exact whileF_ok Inv μ hs h3 (by omega)
/-- one turn -/
theorem whileF_turn {c : τ → Option Bool} {f : τ → Option τ} {n : Nat} {s s' : τ} (h : c s = some true) (k : f s = some s') : whileF c f (n + 1) s = whileF c f n s' := by
  show (c s).bind _ = _
  rw [h]
  show (f s).bind _ = _
  rw [k]
  rfl
theorem whileF_end {c : τ → Option Bool} {f : τ → Option τ} {n : Nat} {s : τ} (h : c s = some false) : whileF c f (n + 1) s = some s := by
  show (c s).bind _ = _
  rw [h]
  rfl
/-! ### bits -/
theorem bOr_nat (a b : Nat) : bOr (a : Int) (b : Int) = ((a ||| b : Nat) : Int) := by
  have := L2.bitOr_nn (x := (a : Int)) (y := (b : Int)) (by omega) (by omega)
  rw [Int.toNat_natCast, Int.toNat_natCast] at this
  exact this
theorem bAnd_nat (a b : Nat) : bAnd (a : Int) (b : Int) = ((a &&& b : Nat) : Int) := by
  unfold bAnd Builtin.bitAnd
  simp
theorem shl_one {y : Nat} (h : y ≤ 1000000) : shlO 1 (y : Int) = some ((2 ^ y : Nat) : Int) := by
  unfold shlO
  rw [if_pos ⟨by omega, by omega, by decide⟩, Int.toNat_natCast, Int.one_mul, PySem.W.kbt_cast]
theorem shr_nat (a y : Nat) : shrO (a : Int) (y : Int) = some ((a / 2 ^ y : Nat) : Int) := by
  unfold shrO
  rw [if_pos (by omega), Int.toNat_natCast, ← PySem.W.kbt_cast]
  rfl
/-- the least bit -/
theorem low_form : ∀ (m : Nat), 0 < m → ∃ k a, m = 2 ^ k * (2 * a + 1) := by
  intro m
  induction m using Nat.strongRecOn with
  | _ m ih =>
    intro h
    by_cases e : m % 2 = 1
    · exact ⟨0, m / 2, by omega⟩
    · obtain ⟨k, a, q⟩ := ih (m / 2) (by omega) (by omega)
      refine ⟨k + 1, a, ?_⟩
      have : m = 2 * (m / 2) := by omega
      rw [Nat.pow_succ, Nat.mul_comm (2 ^ k) 2, Nat.mul_assoc, ← q]
      exact this
theorem low_bit (k a j : Nat) : (2 ^ k * (2 * a + 1)).testBit j = (decide (k ≤ j) && (decide (j = k) || a.testBit (j - k - 1))) := by
  rw [Nat.testBit_two_pow_mul]
  by_cases h : k ≤ j
  · simp only [h, decide_true, Bool.true_and]
    by_cases e : j = k
    · subst e
      simp
    · obtain ⟨d, hd⟩ : ∃ d, j - k = d + 1 := ⟨j - k - 1, by omega⟩
      rw [hd, Nat.testBit_succ, show (2 * a + 1) / 2 = a by omega]
      simp [e]
  · simp [h]
theorem low_rest (k a j : Nat) : (2 ^ k * (2 * a + 1) - 2 ^ k).testBit j = (decide (k < j) && a.testBit (j - k - 1)) := by
  have e : 2 ^ k * (2 * a + 1) - 2 ^ k = 2 ^ (k + 1) * a := by
    rw [Nat.mul_add, Nat.mul_one, Nat.add_sub_cancel, Nat.pow_succ, Nat.mul_assoc]
  rw [e, Nat.testBit_two_pow_mul]
  by_cases h : k < j
  · simp [h, show k + 1 ≤ j by omega, show j - (k + 1) = j - k - 1 by omega]
  · simp [h, show ¬ k + 1 ≤ j by omega]
theorem bAnd_low (k a : Nat) : bAnd ((2 ^ k * (2 * a + 1) : Nat) : Int) (-((2 ^ k * (2 * a + 1) : Nat) : Int)) = ((2 ^ k : Nat) : Int) := by
  have := PySem.W.kbt_low k (a : Int)
  have c : ((2 ^ k * (2 * a + 1) : Nat) : Int) = 2 ^ k * (2 * (a : Int) + 1) := by
    rw [Int.natCast_mul, PySem.W.kbt_cast]
    rfl
  rw [c, PySem.W.kbt_cast]
  exact this
theorem bitLen_pow (k : Nat) : bitLen ((2 ^ k : Nat) : Int) = (k : Int) + 1 := by
  unfold bitLen Builtin.Int.intBits
  have h : (((2 ^ k : Nat) : Int) == 0) = false := by
    rw [beq_eq_false_iff_ne]
    have := Nat.two_pow_pos k
    omega
  rw [h]
  simp only [Bool.false_eq_true, if_false, Int.natAbs_natCast, Nat.log2_two_pow]
  rfl
/-- the points of a mask, ascending -/
def bitsL (n : Nat) (m : Nat) : List Int := (rl n).filter fun x => m.testBit x.toNat
theorem bitsL_mem {n m : Nat} {x : Int} : x ∈ bitsL n m ↔ ∃ k : Nat, k < n ∧ m.testBit k = true ∧ x = (k : Int) := by
  unfold bitsL
  rw [List.mem_filter, rl_mem]
  constructor
  · rintro ⟨⟨k, h, rfl⟩, h2⟩
    rw [Int.toNat_natCast] at h2
    exact ⟨k, h, h2, rfl⟩
  · rintro ⟨k, h, h2, rfl⟩
    exact ⟨⟨k, h, rfl⟩, by rw [Int.toNat_natCast]; exact h2⟩
theorem bitsL_len (n m : Nat) : (bitsL n m).length ≤ n := by
  unfold bitsL
  refine Nat.le_trans (List.length_filter_le _ _) ?_
  rw [rl_len]
  exact Nat.le_refl _
theorem rl_split {n k : Nat} (h : k < n) : ∃ r, rl n = rl k ++ (k : Int) :: r ∧ ∀ x ∈ r, ∃ j : Nat, k < j ∧ j < n ∧ x = (j : Int) := by
  refine ⟨(List.range (n - k - 1)).map fun i : Nat => ((k + 1 + i : Nat) : Int), ?_, fun x hx => ?_⟩
  · refine List.ext_getElem? fun i => ?_
    by_cases h1 : i < k
    · rw [rl_get (by omega), List.getElem?_append_left (by rw [rl_len]; exact h1), rl_get h1]
    · rw [List.getElem?_append_right (by rw [rl_len]; omega), rl_len]
      by_cases h2 : i = k
      · subst h2
        rw [rl_get h, Nat.sub_self]
        rfl
      · obtain ⟨d, hd⟩ : ∃ d, i - k = d + 1 := ⟨i - k - 1, by omega⟩
        rw [hd, List.getElem?_cons_succ, List.getElem?_map]
        by_cases h3 : i < n
        · rw [rl_get h3, List.getElem?_range (by omega)]
          show some (i : Int) = some _
          congr 2
          omega
        · rw [List.getElem?_eq_none (by rw [rl_len]; omega), List.getElem?_eq_none (by rw [List.length_range]; omega)]
          rfl
  · obtain ⟨i, hi, rfl⟩ := List.mem_map.mp hx
    have := List.mem_range.mp hi
    exact ⟨k + 1 + i, by omega, by omega, rfl⟩
theorem bitsL_low {n k a : Nat} (h : k < n) : bitsL n (2 ^ k * (2 * a + 1)) = (k : Int) :: bitsL n (2 ^ k * (2 * a + 1) - 2 ^ k) := by
  obtain ⟨r, e, hr⟩ := rl_split h
  unfold bitsL
  rw [e, List.filter_append, List.filter_append, List.filter_cons, List.filter_cons]
  have z1 : (rl k).filter (fun x => (2 ^ k * (2 * a + 1)).testBit x.toNat) = [] := List.filter_eq_nil_iff.mpr fun x hx => by
    obtain ⟨j, hj, rfl⟩ := rl_mem.mp hx
    rw [Int.toNat_natCast, low_bit]
    simp [show ¬ k ≤ j by omega]
  have z2 : (rl k).filter (fun x => (2 ^ k * (2 * a + 1) - 2 ^ k).testBit x.toNat) = [] := List.filter_eq_nil_iff.mpr fun x hx => by
    obtain ⟨j, hj, rfl⟩ := rl_mem.mp hx
    rw [Int.toNat_natCast, low_rest]
    simp [show ¬ k < j by omega]
  have c1 : (2 ^ k * (2 * a + 1)).testBit ((k : Int)).toNat = true := by
    rw [Int.toNat_natCast, low_bit]
    simp
  have c2 : (2 ^ k * (2 * a + 1) - 2 ^ k).testBit ((k : Int)).toNat = false := by
    rw [Int.toNat_natCast, low_rest]
    simp
  rw [z1, z2, if_pos c1, if_neg (by rw [c2]; exact fun z => nomatch z)]
  simp only [List.nil_append]
  congr 1
  refine List.filter_congr fun x hx => ?_
  obtain ⟨j, h1, h2, rfl⟩ := hr x hx
  rw [Int.toNat_natCast, low_bit, low_rest]
  simp [show k ≤ j by omega, show j ≠ k by omega, h1]
theorem bitsL_zero (n : Nat) : bitsL n 0 = [] := List.filter_eq_nil_iff.mpr fun x _ => by simp
theorem bit_pos {m k : Nat} (h : m.testBit k = true) : 0 < m := by
  cases m with
  | zero => simp at h
  | succ m => exact Nat.succ_pos m
theorem and_zero_iff {a b : Nat} : a &&& b = 0 ↔ ∀ y, ¬ (a.testBit y = true ∧ b.testBit y = true) := by
  constructor
  · intro h y ⟨h1, h2⟩
    have : (a &&& b).testBit y = true := by rw [Nat.testBit_and, h1, h2]; rfl
    rw [h, Nat.zero_testBit] at this
    cases this
  · intro h
    refine Nat.eq_of_testBit_eq fun y => ?_
    rw [Nat.zero_testBit, Nat.testBit_and]
    cases h1 : a.testBit y with
    | false => rfl
    | true =>
      cases h2 : b.testBit y with
      | false => rfl
      | true => exact absurd ⟨h1, h2⟩ (h y)
/-- masks by place -/
structure Msk (n : Nat) (L : List Int) (f : Nat → Nat → Bool) : Prop where
  len : L.length = n
  look : ∀ x, x < n → ∃ m : Nat, atI L (x : Int) = some (m : Int) ∧ ∀ y, m.testBit y = f x y
theorem Msk.zero (n : Nat) : Msk n (List.replicate n (0 : Int)) fun _ _ => false := ⟨List.length_replicate, fun x hx => ⟨0, by
  rw [atI_nat (by rw [List.length_replicate]; exact hx), List.getElem_replicate]
  rfl, fun y => Nat.zero_testBit y⟩⟩
theorem Msk.set {n : Nat} {L : List Int} {f : Nat → Nat → Bool} (h : Msk n L f) {x m : Nat} (hx : x < n) : setAt L (x : Int) (m : Int) = some (L.set x (m : Int)) ∧ Msk n (L.set x (m : Int)) fun i y => if i = x then m.testBit y else f i y := by
  refine ⟨setAt_nat (by rw [h.len]; exact hx), by rw [List.length_set]; exact h.len, fun i hi => ?_⟩
  have hi' : i < (L.set x (m : Int)).length := by rw [List.length_set, h.len]; exact hi
  rw [atI_nat hi']
  by_cases e : i = x
  · subst e
    exact ⟨m, by rw [List.getElem_set_self], fun y => by rw [if_pos rfl]⟩
  · obtain ⟨k, h1, h2⟩ := h.look i hi
    rw [atI_nat (by rw [h.len]; exact hi)] at h1
    exact ⟨k, by rw [List.getElem_set_ne (fun q => e q.symm)]; exact h1, fun y => by rw [if_neg e]; exact h2 y⟩
theorem Msk.congr {n : Nat} {L : List Int} {f g : Nat → Nat → Bool} (h : Msk n L f) (e : ∀ x y, x < n → f x y = g x y) : Msk n L g := ⟨h.len, fun x hx => by
  obtain ⟨m, h1, h2⟩ := h.look x hx
  exact ⟨m, h1, fun y => (h2 y).trans (e x y hx)⟩⟩
theorem repM_one {x : α} {n : Nat} (h : n ≤ 1000000) : repM [x] (n : Int) = some (List.replicate n x) := by
  unfold repM
  rw [if_pos ⟨by rw [List.length_singleton, Nat.one_mul, Int.toNat_natCast]; exact h, by omega, by omega⟩, Int.toNat_natCast]
  congr 1
  induction n with
  | zero => rfl
  | succ n ih =>
    rw [List.replicate_succ, List.flatten_cons, ih (by omega), List.replicate_succ]
    rfl
/-! ### pairs in order -/
theorem ltPI_irr (x : Int × Int) : ltPI x x = false := by unfold ltPI; simp
theorem ltPI_trans {x y z : Int × Int} (h : ltPI x y = true) (k : ltPI y z = true) : ltPI x z = true := by
  unfold ltPI at *
  split at h <;> split at k <;> split <;> simp only [decide_eq_true_eq] at * <;> omega
theorem ltPI_tri {x y : Int × Int} (h : ltPI x y = false) (k : x ≠ y) : ltPI y x = true := by
  unfold ltPI at *
  obtain ⟨a, b⟩ := x
  obtain ⟨c, d⟩ := y
  simp only [ne_eq, Prod.mk.injEq] at *
  split at h <;> split <;> simp only [decide_eq_true_eq, decide_eq_false_iff_not] at * <;> omega
/-- pairs that ascend -/
def Asc (ps : List (Int × Int)) : Prop := ps.Pairwise fun x y => ltPI x y = true
theorem Asc.get {ps : List (Int × Int)} (h : Asc ps) {i j : Nat} (hij : i < j) (hj : j < ps.length) : ltPI (ps[i]'(by omega)) ps[j] = true := List.pairwise_iff_getElem.mp h i j (by omega) hj hij
/-! ### tuples of ints, alike -/
theorem ints_lay : ∀ xs : List Int, PyData.canLayAll0 (toDs (xs.map PV.int)) = true ∧ PyData.depthAll (toDs (xs.map PV.int)) = 0
  | [] => ⟨rfl, rfl⟩
  | x :: xs => by
    obtain ⟨h1, h2⟩ := ints_lay xs
    constructor
    · simp [toDs, toD, PyData.canLayAll0, PyData.canLay0, h1]
    · simp [toDs, toD, PyData.depthAll, PyData.depth, h2]
theorem ints_eqv : ∀ xs ys : List Int, PyData.eqvAll (toDs (xs.map PV.int)) (toDs (ys.map PV.int)) = decide (xs = ys)
  | [], [] => rfl
  | [], y :: ys => by simp [toDs, PyData.eqvAll]
  | x :: xs, [] => by simp [toDs, PyData.eqvAll]
  | x :: xs, y :: ys => by
    simp only [List.map_cons, toDs, toD, PyData.eqvAll, PyData.eqv, ints_eqv xs ys]
    by_cases e : x = y
    · subst e; simp
    · simp [e]
theorem eqP_ints (xs ys : List Int) : eqP (.tup (xs.map PV.int)) (.tup (ys.map PV.int)) = some (decide (xs = ys)) := by
  have sh : ∀ xs : List Int, SeqAt.shaped (toD (.tup (xs.map PV.int))) = true := fun xs => by
    obtain ⟨h1, h2⟩ := ints_lay xs
    unfold SeqAt.shaped
    simp [toD, PyData.canLay0, PyData.depth, h1, h2]
  unfold eqP
  rw [if_pos ⟨sh xs, sh ys⟩]
  congr 1
  simp only [toD, PyData.eqv]
  exact ints_eqv xs ys
end CC
set_option maxHeartbeats 4000000
namespace K13
open PySem PySem.Spec L2 CC
open PyProof.Rows hiding St
def topS (i : Nat) : Stmt := PySem.Challenge.pw_chaincore_k13_small_steps.main.body.getD i (.Pass ⟨0, 0, 0, 0⟩)
abbrev s__law_start : Stmt := topS 20
abbrev s__law_mixed : Stmt := topS 19
abbrev s__law_draw : Stmt := topS 21
abbrev s__law_size : Stmt := topS 30
abbrev s__law_lows : Stmt := topS 23
abbrev s__law_order : Stmt := topS 24
abbrev s__law_steep : Stmt := topS 31
abbrev s__law_over : Stmt := topS 32
abbrev s__law_under : Stmt := topS 38
abbrev s__law_at_most : Stmt := topS 25
abbrev s__law_fits : Stmt := topS 29
abbrev s_high_masks : Stmt := topS 9
abbrev s_points_in : Stmt := topS 8
abbrev s__points_of : Stmt := topS 14
abbrev s_low_masks : Stmt := topS 10
abbrev s_covers : Stmt := topS 12
abbrev s__cover_neighbours : Stmt := topS 16
abbrev s_at_least_masks : Stmt := topS 11
abbrev s__fits : Stmt := topS 15
abbrev s_apply_steps : Stmt := topS 17
abbrev s__law_asked : Stmt := topS 37
abbrev s__law_same : Stmt := topS 22
abbrev s__law_covers : Stmt := topS 26
abbrev s__law_kind : Stmt := topS 34
abbrev s__law_large_right : Stmt := topS 39
abbrev s__law_orders : Stmt := topS 28
abbrev s__law_map : Stmt := topS 27
abbrev s__law_steps_of : Stmt := topS 35
abbrev s__law_wrong : Stmt := topS 36
abbrev s_law : Stmt := topS 40
theorem sc__law_start : FnScope ["script", "cells", "cell"] ["script"] (defScope s__law_start) := ⟨rfl, rfl, rfl, by decide +kernel, rfl, by decide +kernel, by decide +kernel⟩
theorem sc__law_mixed : FnScope ["cell", "turn", "one", "two"] ["cell", "turn"] (defScope s__law_mixed) := ⟨rfl, rfl, rfl, by decide +kernel, rfl, by decide +kernel, by decide +kernel⟩
theorem sc__law_draw : FnScope ["state", "limit", "turn", "found", "cell", "seed"] ["state", "limit"] (defScope s__law_draw) := ⟨rfl, rfl, rfl, by decide +kernel, rfl, by decide +kernel, by decide +kernel⟩
theorem sc__law_size : FnScope ["state"] ["state"] (defScope s__law_size) := ⟨rfl, rfl, rfl, by decide +kernel, rfl, by decide +kernel, by decide +kernel⟩
theorem sc__law_lows : FnScope ["state", "earlier", "kind", "one", "a", "k"] ["state", "earlier", "kind"] (defScope s__law_lows) := ⟨rfl, rfl, rfl, by decide +kernel, rfl, by decide +kernel, by decide +kernel⟩
theorem sc__law_order : FnScope ["state", "n", "kinds", "line", "k", "kind", "less", "pairs", "x", "near", "y", "a", "here"] ["state", "n", "kinds"] (defScope s__law_order) := ⟨rfl, rfl, rfl, by decide +kernel, rfl, by decide +kernel, by decide +kernel⟩
theorem sc__law_steep : FnScope ["state", "first", "second", "chain", "k", "labels", "x", "ups", "label", "y", "v"] ["state", "first", "second"] (defScope s__law_steep) := ⟨rfl, rfl, rfl, by decide +kernel, rfl, by decide +kernel, by decide +kernel⟩
theorem sc__law_over : FnScope ["less", "a", "ups", "v", "z"] ["less", "a"] (defScope s__law_over) := ⟨rfl, rfl, rfl, by decide +kernel, rfl, by decide +kernel, by decide +kernel⟩
theorem sc__law_under : FnScope ["less", "a", "downs", "v", "z"] ["less", "a"] (defScope s__law_under) := ⟨rfl, rfl, rfl, by decide +kernel, rfl, by decide +kernel, by decide +kernel⟩
theorem sc__law_at_most : FnScope ["less", "a", "b"] ["less", "a", "b"] (defScope s__law_at_most) := ⟨rfl, rfl, rfl, by decide +kernel, rfl, by decide +kernel, by decide +kernel⟩
theorem sc__law_fits : FnScope ["first", "second", "row", "x", "v", "less", "y"] ["first", "second", "row", "x", "v"] (defScope s__law_fits) := ⟨rfl, rfl, rfl, by decide +kernel, rfl, by decide +kernel, by decide +kernel⟩
theorem sc_high_masks : FnScope ["order", "masks", "n", "pairs", "x", "y"] ["order"] (defScope s_high_masks) := ⟨rfl, rfl, rfl, by decide +kernel, rfl, by decide +kernel, by decide +kernel⟩
theorem sc_points_in : FnScope ["mask", "found", "lowest"] ["mask"] (defScope s_points_in) := ⟨rfl, rfl, rfl, by decide +kernel, rfl, by decide +kernel, by decide +kernel⟩
theorem sc__points_of : FnScope ["masks", "mask"] ["masks"] (defScope s__points_of) := ⟨rfl, rfl, rfl, by decide +kernel, rfl, by decide +kernel, by decide +kernel⟩
theorem sc_low_masks : FnScope ["order", "masks", "n", "pairs", "x", "y"] ["order"] (defScope s_low_masks) := ⟨rfl, rfl, rfl, by decide +kernel, rfl, by decide +kernel, by decide +kernel⟩
theorem sc_covers : FnScope ["order", "highs", "lows", "x", "y"] ["order"] (defScope s_covers) := ⟨rfl, rfl, rfl, by decide +kernel, rfl, by decide +kernel, by decide +kernel⟩
theorem sc__cover_neighbours : FnScope ["order", "links", "ups", "downs", "x"] ["order"] (defScope s__cover_neighbours) := ⟨rfl, rfl, rfl, by decide +kernel, rfl, by decide +kernel, by decide +kernel⟩
theorem sc_at_least_masks : FnScope ["order", "x", "mask"] ["order"] (defScope s_at_least_masks) := ⟨rfl, rfl, rfl, by decide +kernel, rfl, by decide +kernel, by decide +kernel⟩
theorem sc__fits : FnScope ["now", "x", "highs", "lows", "reach", "y"] ["now", "x", "highs", "lows", "reach"] (defScope s__fits) := ⟨rfl, rfl, rfl, by decide +kernel, rfl, by decide +kernel, by decide +kernel⟩
theorem sc_apply_steps : FnScope ["first", "second", "row", "steps", "highs", "lows", "near", "reach", "now", "at", "step", "x", "value"] ["first", "second", "row", "steps"] (defScope s_apply_steps) := ⟨rfl, rfl, rfl, by decide +kernel, rfl, by decide +kernel, by decide +kernel⟩
theorem sc__law_asked : FnScope ["first", "second", "row", "steps", "named", "e", "other"] ["first", "second", "row", "steps", "named"] (defScope s__law_asked) := ⟨rfl, rfl, rfl, by decide +kernel, rfl, by decide +kernel, by decide +kernel⟩
theorem sc__law_same : FnScope ["actual", "due", "k"] ["actual", "due"] (defScope s__law_same) := ⟨rfl, rfl, rfl, by decide +kernel, rfl, by decide +kernel, by decide +kernel⟩
theorem sc__law_covers : FnScope ["less", "a", "b", "z"] ["less", "a", "b"] (defScope s__law_covers) := ⟨rfl, rfl, rfl, by decide +kernel, rfl, by decide +kernel, by decide +kernel⟩
theorem sc__law_kind : FnScope ["first", "second", "row", "x", "v", "less", "a", "fits"] ["first", "second", "row", "x", "v"] (defScope s__law_kind) := ⟨rfl, rfl, rfl, by decide +kernel, rfl, by decide +kernel, by decide +kernel⟩
theorem sc__law_large_right : FnScope ["state", "first", "second", "row", "here", "steps", "k", "wrong", "told", "x", "near", "fits", "v"] ["state"] (defScope s__law_large_right) := ⟨rfl, rfl, rfl, by decide +kernel, rfl, by decide +kernel, by decide +kernel⟩
theorem sc__law_orders : FnScope ["state", "kind", "n", "m"] ["state"] (defScope s__law_orders) := ⟨rfl, rfl, rfl, by decide +kernel, rfl, by decide +kernel, by decide +kernel⟩
theorem sc__law_map : FnScope ["state", "first", "second", "n", "m", "row", "x", "lows", "fits", "value", "y", "v", "a"] ["state", "first", "second"] (defScope s__law_map) := ⟨rfl, rfl, rfl, by decide +kernel, rfl, by decide +kernel, by decide +kernel⟩
theorem sc__law_steps_of : FnScope ["first", "second", "row", "kind", "found", "x", "v"] ["first", "second", "row", "kind"] (defScope s__law_steps_of) := ⟨rfl, rfl, rfl, by decide +kernel, rfl, by decide +kernel, by decide +kernel⟩
theorem sc__law_wrong : FnScope ["state", "first", "second", "row", "n", "m", "kind", "found", "x", "v"] ["state", "first", "second", "row"] (defScope s__law_wrong) := ⟨rfl, rfl, rfl, by decide +kernel, rfl, by decide +kernel, by decide +kernel⟩
theorem sc_law : FnScope ["script", "state", "row", "rows", "steps", "k", "part", "turn", "first", "second", "found", "at", "others", "x", "v"] ["script"] (defScope s_law) := ⟨rfl, rfl, rfl, by decide +kernel, rfl, by decide +kernel, by decide +kernel⟩
def h0O (s : ((List Int) × Int × Int × Int × Int × (List Int))) : OP := hetO [sh ((lstS intS) s.1), sh (intS s.2.1), sh (intS s.2.2.1), sh (intS s.2.2.2.1), sh (intS s.2.2.2.2.1), sh ((lstS intS) s.2.2.2.2.2)]
inductive Ex where
  | BadStep (z : Int)
def Ex.k {ω : Type} (u : Ex) (a0 : Int → Option ω) : Option ω := match u with | .BadStep z => a0 z
def ExA (K : PySem.W.Frag) (u : Ex) : Addr := match u with | .BadStep _ => He.ga K "BadStep"
def ExD (u : Ex) : Option (Str × SP) := match u with | .BadStep z => some ("at", intS z)
def Xp (K : PySem.W.Frag) (u : Ex) : XP := excX (ExA K u) (ExD u)
theorem Ex.hs {ω : Type} {K : PySem.W.Frag} {S : Stc} {B : List Stmt} {Γx : CC.Ctx} {i : Nat} {D : ω → Kd} {m0 : Int → Option ω} (h0 : ∀ z, ∀ a d, JB (S.suiE a (He.ga K "BadStep") d) B (Γx.set i (some (sh (excS a d (some ("at", intS z)))))) (m0 z) D) : ∀ u a d, JB (S.suiE a (ExA K u) d) B (Γx.set i (some (sh (excS a d (ExD u))))) (Ex.k u m0) D := fun u a d => match u with | .BadStep z => h0 z a d
theorem Ex.hu {ω : Type} {S : Stc} {B : List Stmt} {Γx : CC.Ctx} {D : ω → Kd} {m0 : Int → Option ω} (h0 : ∀ z, JB S B Γx (m0 z) D) : ∀ u, JB S B Γx (Ex.k u m0) D := fun u => match u with | .BadStep z => h0 z
theorem Ex.al {K : PySem.W.Frag} {c : Value} (h0 : PySem.W.exmOne K (.ref (He.ga K "BadStep")) c = some true) : ∀ u, PySem.W.exmOne K (.ref (ExA K u)) c = some true := fun u => match u with | .BadStep _ => h0
theorem Ex.ax {K : PySem.W.Frag} {c : Value} (h : ∀ u, PySem.W.exmOne K (.ref (ExA K u)) c = some true) : ∀ u B c' d, (Xp K u).P B c' d → PySem.W.exmOne K c' c = some true := fun u B c' d e => by cases e.1; exact h u
abbrev fl_ : Str := PySem.Challenge.pw_chaincore_k13_small_steps.main.file
abbrev si_BadStep : Stmt := clsM (topS 4) 0
def sd_BadStep : SupD := ⟨"BadStep", "BadStep.__init__", defArgs si_BadStep, defBody si_BadStep, defScope si_BadStep⟩
theorem sh_BadStep : ShI sd_BadStep "at" "at" := ⟨⟨_, _, _, _, _, _, _, _, _, _, _, _, _, rfl, rfl, rfl, fun _ => rfl, fun _ => ⟨_, rfl⟩, fun _ => rfl, fun _ => rfl⟩, NdefX.nscope_by (by decide +kernel), by decide +kernel, ⟨by decide, by decide⟩, fun _ _ _ _ _ _ us hl => match us, hl with | [_, _], _ => rfl⟩
/-- what the top has left -/
structure Tx (P : Program) (K : PySem.W.Frag) (mg : Str → Option Value) where
  a__law_start : Addr
  d__law_start : FuncData
  F__law_start : FnP K "_law_start" s__law_start a__law_start d__law_start
  b__law_start : Binds K d__law_start ["script"] []
  g__law_start : mg "_law_start" = some (.ref a__law_start)
  a__law_mixed : Addr
  d__law_mixed : FuncData
  F__law_mixed : FnP K "_law_mixed" s__law_mixed a__law_mixed d__law_mixed
  b__law_mixed : Binds K d__law_mixed ["cell", "turn"] []
  g__law_mixed : mg "_law_mixed" = some (.ref a__law_mixed)
  a__law_draw : Addr
  d__law_draw : FuncData
  F__law_draw : FnP K "_law_draw" s__law_draw a__law_draw d__law_draw
  b__law_draw : Binds K d__law_draw ["state", "limit"] []
  g__law_draw : mg "_law_draw" = some (.ref a__law_draw)
  a__law_size : Addr
  d__law_size : FuncData
  F__law_size : FnP K "_law_size" s__law_size a__law_size d__law_size
  b__law_size : Binds K d__law_size ["state"] []
  g__law_size : mg "_law_size" = some (.ref a__law_size)
  a__law_lows : Addr
  d__law_lows : FuncData
  F__law_lows : FnP K "_law_lows" s__law_lows a__law_lows d__law_lows
  b__law_lows : Binds K d__law_lows ["state", "earlier", "kind"] []
  g__law_lows : mg "_law_lows" = some (.ref a__law_lows)
  a__law_order : Addr
  d__law_order : FuncData
  F__law_order : FnP K "_law_order" s__law_order a__law_order d__law_order
  b__law_order : Binds K d__law_order ["state", "n", "kinds"] []
  g__law_order : mg "_law_order" = some (.ref a__law_order)
  a__law_steep : Addr
  d__law_steep : FuncData
  F__law_steep : FnP K "_law_steep" s__law_steep a__law_steep d__law_steep
  b__law_steep : Binds K d__law_steep ["state", "first", "second"] []
  g__law_steep : mg "_law_steep" = some (.ref a__law_steep)
  a__law_over : Addr
  d__law_over : FuncData
  F__law_over : FnP K "_law_over" s__law_over a__law_over d__law_over
  b__law_over : Binds K d__law_over ["less", "a"] []
  g__law_over : mg "_law_over" = some (.ref a__law_over)
  a__law_under : Addr
  d__law_under : FuncData
  F__law_under : FnP K "_law_under" s__law_under a__law_under d__law_under
  b__law_under : Binds K d__law_under ["less", "a"] []
  g__law_under : mg "_law_under" = some (.ref a__law_under)
  a__law_at_most : Addr
  d__law_at_most : FuncData
  F__law_at_most : FnP K "_law_at_most" s__law_at_most a__law_at_most d__law_at_most
  b__law_at_most : Binds K d__law_at_most ["less", "a", "b"] []
  g__law_at_most : mg "_law_at_most" = some (.ref a__law_at_most)
  a__law_fits : Addr
  d__law_fits : FuncData
  F__law_fits : FnP K "_law_fits" s__law_fits a__law_fits d__law_fits
  b__law_fits : Binds K d__law_fits ["first", "second", "row", "x", "v"] []
  g__law_fits : mg "_law_fits" = some (.ref a__law_fits)
  a_high_masks : Addr
  d_high_masks : FuncData
  F_high_masks : FnP K "high_masks" s_high_masks a_high_masks d_high_masks
  b_high_masks : Binds K d_high_masks ["order"] []
  g_high_masks : mg "high_masks" = some (.ref a_high_masks)
  a_points_in : Addr
  d_points_in : FuncData
  F_points_in : FnP K "points_in" s_points_in a_points_in d_points_in
  b_points_in : Binds K d_points_in ["mask"] []
  g_points_in : mg "points_in" = some (.ref a_points_in)
  a__points_of : Addr
  d__points_of : FuncData
  F__points_of : FnP K "_points_of" s__points_of a__points_of d__points_of
  b__points_of : Binds K d__points_of ["masks"] []
  g__points_of : mg "_points_of" = some (.ref a__points_of)
  a_low_masks : Addr
  d_low_masks : FuncData
  F_low_masks : FnP K "low_masks" s_low_masks a_low_masks d_low_masks
  b_low_masks : Binds K d_low_masks ["order"] []
  g_low_masks : mg "low_masks" = some (.ref a_low_masks)
  a_covers : Addr
  d_covers : FuncData
  F_covers : FnP K "covers" s_covers a_covers d_covers
  b_covers : Binds K d_covers ["order"] []
  g_covers : mg "covers" = some (.ref a_covers)
  a__cover_neighbours : Addr
  d__cover_neighbours : FuncData
  F__cover_neighbours : FnP K "_cover_neighbours" s__cover_neighbours a__cover_neighbours d__cover_neighbours
  b__cover_neighbours : Binds K d__cover_neighbours ["order"] []
  g__cover_neighbours : mg "_cover_neighbours" = some (.ref a__cover_neighbours)
  a_at_least_masks : Addr
  d_at_least_masks : FuncData
  F_at_least_masks : FnP K "at_least_masks" s_at_least_masks a_at_least_masks d_at_least_masks
  b_at_least_masks : Binds K d_at_least_masks ["order"] []
  g_at_least_masks : mg "at_least_masks" = some (.ref a_at_least_masks)
  a__fits : Addr
  d__fits : FuncData
  F__fits : FnP K "_fits" s__fits a__fits d__fits
  b__fits : Binds K d__fits ["now", "x", "highs", "lows", "reach"] []
  g__fits : mg "_fits" = some (.ref a__fits)
  a_apply_steps : Addr
  d_apply_steps : FuncData
  F_apply_steps : FnP K "apply_steps" s_apply_steps a_apply_steps d_apply_steps
  b_apply_steps : Binds K d_apply_steps ["first", "second", "row", "steps"] []
  q0_apply_steps : KBn K d_apply_steps ["first", "second", "row", "steps"] 0 ["steps", "row", "second", "first"] (fun us ws => sel (us ++ ws) [3, 2, 1, 0]) (fun vs zs => sel (vs ++ zs) [3, 2, 1, 0])
  g_apply_steps : mg "apply_steps" = some (.ref a_apply_steps)
  a__law_asked : Addr
  d__law_asked : FuncData
  F__law_asked : FnP K "_law_asked" s__law_asked a__law_asked d__law_asked
  b__law_asked : Binds K d__law_asked ["first", "second", "row", "steps", "named"] []
  g__law_asked : mg "_law_asked" = some (.ref a__law_asked)
  a__law_same : Addr
  d__law_same : FuncData
  F__law_same : FnP K "_law_same" s__law_same a__law_same d__law_same
  b__law_same : Binds K d__law_same ["actual", "due"] []
  g__law_same : mg "_law_same" = some (.ref a__law_same)
  a__law_covers : Addr
  d__law_covers : FuncData
  F__law_covers : FnP K "_law_covers" s__law_covers a__law_covers d__law_covers
  b__law_covers : Binds K d__law_covers ["less", "a", "b"] []
  g__law_covers : mg "_law_covers" = some (.ref a__law_covers)
  a__law_kind : Addr
  d__law_kind : FuncData
  F__law_kind : FnP K "_law_kind" s__law_kind a__law_kind d__law_kind
  b__law_kind : Binds K d__law_kind ["first", "second", "row", "x", "v"] []
  g__law_kind : mg "_law_kind" = some (.ref a__law_kind)
  a__law_large_right : Addr
  d__law_large_right : FuncData
  F__law_large_right : FnP K "_law_large_right" s__law_large_right a__law_large_right d__law_large_right
  b__law_large_right : Binds K d__law_large_right ["state"] []
  g__law_large_right : mg "_law_large_right" = some (.ref a__law_large_right)
  a__law_orders : Addr
  d__law_orders : FuncData
  F__law_orders : FnP K "_law_orders" s__law_orders a__law_orders d__law_orders
  b__law_orders : Binds K d__law_orders ["state"] []
  g__law_orders : mg "_law_orders" = some (.ref a__law_orders)
  a__law_map : Addr
  d__law_map : FuncData
  F__law_map : FnP K "_law_map" s__law_map a__law_map d__law_map
  b__law_map : Binds K d__law_map ["state", "first", "second"] []
  g__law_map : mg "_law_map" = some (.ref a__law_map)
  a__law_steps_of : Addr
  d__law_steps_of : FuncData
  F__law_steps_of : FnP K "_law_steps_of" s__law_steps_of a__law_steps_of d__law_steps_of
  b__law_steps_of : Binds K d__law_steps_of ["first", "second", "row", "kind"] []
  g__law_steps_of : mg "_law_steps_of" = some (.ref a__law_steps_of)
  a__law_wrong : Addr
  d__law_wrong : FuncData
  F__law_wrong : FnP K "_law_wrong" s__law_wrong a__law_wrong d__law_wrong
  b__law_wrong : Binds K d__law_wrong ["state", "first", "second", "row"] []
  g__law_wrong : mg "_law_wrong" = some (.ref a__law_wrong)
  a_law : Addr
  d_law : FuncData
  F_law : FnP K "law" s_law a_law d_law
  b_law : Binds K d_law ["script"] []
  g_law : mg "law" = some (.ref a_law)
  m_int : mg "int" = none
  m_len : mg "len" = none
  m_range : mg "range" = none
  m_tuple : mg "tuple" = none
  m_list : mg "list" = none
  m_enumerate : mg "enumerate" = none
  m_super : mg "super" = none
  m_isinstance : mg "isinstance" = none
  m_ValueError : mg "ValueError" = none
  m_bool : mg "bool" = none
  m_str : mg "str" = none
  m_max : mg "max" = none
  g_BadStep : mg "BadStep" = some (.ref (He.ga K "BadStep"))
  g_BadMap : mg "BadMap" = some (.ref (He.ga K "BadMap"))
  g_BadOrder : mg "BadOrder" = some (.ref (He.ga K "BadOrder"))
  g_NotAbove : mg "NotAbove" = some (.ref (He.ga K "NotAbove"))
  g_TooLarge : mg "TooLarge" = some (.ref (He.ga K "TooLarge"))
  g_StrikeError : mg "StrikeError" = some (.ref (He.ga K "StrikeError"))
  no_BadStep_at : PySem.W.findIn K (.ref (He.ga K "BadStep")) "at" = some none
  s_BadStep : SupF K fl_ (He.ga K "BadStep") (iAd K "BadStep") sd_BadStep
  pf : PF P fl_
  e_BadStep : ExcC K (He.ga K "BadStep")
  k_BadStep_BadMap : PySem.W.kitOne K (.ref (He.ga K "BadStep")) (.ref (He.ga K "BadMap")) = some false
  k_BadStep_BadOrder : PySem.W.kitOne K (.ref (He.ga K "BadStep")) (.ref (He.ga K "BadOrder")) = some false
  k_BadStep_NotAbove : PySem.W.kitOne K (.ref (He.ga K "BadStep")) (.ref (He.ga K "NotAbove")) = some false
  k_BadStep_TooLarge : PySem.W.kitOne K (.ref (He.ga K "BadStep")) (.ref (He.ga K "TooLarge")) = some false
  k_BadStep_StrikeError : PySem.W.kitOne K (.ref (He.ga K "BadStep")) (.ref (He.ga K "StrikeError")) = some true
  kt_BadStep_ValueError : PySem.W.kitOne K (.ref (He.ga K "BadStep")) (.type "ValueError") = some true
  h_BadStep_BadStep : PySem.W.exmOne K (.ref (He.ga K "BadStep")) (.ref (He.ga K "BadStep")) = some true
section
variable {P : Program} {w : World} {K : PySem.W.Frag} {mg : Str → Option Value} {base : Heap}
def M_law_start (a : (List Int) × Unit) : Option ((List Int) × Int × Int × Int × Int × (List Int)) :=
 (mapM (fun x1 => some x1) a.1).bind fun a2 => (((((((mapM (fun x11 => modO x11 (2147483629 : Int)) a2).bind fun x12 => some (x12, ())).bind fun y13 => some ((0 : Int), y13)).bind fun y14 => some ((0 : Int), y14)).bind fun y15 => some ((0 : Int), y15)).bind fun y16 => some ((0 : Int), y16)).bind fun y17 => some (a2, y17)).bind fun z18 => some (z18.1, z18.2.1, z18.2.2.1, z18.2.2.2.1, z18.2.2.2.2.1, z18.2.2.2.2.2.1)
theorem ok_law_start (T : Tx P K mg) : FnOk P w K mg base CX0 1 T.a__law_start T.d__law_start ["script"] (spP (fun a : (List Int) × Unit => [(scrS K) a.1]) M_law_start h0O) :=
 fnd_pure (Δ := nonC 3) T.F__law_start sc__law_start (fun _ => rfl) (by decide) fun a => JB.cong (
 jb_cons (js_setLc 1 sc__law_start.nd (jc_map [("cell", 2)] (jic_of (ji_scr (jn_var (E := (scrS K)) (a := a.1) 0))) (show blkC ["script", "cells", "cell"] (defScope s__law_start) _ [("cell", 2)] = true by decide +kernel) (jg_name (E := intS) 2 sc__law_start.nd) (by decide) (all_lt rfl) fun x1 => (int_int T.m_int (jn_var (E := intS) (a := x1) 2)))) fun a2 =>
 JB.frz (i := 1) (o := (lstO (fun x => sh (intS x))) a2) (p := (lstS intS) a2) rfl ((fz_lst (fun _ => fz_sh)) _) (jb_ret (weak_none _) (jn_hl (T := h0O) (g := fun z => (z.1, z.2.1, z.2.2.1, z.2.2.2.1, z.2.2.2.2.1, z.2.2.2.2.2.1)) (ja_cons (jn_var (E := (lstS intS)) (a := a2) 1) (ja_cons jn_int (ja_cons jn_int (ja_cons jn_int (ja_cons jn_int (ja_cons (JN.frz (fz_lst (fun _ => fz_sh)) (jn_lc sc__law_start.nd (jc_map [("cell", 2)] (jic_of (ji_lst (jn_var (E := (lstS intS)) (a := a2) 1))) (show blkC ["script", "cells", "cell"] (defScope s__law_start) _ [("cell", 2)] = true by decide +kernel) (jg_name (E := intS) 2 sc__law_start.nd) (by decide) (all_lt rfl) fun x11 => (jn_bin oMod ov_mod (int_int T.m_int (jn_var (E := intS) (a := x11) 2)) jn_int)))) ja_nil))))))))) (by unfold M_law_start; first | (dsimp only [CC.sb]; done) | (dsimp only [CC.sb]; rfl) | rfl)
def M_law_mixed (a : Int × (Int × Unit)) : Option Int :=
 (((((mulO a.1 (48271 : Int)).bind fun x30 => (mulO a.2.1 (69621 : Int)).bind fun x31 => some (x30 + x31)).bind fun x32 => some (x32 + (12345 : Int))).bind fun x33 => some x33).bind fun x34 => modO x34 (2147483647 : Int)).bind fun a35 => (((((mulO a35 a35).bind fun x36 => (mulO a.2.1 (40692 : Int)).bind fun x37 => some (x36 + x37)).bind fun x38 => (divO a35 (7 : Int)).bind fun x39 => some (x38 + x39)).bind fun x40 => some x40).bind fun x41 => modO x41 (2147483399 : Int)).bind fun a42 => ((((mulO a42 (16807 : Int)).bind fun x43 => (divO a42 (1013 : Int)).bind fun x44 => some (x43 + x44)).bind fun x45 => some (x45 + a.2.1)).bind fun x46 => some x46).bind fun x47 => modO x47 (998244353 : Int)
theorem ok_law_mixed (T : Tx P K mg) : FnOk P w K mg base CX0 1 T.a__law_mixed T.d__law_mixed ["cell", "turn"] (spP (fun a : Int × (Int × Unit) => [intS a.1, intS a.2.1]) M_law_mixed (fun x => sh (intS x))) :=
 fnd_pure (Δ := nonC 4) T.F__law_mixed sc__law_mixed (fun _ => rfl) (by decide) fun a => JB.cong (
 jb_cons (js_set 2 sc__law_mixed.nd (jn_bin oMod ov_mod (int_int T.m_int (jn_bin oAdd ov_add (jn_bin oAdd ov_add (jn_bin oMul ov_mul (jn_var (E := intS) (a := a.1) 0) jn_int) (jn_bin oMul ov_mul (jn_var (E := intS) (a := a.2.1) 1) jn_int)) jn_int)) jn_int)) fun a35 =>
 jb_cons (js_set 3 sc__law_mixed.nd (jn_bin oMod ov_mod (int_int T.m_int (jn_bin oAdd ov_add (jn_bin oAdd ov_add (jn_bin oMul ov_mul (jn_var (E := intS) (a := a35) 2) (jn_var (E := intS) (a := a35) 2)) (jn_bin oMul ov_mul (jn_var (E := intS) (a := a.2.1) 1) jn_int)) (jn_bin oDiv ov_div (jn_var (E := intS) (a := a35) 2) jn_int))) jn_int)) fun a42 =>
 jb_ret (weak_none _) (jn_bin oMod ov_mod (int_int T.m_int (jn_bin oAdd ov_add (jn_bin oAdd ov_add (jn_bin oMul ov_mul (jn_var (E := intS) (a := a42) 3) jn_int) (jn_bin oDiv ov_div (jn_var (E := intS) (a := a42) 3) jn_int)) (jn_var (E := intS) (a := a.2.1) 1))) jn_int)) (by unfold M_law_mixed; first | (dsimp only [CC.sb]; done) | (dsimp only [CC.sb]; rfl) | rfl)
def M_law_draw (a : Int × Unit) (s : ((List Int) × Int × Int × Int × Int × (List Int))) : Option (Int × ((List Int) × Int × Int × Int × Int × (List Int))) :=
 ((bif decide (s.2.2.1 = (0 : Int)) then some true else some (decide (s.2.2.2.1 = (0 : Int)))).bind fun x88 => bif x88 then bif decide ((s.1.length : Int) ≤ s.2.1) then ((bif decide ((0 : Int) < (s.2.2.2.2.2.length : Int)) then ((modO (s.2.2.2.2.1 + (1 : Int)) (s.2.2.2.2.2.length : Int)).bind fun x69 => atI s.2.2.2.2.2 x69).bind fun a70 => some a70 else some (0 : Int)).bind fun a71 => (((M_law_mixed (a71, (s.2.2.2.2.1 + (1 : Int), ()))).bind fun x72 => some x72).bind fun x73 => modO x73 a.1).bind fun x74 => some (x74, (s.1, s.2.1, s.2.2.1, s.2.2.2.1, s.2.2.2.2.1 + (1 : Int), s.2.2.2.2.2))).bind fun y87 => some (Out.rt y87) else (atI s.1 s.2.1).bind fun a75 => (bif decide (a75 < (2 : Int)) then some true else (modO a75 (2 : Int)).bind fun x77 => some (decide (x77 = (1 : Int)))).bind fun x86 => bif x86 then ((((((atI s.2.2.2.2.2 ((s.2.1 + (1 : Int)) - (1 : Int))).bind fun x78 => some (x78, (s.2.2.2.2.1 + (1 : Int), ()))).bind fun z79 => M_law_mixed z79).bind fun x80 => some x80).bind fun x81 => modO x81 a.1).bind fun x82 => some (x82, (s.1, s.2.1 + (1 : Int), s.2.2.1, s.2.2.2.1, s.2.2.2.2.1 + (1 : Int), s.2.2.2.2.2))).bind fun y85 => some (Out.rt y85) else (divO a75 (2 : Int)).bind fun a83 => some (Out.nx (s.1, s.2.1 + (1 : Int), a83, (60 : Int), s.2.2.2.2.1 + (1 : Int), s.2.2.2.2.2)) else some (Out.nx (s.1, s.2.1, s.2.2.1, s.2.2.2.1, s.2.2.2.2.1 + (1 : Int), s.2.2.2.2.2))).bind fun o93 => o93.k (fun a89 => (modO a89.2.2.1 a.1).bind fun a90 => (divO a89.2.2.1 a.1).bind fun a91 => some (a90, (a89.1, a89.2.1, a91, a89.2.2.2.1 - (1 : Int), a89.2.2.2.2.1, a89.2.2.2.2.2))) fun r94 => some ((fun r => r) r94)
theorem ok_law_draw (T : Tx P K mg) : FnOk P w K mg base CX0 2 T.a__law_draw T.d__law_draw ["state", "limit"] (spS h0O (fun a : Int × Unit => [intS a.1]) M_law_draw (fun x => sh (intS x))) :=
 fnd_state T.F__law_draw sc__law_draw (fun _ => rfl) (by decide) fun a s => JB.cong (
 jb_cons (js_setH (E := intS) 0 4 (jn_bin oAdd ov_add (jn_of (jr_ixO (R := (fun x => sh (intS x))) (g := fun z => z.2.2.2.2.1) 4 (jr_var (R := h0O) (a := s) 0))) jn_int)) fun a21 =>
 jb_cons (js_set 2 sc__law_draw.nd (jn_of (jr_ixO (R := (fun x => sh (intS x))) (g := fun z => z.2.2.2.2.1) 4 (jr_var (R := h0O) (a := (s.1, s.2.1, s.2.2.1, s.2.2.2.1, a21, s.2.2.2.2.2)) 0)))) fun a22 =>
 jb_consO (Γl := fun v64 : ((List Int) × Int × Int × Int × Int × (List Int)) => [some (h0O v64), some (sh (intS a.1)), some (sh (intS a22)), none, none, none]) (T := fun r : Int × ((List Int) × Int × Int × Int × Int × (List Int)) => Kd.rt (some (h0O r.2) :: nonC 5) ((fun x => sh (intS x)) r.1)) (fun r => r) (js_if (D := DF (fun v64 : ((List Int) × Int × Int × Int × Int × (List Int)) => [some (h0O v64), some (sh (intS a.1)), some (sh (intS a22)), none, none, none]) (fun r : Int × ((List Int) × Int × Int × Int × Int × (List Int)) => Kd.rt (some (h0O r.2) :: nonC 5) ((fun x => sh (intS x)) r.1))) (jt_w (jw_or (jt_cmp oEq ov_eqI (jn_of (jr_ixO (R := (fun x => sh (intS x))) (g := fun z => z.2.2.1) 2 (jr_var (R := h0O) (a := (s.1, s.2.1, s.2.2.1, s.2.2.2.1, a21, s.2.2.2.2.2)) 0))) jn_int) (jw_or1 (jt_cmp oEq ov_eqI (jn_of (jr_ixO (R := (fun x => sh (intS x))) (g := fun z => z.2.2.2.1) 3 (jr_var (R := h0O) (a := (s.1, s.2.1, s.2.2.1, s.2.2.2.1, a21, s.2.2.2.2.2)) 0))) jn_int)))) (jb_ifx (D' := (fun r : Int × ((List Int) × Int × Int × Int × Int × (List Int)) => Kd.rt (some (h0O r.2) :: nonC 5) ((fun x => sh (intS x)) r.1))) Out.rt (jt_cmp oGe ov_ge (jn_of (jr_ixO (R := (fun x => sh (intS x))) (g := fun z => z.2.1) 1 (jr_var (R := h0O) (a := (s.1, s.2.1, s.2.2.1, s.2.2.2.1, a21, s.2.2.2.2.2)) 0))) (len_lst T.m_len (jn_of (jr_ixO (R := (fun x => sh ((lstS intS) x))) (g := fun z => z.1) 0 (jr_var (R := h0O) (a := (s.1, s.2.1, s.2.2.1, s.2.2.2.1, a21, s.2.2.2.2.2)) 0))))) (jb_cons (js_set 5 sc__law_draw.nd jn_int) fun a65 =>
 jb_cons (js_if (jt_cmp oGt ov_gt (len_lst T.m_len (jn_of (jr_ixO (R := (fun x => sh ((lstS intS) x))) (g := fun z => z.2.2.2.2.2) 5 (jr_var (R := h0O) (a := (s.1, s.2.1, s.2.2.1, s.2.2.2.1, a21, s.2.2.2.2.2)) 0)))) jn_int) (D := fun v => Kd.nx ((fun v68 : Int => [some (h0O (s.1, s.2.1, s.2.2.1, s.2.2.2.1, a21, s.2.2.2.2.2)), some (sh (intS a.1)), some (sh (intS a22)), none, none, some (sh (intS v68))]) v)) (jb_cons (js_set 5 sc__law_draw.nd (jn_of (jr_ix oIxL iv_lst (jr_ixO (R := (fun x => sh ((lstS intS) x))) (g := fun z => z.2.2.2.2.2) 5 (jr_var (R := h0O) (a := (s.1, s.2.1, s.2.2.1, s.2.2.2.1, a21, s.2.2.2.2.2)) 0)) (jn_bin oMod ov_mod (int_int T.m_int (jn_var (E := intS) (a := a22) 2)) (len_lst T.m_len (jn_of (jr_ixO (R := (fun x => sh ((lstS intS) x))) (g := fun z => z.2.2.2.2.2) 5 (jr_var (R := h0O) (a := (s.1, s.2.1, s.2.2.1, s.2.2.2.1, a21, s.2.2.2.2.2)) 0)))))))) fun a70 =>
 jb_nil (x := a70) rfl (weak_mask [true, true, true, false, false, true] _)) (jb_nil (x := a65) rfl (weak_mask [true, true, true, false, false, true] _))) fun a71 =>
 jb_retS (R := (fun x => sh (intS x))) (Δ := fun s => some (h0O s) :: nonC 5) (s := (s.1, s.2.1, s.2.2.1, s.2.2.2.1, a21, s.2.2.2.2.2)) (weak_mask [true, false, false, false, false, false] _) (jn_bin oMod ov_mod (int_int T.m_int (jn_call (ok_law_mixed T) T.g__law_mixed T.F__law_mixed.kp T.b__law_mixed (Nat.le_of_ble_eq_true rfl) (ja_cons (jn_var (E := intS) (a := a71) 5) (ja_cons (jn_var (E := intS) (a := a22) 2) ja_nil)))) (jn_var (E := intS) (a := a.1) 1))) (fun _ => rfl) (fun _ => trivial)
 (jb_cons (js_set 4 sc__law_draw.nd (jn_of (jr_ix oIxL iv_lst (jr_ixO (R := (fun x => sh ((lstS intS) x))) (g := fun z => z.1) 0 (jr_var (R := h0O) (a := (s.1, s.2.1, s.2.2.1, s.2.2.2.1, a21, s.2.2.2.2.2)) 0)) (jn_of (jr_ixO (R := (fun x => sh (intS x))) (g := fun z => z.2.1) 1 (jr_var (R := h0O) (a := (s.1, s.2.1, s.2.2.1, s.2.2.2.1, a21, s.2.2.2.2.2)) 0)))))) fun a75 =>
 jb_cons (js_setH (E := intS) 0 1 (jn_bin oAdd ov_add (jn_of (jr_ixO (R := (fun x => sh (intS x))) (g := fun z => z.2.1) 1 (jr_var (R := h0O) (a := (s.1, s.2.1, s.2.2.1, s.2.2.2.1, a21, s.2.2.2.2.2)) 0))) jn_int)) fun a76 =>
 jb_ifx (D' := (fun r : Int × ((List Int) × Int × Int × Int × Int × (List Int)) => Kd.rt (some (h0O r.2) :: nonC 5) ((fun x => sh (intS x)) r.1))) Out.rt (jt_w (jw_or (jt_cmp oLt ov_lt (jn_var (E := intS) (a := a75) 4) jn_int) (jw_or1 (jt_cmp oEq ov_eqI (jn_bin oMod ov_mod (int_int T.m_int (jn_var (E := intS) (a := a75) 4)) jn_int) jn_int)))) (jb_retS (R := (fun x => sh (intS x))) (Δ := fun s => some (h0O s) :: nonC 5) (s := (s.1, a76, s.2.2.1, s.2.2.2.1, a21, s.2.2.2.2.2)) (weak_mask [true, false, false, false, false, false] _) (jn_bin oMod ov_mod (int_int T.m_int (jn_call (ok_law_mixed T) T.g__law_mixed T.F__law_mixed.kp T.b__law_mixed (Nat.le_of_ble_eq_true rfl) (ja_cons (jn_of (jr_ix oIxL iv_lst (jr_ixO (R := (fun x => sh ((lstS intS) x))) (g := fun z => z.2.2.2.2.2) 5 (jr_var (R := h0O) (a := (s.1, a76, s.2.2.1, s.2.2.2.1, a21, s.2.2.2.2.2)) 0)) (jn_bin oSub ov_sub (jn_of (jr_ixO (R := (fun x => sh (intS x))) (g := fun z => z.2.1) 1 (jr_var (R := h0O) (a := (s.1, a76, s.2.2.1, s.2.2.2.1, a21, s.2.2.2.2.2)) 0))) jn_int))) (ja_cons (jn_var (E := intS) (a := a22) 2) ja_nil)))) (jn_var (E := intS) (a := a.1) 1))) (fun _ => rfl) (fun _ => trivial)
 (jb_cons (js_setH (E := intS) 0 2 (jn_bin oDiv ov_div (jn_var (E := intS) (a := a75) 4) jn_int)) fun a83 =>
 jb_cons (js_setH (E := intS) 0 3 jn_int) fun a84 =>
 jb_nil (x := Out.nx (s.1, a76, a83, a84, a21, s.2.2.2.2.2)) rfl (weak_mask [true, true, true, false, false, false] _)))) (jb_nil (x := Out.nx (s.1, s.2.1, s.2.2.1, s.2.2.2.1, a21, s.2.2.2.2.2)) rfl (weak_mask [true, true, true, false, false, false] _))) (fun _ => rfl) (fun _ => trivial) fun a89 =>
 jb_cons (js_set 3 sc__law_draw.nd (jn_bin oMod ov_mod (int_int T.m_int (jn_of (jr_ixO (R := (fun x => sh (intS x))) (g := fun z => z.2.2.1) 2 (jr_var (R := h0O) (a := a89) 0)))) (jn_var (E := intS) (a := a.1) 1))) fun a90 =>
 jb_cons (js_setH (E := intS) 0 2 (jn_bin oDiv ov_div (jn_of (jr_ixO (R := (fun x => sh (intS x))) (g := fun z => z.2.2.1) 2 (jr_var (R := h0O) (a := a89) 0))) (jn_var (E := intS) (a := a.1) 1))) fun a91 =>
 jb_cons (js_setH (E := intS) 0 3 (jn_bin oSub ov_sub (jn_of (jr_ixO (R := (fun x => sh (intS x))) (g := fun z => z.2.2.2.1) 3 (jr_var (R := h0O) (a := (a89.1, a89.2.1, a91, a89.2.2.2.1, a89.2.2.2.2.1, a89.2.2.2.2.2)) 0))) jn_int)) fun a92 =>
 jb_retS (R := (fun x => sh (intS x))) (Δ := fun s => some (h0O s) :: nonC 5) (s := (a89.1, a89.2.1, a91, a92, a89.2.2.2.2.1, a89.2.2.2.2.2)) (weak_mask [true, false, false, false, false, false] _) (jn_var (E := intS) (a := a90) 3)) (by unfold M_law_draw; first | (dsimp only [CC.sb]; done) | (dsimp only [CC.sb]; rfl) | rfl)
def M_law_size (a : Unit) (s : ((List Int) × Int × Int × Int × Int × (List Int))) : Option (Int × ((List Int) × Int × Int × Int × Int × (List Int))) :=
 (((M_law_draw ((4 : Int), ()) s).bind fun r102 => some (r102.1, r102.2)).bind fun q104 => some (decide (q104.1 = (0 : Int)), q104.2)).bind fun q114 => bif q114.1 then ((M_law_draw ((12 : Int), ()) q114.2).bind fun r108 => some (r108.1, r108.2)).bind fun q109 => some ((1 : Int) + q109.1, q109.2) else ((M_law_draw ((52 : Int), ()) q114.2).bind fun r112 => some (r112.1, r112.2)).bind fun q113 => some ((13 : Int) + q113.1, q113.2)
theorem ok_law_size (T : Tx P K mg) : FnOk P w K mg base CX0 3 T.a__law_size T.d__law_size ["state"] (spS h0O (fun a : Unit => []) M_law_size (fun x => sh (intS x))) :=
 fnd_state T.F__law_size sc__law_size (fun _ => rfl) (by decide) fun a s => JB.cong (
 jb_ifrE (Γ := fun s101 : ((List Int) × Int × Int × Int × Int × (List Int)) => [some (h0O s101)]) (s := s) (jte_cmp oEq ov_eqI (je_callS (O := h0O) 0 (fun s => s) (fun s u => u) (ok_law_draw T) T.g__law_draw T.F__law_draw.kp T.b__law_draw (Nat.le_of_ble_eq_true rfl) (jea_of (ja_cons jn_int ja_nil))) fun s103 => (je_of jn_int)) (fun s105 => jb_retE (R := (fun x => sh (intS x))) (Γ := fun s106 : ((List Int) × Int × Int × Int × Int × (List Int)) => [some (h0O s106)]) (s := s105) (Δ := fun s => some (h0O s) :: nonC 0) (fun _ => (weak_mask [true] _)) (je_bin oAdd ov_add (je_of jn_int) fun s107 => (je_callS (O := h0O) 0 (fun s => s) (fun s u => u) (ok_law_draw T) T.g__law_draw T.F__law_draw.kp T.b__law_draw (Nat.le_of_ble_eq_true rfl) (jea_of (ja_cons jn_int ja_nil))))) (fun _ => trivial) fun s105 =>
 jb_retE (R := (fun x => sh (intS x))) (Γ := fun s110 : ((List Int) × Int × Int × Int × Int × (List Int)) => [some (h0O s110)]) (s := s105) (Δ := fun s => some (h0O s) :: nonC 0) (fun _ => (weak_mask [true] _)) (je_bin oAdd ov_add (je_of jn_int) fun s111 => (je_callS (O := h0O) 0 (fun s => s) (fun s u => u) (ok_law_draw T) T.g__law_draw T.F__law_draw.kp T.b__law_draw (Nat.le_of_ble_eq_true rfl) (jea_of (ja_cons jn_int ja_nil))))) (by unfold M_law_size; first | (dsimp only [CC.sb]; done) | (dsimp only [CC.sb]; rfl) | rfl)
def M_law_lows (a : (List Int) × (Int × Unit)) (s : ((List Int) × Int × Int × Int × Int × (List Int))) : Option ((List Int) × ((List Int) × Int × Int × Int × Int × (List Int))) :=
 bif decide ((a.1.length : Int) = (0 : Int)) then some ([], s) else (((M_law_draw ((a.1.length : Int), ()) s).bind fun r148 => some (r148.1, r148.2)).bind fun q149 => (atI a.1 q149.1).bind fun z150 => some (z150, q149.2)).bind fun a151 => bif decide (a.2.1 < (2 : Int)) then ((((M_law_draw ((6 : Int), ()) a151.2).bind fun r155 => some (r155.1, r155.2)).bind fun q160 => ((atI [(4 : Int), (1 : Int)] a.2.1).bind fun x159 => some (x159, q160.2)).bind fun q161 => some (decide (q161.1 ≤ q160.1), q161.2)).bind fun q162 => some (CC.b2i q162.1, q162.2)).bind fun q163 => (repM [a151.1] q163.1).bind fun z164 => some (z164, q163.2) else bif decide (a.2.1 = (2 : Int)) then compME (fun x166 s167 => ((M_law_draw ((2 : Int), ()) s167).bind fun r169 => some (r169.1, r169.2)).bind fun q171 => some (decide (q171.1 = (0 : Int)), q171.2)) (fun x166 s167 => some (x166, s167)) (cutL a.1 none (some (3 : Int))) a151.2 else bif decide (a.2.1 = (3 : Int)) then some (cutL a.1 (some (-(1 : Int))) none, a151.2) else ((((M_law_draw (a.2.1 - (2 : Int), ()) a151.2).bind fun r175 => some (r175.1, r175.2)).bind fun q176 => (rng 0 q176.1).bind fun r177 => some (r177, q176.2)).bind fun q185 => mapME (fun x178 s179 => ((M_law_draw ((a.1.length : Int), ()) s179).bind fun r182 => some (r182.1, r182.2)).bind fun q183 => (atI a.1 q183.1).bind fun z184 => some (z184, q183.2)) q185.1 q185.2).bind fun q186 => (catM [a151.1] q186.1).bind fun z187 => some (z187, q186.2)
theorem ok_law_lows (T : Tx P K mg) : FnOk P w K mg base CX0 3 T.a__law_lows T.d__law_lows ["state", "earlier", "kind"] (spS h0O (fun a : (List Int) × (Int × Unit) => [(lstS intS) a.1, intS a.2.1]) M_law_lows (lstO (fun x => sh (intS x)))) :=
 fnd_state T.F__law_lows sc__law_lows (fun _ => rfl) (by decide) fun a s => JB.cong (
 jb_ifr (jt_cmp oEq ov_eqI (len_lst T.m_len (jn_var (E := (lstS intS)) (a := a.1) 1)) jn_int) (jb_retS (R := (lstO (fun x => sh (intS x)))) (Δ := fun s => some (h0O s) :: nonC 5) (s := s) (weak_mask [true, false, false, false, false, false] _) (jn_nilLO (E := (fun x => sh (intS x))))) (fun _ => trivial)
 (jb_cons (js_setE (Γ := fun s146 : ((List Int) × Int × Int × Int × Int × (List Int)) => [some (h0O s146), some (sh ((lstS intS) a.1)), some (sh (intS a.2.1)), none, none, none]) (s := s) 3 sc__law_lows.nd (je_ix oIxL iv_lst (je_of (jn_var (E := (lstS intS)) (a := a.1) 1)) fun s147 => (je_callS (O := h0O) 0 (fun s => s) (fun s u => u) (ok_law_draw T) T.g__law_draw T.F__law_draw.kp T.b__law_draw (Nat.le_of_ble_eq_true rfl) (jea_of (ja_cons (len_lst T.m_len (jn_var (E := (lstS intS)) (a := a.1) 1)) ja_nil))))) fun a151 =>
 jb_ifr (jt_cmp oLt ov_lt (jn_var (E := intS) (a := a.2.1) 2) jn_int) (jb_retE (R := (lstO (fun x => sh (intS x)))) (Γ := fun s152 : ((List Int) × Int × Int × Int × Int × (List Int)) => [some (h0O s152), some (sh ((lstS intS) a.1)), some (sh (intS a.2.1)), some (sh (intS a151.1)), none, none]) (s := a151.2) (Δ := fun s => some (h0O s) :: nonC 5) (fun _ => (weak_mask [true, false, false, false, false, false] _)) (je_bin oRep ov_rep (JE.frz (fz_lst (fun _ => fz_sh)) (je_of (jn_dispL (E := intS) (g := fun z => [z.1]) (ja_cons (jn_var (E := intS) (a := a151.1) 3) ja_nil)))) fun s154 => (je_intB T.m_int (je_cmp oGe ov_ge (je_callS (O := h0O) 0 (fun s => s) (fun s u => u) (ok_law_draw T) T.g__law_draw T.F__law_draw.kp T.b__law_draw (Nat.le_of_ble_eq_true rfl) (jea_of (ja_cons jn_int ja_nil))) fun s156 => (je_of (jn_of (jr_ix oIxL iv_lstO (jr_of (jn_dispL (E := intS) (g := fun z => [z.1, z.2.1]) (ja_cons jn_int (ja_cons jn_int ja_nil)))) (jn_var (E := intS) (a := a.2.1) 2)))))))) (fun _ => trivial)
 (jb_ifr (jt_cmp oEq ov_eqI (jn_var (E := intS) (a := a.2.1) 2) jn_int) (jb_retE (R := (lstO (fun x => sh (intS x)))) (Γ := fun s165 : ((List Int) × Int × Int × Int × Int × (List Int)) => [some (h0O s165), some (sh ((lstS intS) a.1)), some (sh (intS a.2.1)), some (sh (intS a151.1)), none, none]) (s := a151.2) (Δ := fun s => some (h0O s) :: nonC 5) (fun _ => (weak_mask [true, false, false, false, false, false] _)) (je_lc sc__law_lows.nd (jce_of (up := fun x Γ => Γ.set 4 (some (sh (intS x)))) [("a", 4)] (jie_of (ji_lst (JN.frz (fz_lst (fun _ => fz_sh)) (jn_slL (jn_var (E := (lstS intS)) (a := a.1) 1) jo_none (jo_some jn_int))))) (show blkC ["state", "earlier", "kind", "one", "a", "k"] (defScope s__law_lows) _ [("a", 4)] = true by decide +kernel) (jg_name (E := intS) 4 sc__law_lows.nd) (by decide) (fun _ => all_lt rfl) (up1 4) (up1l 4) (fun _ => all_non rfl) (fun x166 s167 => jtse_one (jte_cmp oEq ov_eqI (je_callS (O := h0O) 0 (fun s => s) (fun s u => u) (ok_law_draw T) T.g__law_draw T.F__law_draw.kp T.b__law_draw (Nat.le_of_ble_eq_true rfl) (jea_of (ja_cons jn_int ja_nil))) fun s170 => (je_of jn_int))) fun x166 s167 => (je_of (jn_var (E := intS) (a := x166) 4))))) (fun _ => trivial)
 (jb_ifr (jt_cmp oEq ov_eqI (jn_var (E := intS) (a := a.2.1) 2) jn_int) (jb_retS (R := (lstO (fun x => sh (intS x)))) (Δ := fun s => some (h0O s) :: nonC 5) (s := a151.2) (weak_mask [true, false, false, false, false, false] _) (jn_slL (jn_var (E := (lstS intS)) (a := a.1) 1) (jo_some (jn_neg jn_int)) jo_none)) (fun _ => trivial)
 (jb_retE (R := (lstO (fun x => sh (intS x)))) (Γ := fun s172 : ((List Int) × Int × Int × Int × Int × (List Int)) => [some (h0O s172), some (sh ((lstS intS) a.1)), some (sh (intS a.2.1)), some (sh (intS a151.1)), none, none]) (s := a151.2) (Δ := fun s => some (h0O s) :: nonC 5) (fun _ => (weak_mask [true, false, false, false, false, false] _)) (je_bin oCat ov_cat (JE.frz (fz_lst (fun _ => fz_sh)) (je_of (jn_dispL (E := intS) (g := fun z => [z.1]) (ja_cons (jn_var (E := intS) (a := a151.1) 3) ja_nil)))) fun s174 => (JE.frz (fz_lst (fun _ => fz_sh)) (je_lc sc__law_lows.nd (jce_map [("k", 5)] (jie_rng1 T.m_range (je_callS (O := h0O) 0 (fun s => s) (fun s u => u) (ok_law_draw T) T.g__law_draw T.F__law_draw.kp T.b__law_draw (Nat.le_of_ble_eq_true rfl) (jea_of (ja_cons (jn_bin oSub ov_sub (jn_var (E := intS) (a := a.2.1) 2) jn_int) ja_nil)))) (show blkC ["state", "earlier", "kind", "one", "a", "k"] (defScope s__law_lows) _ [("k", 5)] = true by decide +kernel) (jg_name (E := intS) 5 sc__law_lows.nd) (by decide) (fun _ => all_lt rfl) (up1 5) (up1l 5) (fun _ => all_non rfl) fun x178 s179 => (je_ix oIxL iv_lst (je_of (jn_var (E := (lstS intS)) (a := a.1) 1)) fun s181 => (je_callS (O := h0O) 0 (fun s => s) (fun s u => u) (ok_law_draw T) T.g__law_draw T.F__law_draw.kp T.b__law_draw (Nat.le_of_ble_eq_true rfl) (jea_of (ja_cons (len_lst T.m_len (jn_var (E := (lstS intS)) (a := a.1) 1)) ja_nil))))))))))))) (by unfold M_law_lows; first | (dsimp only [CC.sb]; done) | (dsimp only [CC.sb]; rfl) | rfl)
def M_law_order (a : Int × ((List Int) × Unit)) (s : ((List Int) × Int × Int × Int × Int × (List Int))) : Option (((Int × (List (Int × Int))) × (List (List Bool)) × (List Int) × (List (List Int))) × ((List Int) × Int × Int × Int × Int × (List Int))) :=
 ((rng 0 a.1).bind fun x129 => foldGo (fun x120 s121 => ((((M_law_draw (x120 + (1 : Int), ()) s121.1).bind fun r123 => some (r123.1, r123.2)).bind fun q125 => some ((q125.1, (x120, ())), q125.2)).bind fun q126 => (insM s121.2 q126.1.1 q126.1.2.1).bind fun r127 => some (r127, q126.2)).bind fun a128 => some (a128.2, a128.1)) x129 (s, [])).bind fun a130 => (((M_law_draw ((a.2.1.length : Int), ()) a130.1).bind fun r133 => some (r133.1, r133.2)).bind fun q134 => (atI a.2.1 q134.1).bind fun z135 => some (z135, q134.2)).bind fun a136 => ((rng 0 a.1).bind fun x139 => mapM (fun x137 => repM [false] a.1) x139).bind fun a140 => ((rng 0 a.1).bind fun x211 => foldGo (fun x142 s143 => (atI a130.2 x142).bind fun a144 => (((M_law_lows (cutL a130.2 none (some x142), (a136.1, ())) s143.1).bind fun r188 => some (r188.1, r188.2)).bind fun q209 => foldGo (fun x190 s191 => ((rng 0 a.1).bind fun x207 => foldGo (fun x193 s194 => ((bif decide (x193 = x190) then some true else (atI s194 x193).bind fun x195 => atI x195 x190).bind fun x205 => bif x205 then (ixN s194.length x193).bind fun k201 => (s194[k201]?).bind fun x203 => (setAt x203 a144 true).bind fun a204 => some (s194.set k201 a204) else some s194).bind fun a206 => some a206) x207 s191.2).bind fun a208 => some (s191.1, a208)) q209.1 (q209.2, s143.2)).bind fun a210 => some (a210.1, a210.2)) x211 (a136.2, a140)).bind fun a212 => ((rng 0 a.1).bind fun x232 => foldGo (fun x225 s226 => (((rng 0 a.1).bind fun x229 => compM (fun x227 => (atI a212.2 x225).bind fun x228 => atI x228 x227) (fun x227 => some (x225, x227)) x229).bind fun x230 => catM s226 x230).bind fun a231 => some a231) x232 []).bind fun a233 => ((rng 0 a.1).bind fun x240 => mapM (fun x234 => (rng 0 a.1).bind fun x239 => compM (fun x235 => ((atI a212.2 x234).bind fun x236 => atI x236 x235).bind fun x238 => bif x238 then some true else (atI a212.2 x235).bind fun x237 => atI x237 x234) (fun x235 => some x235) x239) x240).bind fun a241 => some (((a.1, a233), a212.2, a130.2, a241), a212.1)
theorem ok_law_order (T : Tx P K mg) : FnOk P w K mg base CX0 4 T.a__law_order T.d__law_order ["state", "n", "kinds"] (spS h0O (fun a : Int × ((List Int) × Unit) => [intS a.1, (tupS intS) a.2.1]) M_law_order (fun x => sh ((t4S (prS intS (tupS (prS intS intS))) (lstS (lstS boolS)) (lstS intS) (lstS (lstS intS))) x))) :=
 fnd_state T.F__law_order sc__law_order (fun _ => rfl) (by decide) fun a s => JB.cong (
 jb_cons (js_set 3 sc__law_order.nd (jn_nilLO (E := (fun x => sh (intS x))))) fun a118 =>
 jb_cons (js_forS (Γl := fun s119 : ((List Int) × Int × Int × Int × Int × (List Int)) × (List Int) => [some (h0O s119.1), some (sh (intS a.1)), some (sh ((tupS intS) a.2.1)), some ((lstO (fun x => sh (intS x))) s119.2), none, none, none, none, none, none, none, none, none]) (s, a118) (ji_rng1 T.m_range (jn_var (E := intS) (a := a.1) 1)) (jg_name (E := intS) 4 sc__law_order.nd) (weak_mask [true, true, true, true, false, false, false, false, false, false, false, false, false] _) (fun _ => all_lt rfl) fun x120 s121 =>
 jb_cons (js_insE (E := intS) (Γ := fun s122 : ((List Int) × Int × Int × Int × Int × (List Int)) => [some (h0O s122), some (sh (intS a.1)), some (sh ((tupS intS) a.2.1)), some ((lstO (fun x => sh (intS x))) s121.2), some (sh (intS x120)), none, none, none, none, none, none, none, none]) (s := s121.1) 3 (fun _ => s121.2) (jea_cons (je_callS (O := h0O) 0 (fun s => s) (fun s u => u) (ok_law_draw T) T.g__law_draw T.F__law_draw.kp T.b__law_draw (Nat.le_of_ble_eq_true rfl) (jea_of (ja_cons (jn_bin oAdd ov_add (jn_var (E := intS) (a := x120) 4) jn_int) ja_nil))) fun s124 => (jea_of (ja_cons (jn_var (E := intS) (a := x120) 4) ja_nil)))) fun a128 =>
 jb_nil (x := (a128.2, a128.1)) rfl (weak_mask [true, true, true, true, false, false, false, false, false, false, false, false, false] _)) fun a130 =>
 jb_cons (js_setE (Γ := fun s131 : ((List Int) × Int × Int × Int × Int × (List Int)) => [some (h0O s131), some (sh (intS a.1)), some (sh ((tupS intS) a.2.1)), some ((lstO (fun x => sh (intS x))) a130.2), none, none, none, none, none, none, none, none, none]) (s := a130.1) 5 sc__law_order.nd (je_ix oIxT iv_tup (je_of (jn_var (E := (tupS intS)) (a := a.2.1) 2)) fun s132 => (je_callS (O := h0O) 0 (fun s => s) (fun s u => u) (ok_law_draw T) T.g__law_draw T.F__law_draw.kp T.b__law_draw (Nat.le_of_ble_eq_true rfl) (jea_of (ja_cons (len_tup T.m_len (jn_var (E := (tupS intS)) (a := a.2.1) 2)) ja_nil))))) fun a136 =>
 jb_cons (js_setLcC 6 sc__law_order.nd (jn_lc sc__law_order.nd (jc_map [("x", 8)] (jic_of (ji_rng1 T.m_range (jn_var (E := intS) (a := a.1) 1))) (show blkC ["state", "n", "kinds", "line", "k", "kind", "less", "pairs", "x", "near", "y", "a", "here"] (defScope s__law_order) _ [("x", 8)] = true by decide +kernel) (jg_name (E := intS) 8 sc__law_order.nd) (by decide) (all_lt rfl) fun x137 => (jn_bin oRep ov_rep (JN.frz (fz_lst (fun _ => fz_sh)) (jn_dispL (E := boolS) (g := fun z => [z.1]) (ja_cons jn_bl ja_nil))) (jn_var (E := intS) (a := a.1) 1))))) fun a140 =>
 jb_cons (js_forS (Γl := fun s141 : ((List Int) × Int × Int × Int × Int × (List Int)) × (List (List Bool)) => [some (h0O s141.1), some (sh (intS a.1)), some (sh ((tupS intS) a.2.1)), some ((lstO (fun x => sh (intS x))) a130.2), none, some (sh (intS a136.1)), some ((lstO (lstO (fun x => sh (boolS x)))) s141.2), none, none, none, none, none, none]) (a136.2, a140) (ji_rng1 T.m_range (jn_var (E := intS) (a := a.1) 1)) (jg_name (E := intS) 4 sc__law_order.nd) (weak_mask [true, true, true, true, false, true, true, false, false, false, false, false, false] _) (fun _ => all_lt rfl) fun x142 s143 =>
 jb_cons (js_set 10 sc__law_order.nd (jn_of (jr_ix oIxL iv_lstO (jr_var (R := (lstO (fun x => sh (intS x)))) (a := a130.2) 3) (jn_var (E := intS) (a := x142) 4)))) fun a144 =>
 jb_cons (js_forSE (Γ := fun s145 : ((List Int) × Int × Int × Int × Int × (List Int)) => [some (h0O s145), some (sh (intS a.1)), some (sh ((tupS intS) a.2.1)), some ((lstO (fun x => sh (intS x))) a130.2), some (sh (intS x142)), some (sh (intS a136.1)), some ((lstO (lstO (fun x => sh (boolS x)))) s143.2), none, none, none, some (sh (intS a144)), none, none]) (s := s143.1) (Γl := fun s189 : ((List Int) × Int × Int × Int × Int × (List Int)) × (List (List Bool)) => [some (h0O s189.1), some (sh (intS a.1)), some (sh ((tupS intS) a.2.1)), some ((lstO (fun x => sh (intS x))) a130.2), some (sh (intS x142)), some (sh (intS a136.1)), some ((lstO (lstO (fun x => sh (boolS x)))) s189.2), none, none, none, some (sh (intS a144)), none, none]) (fun t => (t, s143.2)) (jie_lst (JE.frz (fz_lst (fun _ => fz_sh)) (je_callS (O := h0O) 0 (fun s => s) (fun s u => u) (ok_law_lows T) T.g__law_lows T.F__law_lows.kp T.b__law_lows (Nat.le_of_ble_eq_true rfl) (jea_of (ja_cons (JN.frz (fz_lst (fun _ => fz_sh)) (jn_slO (jr_var (R := (lstO (fun x => sh (intS x)))) (a := a130.2) 3) jo_none (jo_some (jn_var (E := intS) (a := x142) 4)))) (ja_cons (jn_var (E := intS) (a := a136.1) 5) ja_nil)))))) (jg_name (E := intS) 11 sc__law_order.nd) (fun _ => (weak_mask [true, true, true, true, true, true, true, false, false, false, true, false, false] _)) (fun _ => all_lt rfl) fun x190 s191 =>
 jb_cons (js_forS (Γl := fun s192 : (List (List Bool)) => [some (h0O s191.1), some (sh (intS a.1)), some (sh ((tupS intS) a.2.1)), some ((lstO (fun x => sh (intS x))) a130.2), some (sh (intS x142)), some (sh (intS a136.1)), some ((lstO (lstO (fun x => sh (boolS x)))) s192), none, none, none, some (sh (intS a144)), some (sh (intS x190)), none]) s191.2 (ji_rng1 T.m_range (jn_var (E := intS) (a := a.1) 1)) (jg_name (E := intS) 8 sc__law_order.nd) (weak_mask [true, true, true, true, true, true, true, false, false, false, true, true, false] _) (fun _ => all_lt rfl) fun x193 s194 =>
 jb_cons (js_if (jt_w (jw_or (jt_cmp oEq ov_eqI (jn_var (E := intS) (a := x193) 8) (jn_var (E := intS) (a := x190) 11)) (jw_or1 (jt_val (jn_of (jr_ix oIxL iv_lstO (jr_ix oIxL iv_lstO (jr_var (R := (lstO (lstO (fun x => sh (boolS x))))) (a := s194) 6) (jn_var (E := intS) (a := x193) 8)) (jn_var (E := intS) (a := x190) 11))))))) (D := fun v => Kd.nx ((fun v200 : (List (List Bool)) => [some (h0O s191.1), some (sh (intS a.1)), some (sh ((tupS intS) a.2.1)), some ((lstO (fun x => sh (intS x))) a130.2), some (sh (intS x142)), some (sh (intS a136.1)), some ((lstO (lstO (fun x => sh (boolS x)))) v200), none, some (sh (intS x193)), none, some (sh (intS a144)), some (sh (intS x190)), none]) v)) (jb_borrow (E := (lstO (fun x => sh (boolS x)))) (xss := s194) 6 12 sc__law_order.nd (jn_var (E := intS) (a := x193) 8) (hr := fun k201 v202 x203 =>
 jb_cons (js_al 12 rfl (js_setI (E := (fun x => sh (boolS x))) 12 jn_bl (jn_var (E := intS) (a := a144) 10))) fun a204 =>
 jb_back (E := (lstO (fun x => sh (boolS x)))) (v := v202) (xss := s194) (x := a204) 6 12 rfl rfl (jb_nil (x := (s194.set k201 a204)) rfl (weak_mask [true, true, true, true, true, true, true, false, true, false, true, true, false] _)))) (jb_nil (x := s194) rfl (weak_mask [true, true, true, true, true, true, true, false, true, false, true, true, false] _))) fun a206 =>
 jb_nil (x := a206) rfl (weak_mask [true, true, true, true, true, true, true, false, false, false, true, true, false] _)) fun a208 =>
 jb_nil (x := (s191.1, a208)) rfl (weak_mask [true, true, true, true, true, true, true, false, false, false, true, false, false] _)) fun a210 =>
 jb_nil (x := (a210.1, a210.2)) rfl (weak_mask [true, true, true, true, false, true, true, false, false, false, false, false, false] _)) fun a212 =>
 jb_cons (js_set 7 sc__law_order.nd (jn_nilLO (E := (fun x => sh ((prS intS intS) x))))) fun a213 =>
 JB.frz (i := 7) (o := (lstO (fun x => sh ((prS intS intS) x))) a213) (p := (lstS (prS intS intS)) a213) rfl ((fz_lst (fun _ => fz_sh)) _) (jb_cons (js_forS (Γl := fun s224 : (List (Int × Int)) => [some (h0O a212.1), some (sh (intS a.1)), some (sh ((tupS intS) a.2.1)), some ((lstO (fun x => sh (intS x))) a130.2), none, some (sh (intS a136.1)), some ((lstO (lstO (fun x => sh (boolS x)))) a212.2), some (sh ((lstS (prS intS intS)) s224)), none, none, none, none, none]) a213 (ji_rng1 T.m_range (jn_var (E := intS) (a := a.1) 1)) (jg_name (E := intS) 8 sc__law_order.nd) (weak_mask [true, true, true, true, false, true, true, true, false, false, false, false, false] _) (fun _ => all_lt rfl) fun x225 s226 =>
 jb_cons (js_set 7 sc__law_order.nd (jn_bin oCat ov_cat (jn_var (E := (lstS (prS intS intS))) (a := s226) 7) (JN.frz (fz_lst (fun _ => fz_sh)) (jn_lc sc__law_order.nd (jc_of [("y", 10)] (jic_of (ji_rng1 T.m_range (jn_var (E := intS) (a := a.1) 1))) (show blkC ["state", "n", "kinds", "line", "k", "kind", "less", "pairs", "x", "near", "y", "a", "here"] (defScope s__law_order) _ [("y", 10)] = true by decide +kernel) (jg_name (E := intS) 10 sc__law_order.nd) (by decide) (all_lt rfl) (fun x227 => jts_one (jt_val (jn_of (jr_ix oIxL iv_lstO (jr_ix oIxL iv_lstO (jr_var (R := (lstO (lstO (fun x => sh (boolS x))))) (a := a212.2) 6) (jn_var (E := intS) (a := x225) 8)) (jn_var (E := intS) (a := x227) 10))))) fun x227 => (jn_tupG (P := (prS intS intS)) (g := fun z => (z.1, z.2.1)) (ja_cons (jn_var (E := intS) (a := x225) 8) (ja_cons (jn_var (E := intS) (a := x227) 10) ja_nil)))))))) fun a231 =>
 JB.frz (i := 7) (o := (lstO (fun x => sh ((prS intS intS) x))) a231) (p := (lstS (prS intS intS)) a231) rfl ((fz_lst (fun _ => fz_sh)) _) (jb_nil (x := a231) rfl (weak_mask [true, true, true, true, false, true, true, true, false, false, false, false, false] _))) fun a233 =>
 jb_cons (js_setLc 9 sc__law_order.nd (jc_map [("x", 8)] (jic_of (ji_rng1 T.m_range (jn_var (E := intS) (a := a.1) 1))) (show blkC ["state", "n", "kinds", "line", "k", "kind", "less", "pairs", "x", "near", "y", "a", "here"] (defScope s__law_order) _ [("x", 8)] = true by decide +kernel) (jg_name (E := intS) 8 sc__law_order.nd) (by decide) (all_lt rfl) fun x234 => (jn_lc sc__law_order.nd (jc_of [("y", 10)] (jic_of (ji_rng1 T.m_range (jn_var (E := intS) (a := a.1) 1))) (show blkC ["state", "n", "kinds", "line", "k", "kind", "less", "pairs", "x", "near", "y", "a", "here"] (relS _ (defScope s__law_order)) _ [("y", 10)] = true by decide +kernel) (jg_name (E := intS) 10 sc__law_order.nd) (by decide) (all_lt rfl) (fun x235 => jts_one (jt_w (jw_or (jt_val (jn_of (jr_ix oIxL iv_lstO (jr_ix oIxL iv_lstO (jr_var (R := (lstO (lstO (fun x => sh (boolS x))))) (a := a212.2) 6) (jn_var (E := intS) (a := x234) 8)) (jn_var (E := intS) (a := x235) 10)))) (jw_or1 (jt_val (jn_of (jr_ix oIxL iv_lstO (jr_ix oIxL iv_lstO (jr_var (R := (lstO (lstO (fun x => sh (boolS x))))) (a := a212.2) 6) (jn_var (E := intS) (a := x235) 10)) (jn_var (E := intS) (a := x234) 8)))))))) fun x235 => (jn_var (E := intS) (a := x235) 10))))) fun a241 =>
 JB.frz (i := 9) (o := (lstO (lstO (fun x => sh (intS x)))) a241) (p := (lstS (lstS intS)) a241) rfl ((fz_lst (fz_lst (fun _ => fz_sh))) _) (JB.frz (i := 3) (o := (lstO (fun x => sh (intS x))) a130.2) (p := (lstS intS) a130.2) rfl ((fz_lst (fun _ => fz_sh)) _) (JB.frz (i := 6) (o := (lstO (lstO (fun x => sh (boolS x)))) a212.2) (p := (lstS (lstS boolS)) a212.2) rfl ((fz_lst (fz_lst (fun _ => fz_sh))) _) (jb_retS (R := (fun x => sh ((t4S (prS intS (tupS (prS intS intS))) (lstS (lstS boolS)) (lstS intS) (lstS (lstS intS))) x))) (Δ := fun s => some (h0O s) :: nonC 12) (s := a212.1) (weak_mask [true, false, false, false, false, false, false, false, false, false, false, false, false] _) (jn_tupG (P := (t4S (prS intS (tupS (prS intS intS))) (lstS (lstS boolS)) (lstS intS) (lstS (lstS intS)))) (g := fun z => (z.1, z.2.1, z.2.2.1, z.2.2.2.1)) (ja_cons (jn_tupG (P := (prS intS (tupS (prS intS intS)))) (g := fun z => (z.1, z.2.1)) (ja_cons (jn_var (E := intS) (a := a.1) 1) (ja_cons (tup_lst T.m_tuple (jn_var (E := (lstS (prS intS intS))) (a := a233) 7)) ja_nil))) (ja_cons (jn_var (E := (lstS (lstS boolS))) (a := a212.2) 6) (ja_cons (jn_var (E := (lstS intS)) (a := a130.2) 3) (ja_cons (jn_var (E := (lstS (lstS intS))) (a := a241) 9) ja_nil)))))))))) (by unfold M_law_order; first | (dsimp only [CC.sb]; done) | (dsimp only [CC.sb]; rfl) | rfl)
def M_law_steep (a : ((Int × (List (Int × Int))) × (List (List Bool)) × (List Int) × (List (List Int))) × (((Int × (List (Int × Int))) × (List (List Bool)) × (List Int) × (List (List Int))) × Unit)) (s : ((List Int) × Int × Int × Int × Int × (List Int))) : Option ((List Int) × ((List Int) × Int × Int × Int × Int × (List Int))) :=
 ((((M_law_draw ((a.2.1.2.1.length : Int), ()) s).bind fun r254 => some (r254.1, r254.2)).bind fun q256 => some ((q256.1, ()), q256.2)).bind fun q257 => some ([q257.1.1], q257.2)).bind fun a258 => ((rng 0 (9 : Int)).bind fun x286 => foldGo (fun x260 s261 => ((rng 0 (a.2.1.2.1.length : Int)).bind fun x265 => compM (fun x262 => ((atI s261.2 ((s261.2.length : Int) - (1 : Int))).bind fun x263 => atI a.2.1.2.1 x263).bind fun x264 => atI x264 x262) (fun x262 => some x262) x265).bind fun a266 => (bif decide ((0 : Int) < (a266.length : Int)) then ((((M_law_draw ((a266.length : Int), ()) s261.1).bind fun r279 => some (r279.1, r279.2)).bind fun q280 => (atI a266 q280.1).bind fun z281 => some (z281, q280.2)).bind fun q282 => (appM s261.2 q282.1).bind fun r283 => some (r283, q282.2)).bind fun a284 => some (a284.2, a284.1) else some (s261.1, s261.2)).bind fun a285 => some (a285.1, a285.2)) x286 (a258.2, a258.1)).bind fun a287 => (repM [(0 : Int)] (a.1.2.1.length : Int)).bind fun a289 => (foldGo (fun x291 s292 => ((atI a.1.2.2.2 x291).bind fun x305 => foldGo (fun x295 s296 => ((((atI a.1.2.1 x295).bind fun x297 => atI x297 x291).bind fun x299 => bif x299 then (atI s292.2 x295).bind fun x298 => some (decide (s296 < x298)) else some false).bind fun x303 => bif x303 then (atI s292.2 x295).bind fun a302 => some a302 else some s296).bind fun a304 => some a304) x305 (0 : Int)).bind fun a306 => (((M_law_draw ((2 : Int), ()) s292.1).bind fun r309 => some (r309.1, r309.2)).bind fun q310 => some (a306 + q310.1, q310.2)).bind fun a311 => (bif decide (a311.1 = (a287.2.length : Int)) then some (a311.1 - (1 : Int)) else some a311.1).bind fun a315 => (setAt s292.2 x291 a315).bind fun a316 => some (a311.2, a316)) a.1.2.2.1 (a287.1, a289)).bind fun a317 => (mapM (fun x318 => atI a287.2 x318) a317.2).bind fun x319 => some (x319, a317.1)
theorem ok_law_steep (T : Tx P K mg) : FnOk P w K mg base CX0 3 T.a__law_steep T.d__law_steep ["state", "first", "second"] (spS h0O (fun a : ((Int × (List (Int × Int))) × (List (List Bool)) × (List Int) × (List (List Int))) × (((Int × (List (Int × Int))) × (List (List Bool)) × (List Int) × (List (List Int))) × Unit) => [(t4S (prS intS (tupS (prS intS intS))) (lstS (lstS boolS)) (lstS intS) (lstS (lstS intS))) a.1, (t4S (prS intS (tupS (prS intS intS))) (lstS (lstS boolS)) (lstS intS) (lstS (lstS intS))) a.2.1]) M_law_steep (lstO (fun x => sh (intS x)))) :=
 fnd_state T.F__law_steep sc__law_steep (fun _ => rfl) (by decide) fun a s => JB.cong (
 jb_cons (js_setE (Γ := fun s253 : ((List Int) × Int × Int × Int × Int × (List Int)) => [some (h0O s253), some (sh ((t4S (prS intS (tupS (prS intS intS))) (lstS (lstS boolS)) (lstS intS) (lstS (lstS intS))) a.1)), some (sh ((t4S (prS intS (tupS (prS intS intS))) (lstS (lstS boolS)) (lstS intS) (lstS (lstS intS))) a.2.1)), none, none, none, none, none, none, none, none]) (s := s) 3 sc__law_steep.nd (je_dispL (E := intS) (g := fun z => [z.1]) (jea_cons (je_callS (O := h0O) 0 (fun s => s) (fun s u => u) (ok_law_draw T) T.g__law_draw T.F__law_draw.kp T.b__law_draw (Nat.le_of_ble_eq_true rfl) (jea_of (ja_cons (len_lst T.m_len (jn_ixT (E := (lstS (lstS boolS))) (g := fun z => z.2.1) 1 (jn_var (E := (t4S (prS intS (tupS (prS intS intS))) (lstS (lstS boolS)) (lstS intS) (lstS (lstS intS)))) (a := a.2.1) 2))) ja_nil))) fun s255 => jea_nil))) fun a258 =>
 jb_cons (js_forS (Γl := fun s259 : ((List Int) × Int × Int × Int × Int × (List Int)) × (List Int) => [some (h0O s259.1), some (sh ((t4S (prS intS (tupS (prS intS intS))) (lstS (lstS boolS)) (lstS intS) (lstS (lstS intS))) a.1)), some (sh ((t4S (prS intS (tupS (prS intS intS))) (lstS (lstS boolS)) (lstS intS) (lstS (lstS intS))) a.2.1)), some ((lstO (fun x => sh (intS x))) s259.2), none, none, none, none, none, none, none]) (a258.2, a258.1) (ji_rng1 T.m_range jn_int) (jg_name (E := intS) 4 sc__law_steep.nd) (weak_mask [true, true, true, true, false, false, false, false, false, false, false] _) (fun _ => all_lt rfl) fun x260 s261 =>
 jb_cons (js_setLc 7 sc__law_steep.nd (jc_of [("v", 10)] (jic_of (ji_rng1 T.m_range (len_lst T.m_len (jn_ixT (E := (lstS (lstS boolS))) (g := fun z => z.2.1) 1 (jn_var (E := (t4S (prS intS (tupS (prS intS intS))) (lstS (lstS boolS)) (lstS intS) (lstS (lstS intS)))) (a := a.2.1) 2))))) (show blkC ["state", "first", "second", "chain", "k", "labels", "x", "ups", "label", "y", "v"] (defScope s__law_steep) _ [("v", 10)] = true by decide +kernel) (jg_name (E := intS) 10 sc__law_steep.nd) (by decide) (all_lt rfl) (fun x262 => jts_one (jt_val (jn_of (jr_ix oIxL iv_lst (jr_of (jn_of (jr_ix oIxL iv_lst (jr_of (jn_ixT (E := (lstS (lstS boolS))) (g := fun z => z.2.1) 1 (jn_var (E := (t4S (prS intS (tupS (prS intS intS))) (lstS (lstS boolS)) (lstS intS) (lstS (lstS intS)))) (a := a.2.1) 2))) (jn_of (jr_ix oIxL iv_lstO (jr_var (R := (lstO (fun x => sh (intS x)))) (a := s261.2) 3) (jn_bin oSub ov_sub (len_lstO T.m_len (jr_var (R := (lstO (fun x => sh (intS x)))) (a := s261.2) 3)) jn_int)))))) (jn_var (E := intS) (a := x262) 10))))) fun x262 => (jn_var (E := intS) (a := x262) 10))) fun a266 =>
 JB.frz (i := 7) (o := (lstO (fun x => sh (intS x))) a266) (p := (lstS intS) a266) rfl ((fz_lst (fun _ => fz_sh)) _) (jb_cons (js_if (jt_cmp oGt ov_gt (len_lst T.m_len (jn_var (E := (lstS intS)) (a := a266) 7)) jn_int) (D := fun v => Kd.nx ((fun v276 : ((List Int) × Int × Int × Int × Int × (List Int)) × (List Int) => [some (h0O v276.1), some (sh ((t4S (prS intS (tupS (prS intS intS))) (lstS (lstS boolS)) (lstS intS) (lstS (lstS intS))) a.1)), some (sh ((t4S (prS intS (tupS (prS intS intS))) (lstS (lstS boolS)) (lstS intS) (lstS (lstS intS))) a.2.1)), some ((lstO (fun x => sh (intS x))) v276.2), some (sh (intS x260)), none, none, some (sh ((lstS intS) a266)), none, none, none]) v)) (jb_cons (js_appE (E := (fun x => sh (intS x))) (Γ := fun s277 : ((List Int) × Int × Int × Int × Int × (List Int)) => [some (h0O s277), some (sh ((t4S (prS intS (tupS (prS intS intS))) (lstS (lstS boolS)) (lstS intS) (lstS (lstS intS))) a.1)), some (sh ((t4S (prS intS (tupS (prS intS intS))) (lstS (lstS boolS)) (lstS intS) (lstS (lstS intS))) a.2.1)), some ((lstO (fun x => sh (intS x))) s261.2), some (sh (intS x260)), none, none, some (sh ((lstS intS) a266)), none, none, none]) (s := s261.1) 3 (fun _ => s261.2) (je_ix oIxL iv_lst (je_of (jn_var (E := (lstS intS)) (a := a266) 7)) fun s278 => (je_callS (O := h0O) 0 (fun s => s) (fun s u => u) (ok_law_draw T) T.g__law_draw T.F__law_draw.kp T.b__law_draw (Nat.le_of_ble_eq_true rfl) (jea_of (ja_cons (len_lst T.m_len (jn_var (E := (lstS intS)) (a := a266) 7)) ja_nil))))) fun a284 =>
 jb_nil (x := (a284.2, a284.1)) rfl (weak_mask [true, true, true, true, true, false, false, true, false, false, false] _)) (jb_nil (x := (s261.1, s261.2)) rfl (weak_mask [true, true, true, true, true, false, false, true, false, false, false] _))) fun a285 =>
 jb_nil (x := (a285.1, a285.2)) rfl (weak_mask [true, true, true, true, false, false, false, false, false, false, false] _))) fun a287 =>
 jb_cons (js_set 5 sc__law_steep.nd (jn_bin oRep ov_rep (JN.frz (fz_lst (fun _ => fz_sh)) (jn_dispL (E := intS) (g := fun z => [z.1]) (ja_cons jn_int ja_nil))) (len_lst T.m_len (jn_ixT (E := (lstS (lstS boolS))) (g := fun z => z.2.1) 1 (jn_var (E := (t4S (prS intS (tupS (prS intS intS))) (lstS (lstS boolS)) (lstS intS) (lstS (lstS intS)))) (a := a.1) 1))))) fun a289 =>
 jb_cons (js_forS (Γl := fun s290 : ((List Int) × Int × Int × Int × Int × (List Int)) × (List Int) => [some (h0O s290.1), some (sh ((t4S (prS intS (tupS (prS intS intS))) (lstS (lstS boolS)) (lstS intS) (lstS (lstS intS))) a.1)), some (sh ((t4S (prS intS (tupS (prS intS intS))) (lstS (lstS boolS)) (lstS intS) (lstS (lstS intS))) a.2.1)), some ((lstO (fun x => sh (intS x))) a287.2), none, some ((lstO (fun x => sh (intS x))) s290.2), none, none, none, none, none]) (a287.1, a289) (ji_lst (jn_ixT (E := (lstS intS)) (g := fun z => z.2.2.1) 2 (jn_var (E := (t4S (prS intS (tupS (prS intS intS))) (lstS (lstS boolS)) (lstS intS) (lstS (lstS intS)))) (a := a.1) 1))) (jg_name (E := intS) 6 sc__law_steep.nd) (weak_mask [true, true, true, true, false, true, false, false, false, false, false] _) (fun _ => all_lt rfl) fun x291 s292 =>
 jb_cons (js_set 8 sc__law_steep.nd jn_int) fun a293 =>
 jb_cons (js_forS (Γl := fun s294 : Int => [some (h0O s292.1), some (sh ((t4S (prS intS (tupS (prS intS intS))) (lstS (lstS boolS)) (lstS intS) (lstS (lstS intS))) a.1)), some (sh ((t4S (prS intS (tupS (prS intS intS))) (lstS (lstS boolS)) (lstS intS) (lstS (lstS intS))) a.2.1)), some ((lstO (fun x => sh (intS x))) a287.2), none, some ((lstO (fun x => sh (intS x))) s292.2), some (sh (intS x291)), none, some (sh (intS s294)), none, none]) a293 (ji_lst (jn_of (jr_ix oIxL iv_lst (jr_of (jn_ixT (E := (lstS (lstS intS))) (g := fun z => z.2.2.2) 3 (jn_var (E := (t4S (prS intS (tupS (prS intS intS))) (lstS (lstS boolS)) (lstS intS) (lstS (lstS intS)))) (a := a.1) 1))) (jn_var (E := intS) (a := x291) 6)))) (jg_name (E := intS) 9 sc__law_steep.nd) (weak_mask [true, true, true, true, false, true, true, false, true, false, false] _) (fun _ => all_lt rfl) fun x295 s296 =>
 jb_cons (js_if (jt_w (jw_and (jt_val (jn_of (jr_ix oIxL iv_lst (jr_of (jn_of (jr_ix oIxL iv_lst (jr_of (jn_ixT (E := (lstS (lstS boolS))) (g := fun z => z.2.1) 1 (jn_var (E := (t4S (prS intS (tupS (prS intS intS))) (lstS (lstS boolS)) (lstS intS) (lstS (lstS intS)))) (a := a.1) 1))) (jn_var (E := intS) (a := x295) 9)))) (jn_var (E := intS) (a := x291) 6)))) (jw_and1 (jt_cmp oGt ov_gt (jn_of (jr_ix oIxL iv_lstO (jr_var (R := (lstO (fun x => sh (intS x)))) (a := s292.2) 5) (jn_var (E := intS) (a := x295) 9))) (jn_var (E := intS) (a := s296) 8))))) (D := fun v => Kd.nx ((fun v301 : Int => [some (h0O s292.1), some (sh ((t4S (prS intS (tupS (prS intS intS))) (lstS (lstS boolS)) (lstS intS) (lstS (lstS intS))) a.1)), some (sh ((t4S (prS intS (tupS (prS intS intS))) (lstS (lstS boolS)) (lstS intS) (lstS (lstS intS))) a.2.1)), some ((lstO (fun x => sh (intS x))) a287.2), none, some ((lstO (fun x => sh (intS x))) s292.2), some (sh (intS x291)), none, some (sh (intS v301)), some (sh (intS x295)), none]) v)) (jb_cons (js_set 8 sc__law_steep.nd (jn_of (jr_ix oIxL iv_lstO (jr_var (R := (lstO (fun x => sh (intS x)))) (a := s292.2) 5) (jn_var (E := intS) (a := x295) 9)))) fun a302 =>
 jb_nil (x := a302) rfl (weak_mask [true, true, true, true, false, true, true, false, true, true, false] _)) (jb_nil (x := s296) rfl (weak_mask [true, true, true, true, false, true, true, false, true, true, false] _))) fun a304 =>
 jb_nil (x := a304) rfl (weak_mask [true, true, true, true, false, true, true, false, true, false, false] _)) fun a306 =>
 jb_cons (js_setE (Γ := fun s307 : ((List Int) × Int × Int × Int × Int × (List Int)) => [some (h0O s307), some (sh ((t4S (prS intS (tupS (prS intS intS))) (lstS (lstS boolS)) (lstS intS) (lstS (lstS intS))) a.1)), some (sh ((t4S (prS intS (tupS (prS intS intS))) (lstS (lstS boolS)) (lstS intS) (lstS (lstS intS))) a.2.1)), some ((lstO (fun x => sh (intS x))) a287.2), none, some ((lstO (fun x => sh (intS x))) s292.2), some (sh (intS x291)), none, some (sh (intS a306)), none, none]) (s := s292.1) 8 sc__law_steep.nd (je_bin oAdd ov_add (je_of (jn_var (E := intS) (a := a306) 8)) fun s308 => (je_callS (O := h0O) 0 (fun s => s) (fun s u => u) (ok_law_draw T) T.g__law_draw T.F__law_draw.kp T.b__law_draw (Nat.le_of_ble_eq_true rfl) (jea_of (ja_cons jn_int ja_nil))))) fun a311 =>
 jb_cons (js_if (jt_cmp oEq ov_eqI (jn_var (E := intS) (a := a311.1) 8) (len_lstO T.m_len (jr_var (R := (lstO (fun x => sh (intS x)))) (a := a287.2) 3))) (D := fun v => Kd.nx ((fun v313 : Int => [some (h0O a311.2), some (sh ((t4S (prS intS (tupS (prS intS intS))) (lstS (lstS boolS)) (lstS intS) (lstS (lstS intS))) a.1)), some (sh ((t4S (prS intS (tupS (prS intS intS))) (lstS (lstS boolS)) (lstS intS) (lstS (lstS intS))) a.2.1)), some ((lstO (fun x => sh (intS x))) a287.2), none, some ((lstO (fun x => sh (intS x))) s292.2), some (sh (intS x291)), none, some (sh (intS v313)), none, none]) v)) (jb_cons (js_set 8 sc__law_steep.nd (jn_bin oSub ov_sub (jn_var (E := intS) (a := a311.1) 8) jn_int)) fun a314 =>
 jb_nil (x := a314) rfl (weak_mask [true, true, true, true, false, true, true, false, true, false, false] _)) (jb_nil (x := a311.1) rfl (weak_mask [true, true, true, true, false, true, true, false, true, false, false] _))) fun a315 =>
 jb_cons (js_setI (E := (fun x => sh (intS x))) 5 (jn_var (E := intS) (a := a315) 8) (jn_var (E := intS) (a := x291) 6)) fun a316 =>
 jb_nil (x := (a311.2, a316)) rfl (weak_mask [true, true, true, true, false, true, false, false, false, false, false] _)) fun a317 =>
 jb_retS (R := (lstO (fun x => sh (intS x)))) (Δ := fun s => some (h0O s) :: nonC 10) (s := a317.1) (weak_mask [true, false, false, false, false, false, false, false, false, false, false] _) (jn_lc sc__law_steep.nd (jc_map [("label", 8)] (jic_own (jr_var (R := (lstO (fun x => sh (intS x)))) (a := a317.2) 5)) (show blkC ["state", "first", "second", "chain", "k", "labels", "x", "ups", "label", "y", "v"] (defScope s__law_steep) _ [("label", 8)] = true by decide +kernel) (jg_name (E := intS) 8 sc__law_steep.nd) (by decide) (all_lt rfl) fun x318 => (jn_of (jr_ix oIxL iv_lstO (jr_var (R := (lstO (fun x => sh (intS x)))) (a := a287.2) 3) (jn_var (E := intS) (a := x318) 8)))))) (by unfold M_law_steep; first | (dsimp only [CC.sb]; done) | (dsimp only [CC.sb]; rfl) | rfl)
def M_law_over (a : (List (List Bool)) × (Int × Unit)) : Option (List Int) :=
 ((rng 0 (a.1.length : Int)).bind fun x336 => compM (fun x334 => (atI a.1 a.2.1).bind fun x335 => atI x335 x334) (fun x334 => some x334) x336).bind fun a337 => compM (fun x338 => ((compM (fun x339 => (atI a.1 x339).bind fun x340 => atI x340 x338) (fun x339 => some x339) a337).bind fun x341 => some (x341.length : Int)).bind fun x342 => some (decide (x342 = (0 : Int)))) (fun x338 => some x338) a337
theorem ok_law_over (T : Tx P K mg) : FnOk P w K mg base CX0 1 T.a__law_over T.d__law_over ["less", "a"] (spP (fun a : (List (List Bool)) × (Int × Unit) => [(lstS (lstS boolS)) a.1, intS a.2.1]) M_law_over (lstO (fun x => sh (intS x)))) :=
 fnd_pure (Δ := nonC 5) T.F__law_over sc__law_over (fun _ => rfl) (by decide) fun a => JB.cong (
 jb_cons (js_setLcC 2 sc__law_over.nd (jn_lc sc__law_over.nd (jc_of [("v", 3)] (jic_of (ji_rng1 T.m_range (len_lst T.m_len (jn_var (E := (lstS (lstS boolS))) (a := a.1) 0)))) (show blkC ["less", "a", "ups", "v", "z"] (defScope s__law_over) _ [("v", 3)] = true by decide +kernel) (jg_name (E := intS) 3 sc__law_over.nd) (by decide) (all_lt rfl) (fun x334 => jts_one (jt_val (jn_of (jr_ix oIxL iv_lst (jr_of (jn_of (jr_ix oIxL iv_lst (jr_of (jn_var (E := (lstS (lstS boolS))) (a := a.1) 0)) (jn_var (E := intS) (a := a.2.1) 1)))) (jn_var (E := intS) (a := x334) 3))))) fun x334 => (jn_var (E := intS) (a := x334) 3)))) fun a337 =>
 jb_ret (weak_none _) (jn_lc sc__law_over.nd (jc_of [("v", 3)] (jic_own (jr_var (R := (lstO (fun x => sh (intS x)))) (a := a337) 2)) (show blkC ["less", "a", "ups", "v", "z"] (defScope s__law_over) _ [("v", 3)] = true by decide +kernel) (jg_name (E := intS) 3 sc__law_over.nd) (by decide) (all_lt rfl) (fun x338 => jts_one (jt_cmp oEq ov_eqI (len_lstO T.m_len (jr_of (jn_lc sc__law_over.nd (jc_of [("z", 4)] (jic_own (jr_var (R := (lstO (fun x => sh (intS x)))) (a := a337) 2)) (show blkC ["less", "a", "ups", "v", "z"] (relS _ (defScope s__law_over)) _ [("z", 4)] = true by decide +kernel) (jg_name (E := intS) 4 sc__law_over.nd) (by decide) (all_lt rfl) (fun x339 => jts_one (jt_val (jn_of (jr_ix oIxL iv_lst (jr_of (jn_of (jr_ix oIxL iv_lst (jr_of (jn_var (E := (lstS (lstS boolS))) (a := a.1) 0)) (jn_var (E := intS) (a := x339) 4)))) (jn_var (E := intS) (a := x338) 3))))) fun x339 => (jn_var (E := intS) (a := x339) 4))))) jn_int)) fun x338 => (jn_var (E := intS) (a := x338) 3)))) (by unfold M_law_over; first | (dsimp only [CC.sb]; done) | (dsimp only [CC.sb]; rfl) | rfl)
def M_law_under (a : (List (List Bool)) × (Int × Unit)) : Option (List Int) :=
 ((rng 0 (a.1.length : Int)).bind fun x348 => compM (fun x346 => (atI a.1 x346).bind fun x347 => atI x347 a.2.1) (fun x346 => some x346) x348).bind fun a349 => compM (fun x350 => ((compM (fun x351 => (atI a.1 x350).bind fun x352 => atI x352 x351) (fun x351 => some x351) a349).bind fun x353 => some (x353.length : Int)).bind fun x354 => some (decide (x354 = (0 : Int)))) (fun x350 => some x350) a349
theorem ok_law_under (T : Tx P K mg) : FnOk P w K mg base CX0 1 T.a__law_under T.d__law_under ["less", "a"] (spP (fun a : (List (List Bool)) × (Int × Unit) => [(lstS (lstS boolS)) a.1, intS a.2.1]) M_law_under (lstO (fun x => sh (intS x)))) :=
 fnd_pure (Δ := nonC 5) T.F__law_under sc__law_under (fun _ => rfl) (by decide) fun a => JB.cong (
 jb_cons (js_setLcC 2 sc__law_under.nd (jn_lc sc__law_under.nd (jc_of [("v", 3)] (jic_of (ji_rng1 T.m_range (len_lst T.m_len (jn_var (E := (lstS (lstS boolS))) (a := a.1) 0)))) (show blkC ["less", "a", "downs", "v", "z"] (defScope s__law_under) _ [("v", 3)] = true by decide +kernel) (jg_name (E := intS) 3 sc__law_under.nd) (by decide) (all_lt rfl) (fun x346 => jts_one (jt_val (jn_of (jr_ix oIxL iv_lst (jr_of (jn_of (jr_ix oIxL iv_lst (jr_of (jn_var (E := (lstS (lstS boolS))) (a := a.1) 0)) (jn_var (E := intS) (a := x346) 3)))) (jn_var (E := intS) (a := a.2.1) 1))))) fun x346 => (jn_var (E := intS) (a := x346) 3)))) fun a349 =>
 jb_ret (weak_none _) (jn_lc sc__law_under.nd (jc_of [("v", 3)] (jic_own (jr_var (R := (lstO (fun x => sh (intS x)))) (a := a349) 2)) (show blkC ["less", "a", "downs", "v", "z"] (defScope s__law_under) _ [("v", 3)] = true by decide +kernel) (jg_name (E := intS) 3 sc__law_under.nd) (by decide) (all_lt rfl) (fun x350 => jts_one (jt_cmp oEq ov_eqI (len_lstO T.m_len (jr_of (jn_lc sc__law_under.nd (jc_of [("z", 4)] (jic_own (jr_var (R := (lstO (fun x => sh (intS x)))) (a := a349) 2)) (show blkC ["less", "a", "downs", "v", "z"] (relS _ (defScope s__law_under)) _ [("z", 4)] = true by decide +kernel) (jg_name (E := intS) 4 sc__law_under.nd) (by decide) (all_lt rfl) (fun x351 => jts_one (jt_val (jn_of (jr_ix oIxL iv_lst (jr_of (jn_of (jr_ix oIxL iv_lst (jr_of (jn_var (E := (lstS (lstS boolS))) (a := a.1) 0)) (jn_var (E := intS) (a := x350) 3)))) (jn_var (E := intS) (a := x351) 4))))) fun x351 => (jn_var (E := intS) (a := x351) 4))))) jn_int)) fun x350 => (jn_var (E := intS) (a := x350) 3)))) (by unfold M_law_under; first | (dsimp only [CC.sb]; done) | (dsimp only [CC.sb]; rfl) | rfl)
def M_law_at_most (a : (List (List Bool)) × (Int × (Int × Unit))) : Option Bool :=
 bif decide (a.2.1 = a.2.2.1) then some true else (atI a.1 a.2.1).bind fun x367 => atI x367 a.2.2.1
theorem ok_law_at_most (T : Tx P K mg) : FnOk P w K mg base CX0 1 T.a__law_at_most T.d__law_at_most ["less", "a", "b"] (spP (fun a : (List (List Bool)) × (Int × (Int × Unit)) => [(lstS (lstS boolS)) a.1, intS a.2.1, intS a.2.2.1]) M_law_at_most (fun x => sh (boolS x))) :=
 fnd_pure (Δ := nonC 3) T.F__law_at_most sc__law_at_most (fun _ => rfl) (by decide) fun a => JB.cong (
 jb_ret (weak_none _) (jn_or (jn_cmp oEq ov_eqI (jn_var (E := intS) (a := a.2.1) 1) (jn_var (E := intS) (a := a.2.2.1) 2)) (jn_one (jn_of (jr_ix oIxL iv_lst (jr_of (jn_of (jr_ix oIxL iv_lst (jr_of (jn_var (E := (lstS (lstS boolS))) (a := a.1) 0)) (jn_var (E := intS) (a := a.2.1) 1)))) (jn_var (E := intS) (a := a.2.2.1) 2)))))) (by unfold M_law_at_most; first | (dsimp only [CC.sb]; done) | (dsimp only [CC.sb]; rfl) | rfl)
def M_law_fits (a : ((Int × (List (Int × Int))) × (List (List Bool)) × (List Int) × (List (List Int))) × (((Int × (List (Int × Int))) × (List (List Bool)) × (List Int) × (List (List Int))) × ((List Int) × (Int × (Int × Unit))))) : Option Bool :=
 ((atI a.1.2.2.2 a.2.2.2.1).bind fun x384 => loopGo (fun x364 s365 => (((atI a.1.2.1 x364).bind fun x366 => atI x366 a.2.2.2.1).bind fun x372 => bif x372 then ((((atI a.2.2.1 x364).bind fun x368 => some (x368, (a.2.2.2.2.1, ()))).bind fun y369 => some (a.2.1.2.1, y369)).bind fun z370 => M_law_at_most z370).bind fun x371 => some (!x371) else some false).bind fun x383 => bif x383 then (some false).bind fun y382 => some (Out.rt y382) else (((atI a.1.2.1 a.2.2.2.1).bind fun x373 => atI x373 x364).bind fun x379 => bif x379 then (((((atI a.2.2.1 x364).bind fun x374 => some (x374, ())).bind fun y375 => some (a.2.2.2.2.1, y375)).bind fun y376 => some (a.2.1.2.1, y376)).bind fun z377 => M_law_at_most z377).bind fun x378 => some (!x378) else some false).bind fun x381 => bif x381 then (some false).bind fun y380 => some (Out.rt y380) else some (Out.nx ())) x384 ()).bind fun o386 => o386.k (fun a385 => some true) fun r387 => some ((fun r => r) r387)
theorem ok_law_fits (T : Tx P K mg) : FnOk P w K mg base CX0 2 T.a__law_fits T.d__law_fits ["first", "second", "row", "x", "v"] (spP (fun a : ((Int × (List (Int × Int))) × (List (List Bool)) × (List Int) × (List (List Int))) × (((Int × (List (Int × Int))) × (List (List Bool)) × (List Int) × (List (List Int))) × ((List Int) × (Int × (Int × Unit)))) => [(t4S (prS intS (tupS (prS intS intS))) (lstS (lstS boolS)) (lstS intS) (lstS (lstS intS))) a.1, (t4S (prS intS (tupS (prS intS intS))) (lstS (lstS boolS)) (lstS intS) (lstS (lstS intS))) a.2.1, (lstS intS) a.2.2.1, intS a.2.2.2.1, intS a.2.2.2.2.1]) M_law_fits (fun x => sh (boolS x))) :=
 fnd_pure (Δ := nonC 7) T.F__law_fits sc__law_fits (fun _ => rfl) (by decide) fun a => JB.cong (
 jb_cons (js_set 5 sc__law_fits.nd (jn_ixT (E := (lstS (lstS boolS))) (g := fun z => z.2.1) 1 (jn_var (E := (t4S (prS intS (tupS (prS intS intS))) (lstS (lstS boolS)) (lstS intS) (lstS (lstS intS)))) (a := a.2.1) 1))) fun a362 =>
 jb_consO (Γl := fun s363 : Unit => [some (sh ((t4S (prS intS (tupS (prS intS intS))) (lstS (lstS boolS)) (lstS intS) (lstS (lstS intS))) a.1)), some (sh ((t4S (prS intS (tupS (prS intS intS))) (lstS (lstS boolS)) (lstS intS) (lstS (lstS intS))) a.2.1)), some (sh ((lstS intS) a.2.2.1)), some (sh (intS a.2.2.2.1)), some (sh (intS a.2.2.2.2.1)), some (sh ((lstS (lstS boolS)) a362)), none]) (T := fun r : Bool => Kd.rt (nonC 7) ((fun x => sh (boolS x)) r)) (fun r => r) (js_for (Γl := fun s363 : Unit => [some (sh ((t4S (prS intS (tupS (prS intS intS))) (lstS (lstS boolS)) (lstS intS) (lstS (lstS intS))) a.1)), some (sh ((t4S (prS intS (tupS (prS intS intS))) (lstS (lstS boolS)) (lstS intS) (lstS (lstS intS))) a.2.1)), some (sh ((lstS intS) a.2.2.1)), some (sh (intS a.2.2.2.1)), some (sh (intS a.2.2.2.2.1)), some (sh ((lstS (lstS boolS)) a362)), none]) (T := fun r : Bool => Kd.rt (nonC 7) ((fun x => sh (boolS x)) r)) () (ji_lst (jn_of (jr_ix oIxL iv_lst (jr_of (jn_ixT (E := (lstS (lstS intS))) (g := fun z => z.2.2.2) 3 (jn_var (E := (t4S (prS intS (tupS (prS intS intS))) (lstS (lstS boolS)) (lstS intS) (lstS (lstS intS)))) (a := a.1) 0))) (jn_var (E := intS) (a := a.2.2.2.1) 3)))) (jg_name (E := intS) 6 sc__law_fits.nd) (weak_mask [true, true, true, true, true, true, false] _) (fun _ => all_lt rfl) (fun _ => ⟨trivial, nofun, nofun⟩) fun x364 s365 =>
 jb_ifx (D' := (fun r : Bool => Kd.rt (nonC 7) ((fun x => sh (boolS x)) r))) Out.rt (jt_w (jw_and (jt_val (jn_of (jr_ix oIxL iv_lst (jr_of (jn_of (jr_ix oIxL iv_lst (jr_of (jn_ixT (E := (lstS (lstS boolS))) (g := fun z => z.2.1) 1 (jn_var (E := (t4S (prS intS (tupS (prS intS intS))) (lstS (lstS boolS)) (lstS intS) (lstS (lstS intS)))) (a := a.1) 0))) (jn_var (E := intS) (a := x364) 6)))) (jn_var (E := intS) (a := a.2.2.2.1) 3)))) (jw_and1 (jt_not (jt_val (jn_call (ok_law_at_most T) T.g__law_at_most T.F__law_at_most.kp T.b__law_at_most (Nat.le_of_ble_eq_true rfl) (ja_cons (jn_var (E := (lstS (lstS boolS))) (a := a362) 5) (ja_cons (jn_of (jr_ix oIxL iv_lst (jr_of (jn_var (E := (lstS intS)) (a := a.2.2.1) 2)) (jn_var (E := intS) (a := x364) 6))) (ja_cons (jn_var (E := intS) (a := a.2.2.2.2.1) 4) ja_nil))))))))) (jb_ret (weak_none _) jn_bl) (fun _ => rfl) (fun _ => trivial)
 (jb_ifx (D' := (fun r : Bool => Kd.rt (nonC 7) ((fun x => sh (boolS x)) r))) Out.rt (jt_w (jw_and (jt_val (jn_of (jr_ix oIxL iv_lst (jr_of (jn_of (jr_ix oIxL iv_lst (jr_of (jn_ixT (E := (lstS (lstS boolS))) (g := fun z => z.2.1) 1 (jn_var (E := (t4S (prS intS (tupS (prS intS intS))) (lstS (lstS boolS)) (lstS intS) (lstS (lstS intS)))) (a := a.1) 0))) (jn_var (E := intS) (a := a.2.2.2.1) 3)))) (jn_var (E := intS) (a := x364) 6)))) (jw_and1 (jt_not (jt_val (jn_call (ok_law_at_most T) T.g__law_at_most T.F__law_at_most.kp T.b__law_at_most (Nat.le_of_ble_eq_true rfl) (ja_cons (jn_var (E := (lstS (lstS boolS))) (a := a362) 5) (ja_cons (jn_var (E := intS) (a := a.2.2.2.2.1) 4) (ja_cons (jn_of (jr_ix oIxL iv_lst (jr_of (jn_var (E := (lstS intS)) (a := a.2.2.1) 2)) (jn_var (E := intS) (a := x364) 6))) ja_nil))))))))) (jb_ret (weak_none _) jn_bl) (fun _ => rfl) (fun _ => trivial)
 (jb_nil (x := Out.nx ()) rfl (weak_mask [true, true, true, true, true, true, false] _)))) (fun _ => rfl) (fun _ => trivial) fun a385 =>
 jb_ret (weak_none _) jn_bl) (by unfold M_law_fits; first | (dsimp only [CC.sb]; done) | (dsimp only [CC.sb]; rfl) | rfl)
def M_high_masks (a : (Int × (List (Int × Int))) × Unit) : Option (List Int) :=
 (repM [(0 : Int)] a.1.1).bind fun a425 => (foldGo (fun x427 s428 => (((atI s428 x427.1).bind fun x429 => (shlO (1 : Int) x427.2).bind fun x430 => some (bOr x429 x430)).bind fun x431 => setAt s428 x427.1 x431).bind fun a432 => some a432) a.1.2 a425).bind fun a433 => some a433
theorem ok_high_masks (T : Tx P K mg) : FnOk P w K mg base CX0 1 T.a_high_masks T.d_high_masks ["order"] (spP (fun a : (Int × (List (Int × Int))) × Unit => [(prS intS (tupS (prS intS intS))) a.1]) M_high_masks (fun x => sh ((tupS intS) x))) :=
 fnd_pure (Δ := nonC 6) T.F_high_masks sc_high_masks (fun _ => rfl) (by decide) fun a => JB.cong (
 jb_cons (js_asg (jn_var (E := (prS intS (tupS (prS intS intS)))) (a := a.1) 0) (jg_pair (E := intS) (G := (tupS (prS intS intS))) 2 3 sc_high_masks.nd) (all_lt rfl)) fun a423 =>
 jb_cons (js_set 1 sc_high_masks.nd (jn_bin oRep ov_rep (JN.frz (fz_lst (fun _ => fz_sh)) (jn_dispL (E := intS) (g := fun z => [z.1]) (ja_cons jn_int ja_nil))) (jn_var (E := intS) (a := a423.1) 2))) fun a425 =>
 jb_cons (js_forS (Γl := fun s426 : (List Int) => [some (sh ((prS intS (tupS (prS intS intS))) a.1)), some ((lstO (fun x => sh (intS x))) s426), some (sh (intS a423.1)), some (sh ((tupS (prS intS intS)) a423.2)), none, none]) a425 (ji_tup (jn_var (E := (tupS (prS intS intS))) (a := a423.2) 3)) (jg_pair (E := intS) (G := intS) 4 5 sc_high_masks.nd) (weak_mask [true, true, true, true, false, false] _) (fun _ => all_lt rfl) fun x427 s428 =>
 jb_cons (js_setI (E := (fun x => sh (intS x))) 1 (jn_bin oBOr ov_bOr (jn_of (jr_ix oIxL iv_lstO (jr_var (R := (lstO (fun x => sh (intS x)))) (a := s428) 1) (jn_var (E := intS) (a := x427.1) 4))) (jn_bin oShl ov_shl jn_int (jn_var (E := intS) (a := x427.2) 5))) (jn_var (E := intS) (a := x427.1) 4)) fun a432 =>
 jb_nil (x := a432) rfl (weak_mask [true, true, true, true, false, false] _)) fun a433 =>
 jb_ret (weak_none _) (tup_own T.m_tuple (jr_var (R := (lstO (fun x => sh (intS x)))) (a := a433) 1))) (by unfold M_high_masks; first | (dsimp only [CC.sb]; done) | (dsimp only [CC.sb]; rfl) | rfl)
def M_points_in (a : Int × Unit) : Option (List Int) :=
 (whileF (fun s437 => some (s437.1 != 0)) (fun s437 => (appM s437.2 ((bitLen (bAnd s437.1 (-s437.1))) - (1 : Int))).bind fun a439 => some (s437.1 - (bAnd s437.1 (-s437.1)), a439)) 100000 (a.1, [])).bind fun a441 => some a441.2
theorem ok_points_in (T : Tx P K mg) : FnOk P w K mg base CX0 1 T.a_points_in T.d_points_in ["mask"] (spP (fun a : Int × Unit => [intS a.1]) M_points_in (fun x => sh ((tupS intS) x))) :=
 fnd_pure (Δ := nonC 3) T.F_points_in sc_points_in (fun _ => rfl) (by decide) fun a => JB.cong (
 jb_cons (js_set 1 sc_points_in.nd (jn_nilLO (E := (fun x => sh (intS x))))) fun a435 =>
 jb_cons (js_whileS (Γl := fun s436 : Int × (List Int) => [some (sh (intS s436.1)), some ((lstO (fun x => sh (intS x))) s436.2), none]) 100000 (a.1, a435) (weak_mask [true, true, false] _) (fun s437 => (jt_truI (jn_var (E := intS) (a := s437.1) 0))) fun s437 =>
 jb_cons (js_set 2 sc_points_in.nd (jn_bin oBAnd ov_bAnd (jn_var (E := intS) (a := s437.1) 0) (jn_neg (jn_var (E := intS) (a := s437.1) 0)))) fun a438 =>
 jb_cons (js_app (E := (fun x => sh (intS x))) 1 (jn_bin oSub ov_sub (jn_bits (jn_var (E := intS) (a := a438) 2)) jn_int)) fun a439 =>
 jb_cons (js_set 0 sc_points_in.nd (jn_bin oSub ov_sub (jn_var (E := intS) (a := s437.1) 0) (jn_var (E := intS) (a := a438) 2))) fun a440 =>
 jb_nil (x := (a440, a439)) rfl (weak_mask [true, true, false] _)) fun a441 =>
 jb_ret (weak_none _) (tup_own T.m_tuple (jr_var (R := (lstO (fun x => sh (intS x)))) (a := a441.2) 1))) (by unfold M_points_in; first | (dsimp only [CC.sb]; done) | (dsimp only [CC.sb]; rfl) | rfl)
def M_points_of (a : (List Int) × Unit) : Option (List (List Int)) :=
 (mapM (fun x434 => M_points_in (x434, ())) a.1).bind fun x => some x
theorem ok_points_of (T : Tx P K mg) : FnOk P w K mg base CX0 2 T.a__points_of T.d__points_of ["masks"] (spP (fun a : (List Int) × Unit => [(tupS intS) a.1]) M_points_of (fun x => sh ((tupS (tupS intS)) x))) :=
 fnd_pure (Δ := nonC 2) T.F__points_of sc__points_of (fun _ => rfl) (by decide) fun a => JB.cong (
 jb_ret (weak_none _) (tup_lst T.m_tuple (JN.frz (fz_lst (fun _ => fz_sh)) (jn_lc sc__points_of.nd (jc_map [("mask", 1)] (jic_of (ji_tup (jn_var (E := (tupS intS)) (a := a.1) 0))) (show blkC ["masks", "mask"] (defScope s__points_of) _ [("mask", 1)] = true by decide +kernel) (jg_name (E := intS) 1 sc__points_of.nd) (by decide) (all_lt rfl) fun x434 => (jn_call (ok_points_in T) T.g_points_in T.F_points_in.kp T.b_points_in (Nat.le_of_ble_eq_true rfl) (ja_cons (jn_var (E := intS) (a := x434) 1) ja_nil))))))) (by unfold M_points_of; first | (dsimp only [CC.sb]; done) | (dsimp only [CC.sb]; rfl) | rfl)
def M_low_masks (a : (Int × (List (Int × Int))) × Unit) : Option (List Int) :=
 (repM [(0 : Int)] a.1.1).bind fun a448 => (foldGo (fun x450 s451 => (((atI s451 x450.2).bind fun x452 => (shlO (1 : Int) x450.1).bind fun x453 => some (bOr x452 x453)).bind fun x454 => setAt s451 x450.2 x454).bind fun a455 => some a455) a.1.2 a448).bind fun a456 => some a456
theorem ok_low_masks (T : Tx P K mg) : FnOk P w K mg base CX0 1 T.a_low_masks T.d_low_masks ["order"] (spP (fun a : (Int × (List (Int × Int))) × Unit => [(prS intS (tupS (prS intS intS))) a.1]) M_low_masks (fun x => sh ((tupS intS) x))) :=
 fnd_pure (Δ := nonC 6) T.F_low_masks sc_low_masks (fun _ => rfl) (by decide) fun a => JB.cong (
 jb_cons (js_asg (jn_var (E := (prS intS (tupS (prS intS intS)))) (a := a.1) 0) (jg_pair (E := intS) (G := (tupS (prS intS intS))) 2 3 sc_low_masks.nd) (all_lt rfl)) fun a446 =>
 jb_cons (js_set 1 sc_low_masks.nd (jn_bin oRep ov_rep (JN.frz (fz_lst (fun _ => fz_sh)) (jn_dispL (E := intS) (g := fun z => [z.1]) (ja_cons jn_int ja_nil))) (jn_var (E := intS) (a := a446.1) 2))) fun a448 =>
 jb_cons (js_forS (Γl := fun s449 : (List Int) => [some (sh ((prS intS (tupS (prS intS intS))) a.1)), some ((lstO (fun x => sh (intS x))) s449), some (sh (intS a446.1)), some (sh ((tupS (prS intS intS)) a446.2)), none, none]) a448 (ji_tup (jn_var (E := (tupS (prS intS intS))) (a := a446.2) 3)) (jg_pair (E := intS) (G := intS) 4 5 sc_low_masks.nd) (weak_mask [true, true, true, true, false, false] _) (fun _ => all_lt rfl) fun x450 s451 =>
 jb_cons (js_setI (E := (fun x => sh (intS x))) 1 (jn_bin oBOr ov_bOr (jn_of (jr_ix oIxL iv_lstO (jr_var (R := (lstO (fun x => sh (intS x)))) (a := s451) 1) (jn_var (E := intS) (a := x450.2) 5))) (jn_bin oShl ov_shl jn_int (jn_var (E := intS) (a := x450.1) 4))) (jn_var (E := intS) (a := x450.2) 5)) fun a455 =>
 jb_nil (x := a455) rfl (weak_mask [true, true, true, true, false, false] _)) fun a456 =>
 jb_ret (weak_none _) (tup_own T.m_tuple (jr_var (R := (lstO (fun x => sh (intS x)))) (a := a456) 1))) (by unfold M_low_masks; first | (dsimp only [CC.sb]; done) | (dsimp only [CC.sb]; rfl) | rfl)
def M_covers (a : (Int × (List (Int × Int))) × Unit) : Option (List (Int × Int)) :=
 (M_high_masks (a.1, ())).bind fun a460 => (M_low_masks (a.1, ())).bind fun a461 => (compM (fun x462 => ((atI a460 x462.1).bind fun x463 => (atI a461 x462.2).bind fun x464 => some (bAnd x463 x464)).bind fun x465 => some (decide (x465 = (0 : Int)))) (fun x462 => some (x462.1, x462.2)) a.1.2).bind fun x => some x
theorem ok_covers (T : Tx P K mg) : FnOk P w K mg base CX0 2 T.a_covers T.d_covers ["order"] (spP (fun a : (Int × (List (Int × Int))) × Unit => [(prS intS (tupS (prS intS intS))) a.1]) M_covers (fun x => sh ((tupS (prS intS intS)) x))) :=
 fnd_pure (Δ := nonC 5) T.F_covers sc_covers (fun _ => rfl) (by decide) fun a => JB.cong (
 jb_cons (js_set 1 sc_covers.nd (jn_call (ok_high_masks T) T.g_high_masks T.F_high_masks.kp T.b_high_masks (Nat.le_of_ble_eq_true rfl) (ja_cons (jn_var (E := (prS intS (tupS (prS intS intS)))) (a := a.1) 0) ja_nil))) fun a460 =>
 jb_cons (js_set 2 sc_covers.nd (jn_call (ok_low_masks T) T.g_low_masks T.F_low_masks.kp T.b_low_masks (Nat.le_of_ble_eq_true rfl) (ja_cons (jn_var (E := (prS intS (tupS (prS intS intS)))) (a := a.1) 0) ja_nil))) fun a461 =>
 jb_ret (weak_none _) (tup_lst T.m_tuple (JN.frz (fz_lst (fun _ => fz_sh)) (jn_lc sc_covers.nd (jc_of [("x", 3), ("y", 4)] (jic_of (ji_tup (jn_ixT (E := (tupS (prS intS intS))) (g := fun z => z.2) 1 (jn_var (E := (prS intS (tupS (prS intS intS)))) (a := a.1) 0)))) (show blkC ["order", "highs", "lows", "x", "y"] (defScope s_covers) _ [("x", 3), ("y", 4)] = true by decide +kernel) (jg_pair (E := intS) (G := intS) 3 4 sc_covers.nd) (by decide) (all_lt rfl) (fun x462 => jts_one (jt_cmp oEq ov_eqI (jn_bin oBAnd ov_bAnd (jn_of (jr_ix oIxT iv_tup (jr_of (jn_var (E := (tupS intS)) (a := a460) 1)) (jn_var (E := intS) (a := x462.1) 3))) (jn_of (jr_ix oIxT iv_tup (jr_of (jn_var (E := (tupS intS)) (a := a461) 2)) (jn_var (E := intS) (a := x462.2) 4)))) jn_int)) fun x462 => (jn_tupG (P := (prS intS intS)) (g := fun z => (z.1, z.2.1)) (ja_cons (jn_var (E := intS) (a := x462.1) 3) (ja_cons (jn_var (E := intS) (a := x462.2) 4) ja_nil)))))))) (by unfold M_covers; first | (dsimp only [CC.sb]; done) | (dsimp only [CC.sb]; rfl) | rfl)
def M_cover_neighbours (a : (Int × (List (Int × Int))) × Unit) : Option (List Int) :=
 ((((M_covers (a.1, ())).bind fun x466 => some (x466, ())).bind fun y467 => some (a.1.1, y467)).bind fun z468 => some (z468.1, z468.2.1)).bind fun a469 => (M_high_masks (a469, ())).bind fun a470 => (M_low_masks (a469, ())).bind fun a471 => ((rng 0 a.1.1).bind fun x475 => mapM (fun x472 => (atI a470 x472).bind fun x473 => (atI a471 x472).bind fun x474 => some (bOr x473 x474)) x475).bind fun x => some x
theorem ok_cover_neighbours (T : Tx P K mg) : FnOk P w K mg base CX0 3 T.a__cover_neighbours T.d__cover_neighbours ["order"] (spP (fun a : (Int × (List (Int × Int))) × Unit => [(prS intS (tupS (prS intS intS))) a.1]) M_cover_neighbours (fun x => sh ((tupS intS) x))) :=
 fnd_pure (Δ := nonC 5) T.F__cover_neighbours sc__cover_neighbours (fun _ => rfl) (by decide) fun a => JB.cong (
 jb_cons (js_set 1 sc__cover_neighbours.nd (jn_tupG (P := (prS intS (tupS (prS intS intS)))) (g := fun z => (z.1, z.2.1)) (ja_cons (jn_ixT (E := intS) (g := fun z => z.1) 0 (jn_var (E := (prS intS (tupS (prS intS intS)))) (a := a.1) 0)) (ja_cons (jn_call (ok_covers T) T.g_covers T.F_covers.kp T.b_covers (Nat.le_of_ble_eq_true rfl) (ja_cons (jn_var (E := (prS intS (tupS (prS intS intS)))) (a := a.1) 0) ja_nil)) ja_nil)))) fun a469 =>
 jb_cons (js_set 2 sc__cover_neighbours.nd (jn_call (ok_high_masks T) T.g_high_masks T.F_high_masks.kp T.b_high_masks (Nat.le_of_ble_eq_true rfl) (ja_cons (jn_var (E := (prS intS (tupS (prS intS intS)))) (a := a469) 1) ja_nil))) fun a470 =>
 jb_cons (js_set 3 sc__cover_neighbours.nd (jn_call (ok_low_masks T) T.g_low_masks T.F_low_masks.kp T.b_low_masks (Nat.le_of_ble_eq_true rfl) (ja_cons (jn_var (E := (prS intS (tupS (prS intS intS)))) (a := a469) 1) ja_nil))) fun a471 =>
 jb_ret (weak_none _) (tup_lst T.m_tuple (JN.frz (fz_lst (fun _ => fz_sh)) (jn_lc sc__cover_neighbours.nd (jc_map [("x", 4)] (jic_of (ji_rng1 T.m_range (jn_ixT (E := intS) (g := fun z => z.1) 0 (jn_var (E := (prS intS (tupS (prS intS intS)))) (a := a.1) 0)))) (show blkC ["order", "links", "ups", "downs", "x"] (defScope s__cover_neighbours) _ [("x", 4)] = true by decide +kernel) (jg_name (E := intS) 4 sc__cover_neighbours.nd) (by decide) (all_lt rfl) fun x472 => (jn_bin oBOr ov_bOr (jn_of (jr_ix oIxT iv_tup (jr_of (jn_var (E := (tupS intS)) (a := a470) 2)) (jn_var (E := intS) (a := x472) 4))) (jn_of (jr_ix oIxT iv_tup (jr_of (jn_var (E := (tupS intS)) (a := a471) 3)) (jn_var (E := intS) (a := x472) 4))))))))) (by unfold M_cover_neighbours; first | (dsimp only [CC.sb]; done) | (dsimp only [CC.sb]; rfl) | rfl)
def M_at_least_masks (a : (Int × (List (Int × Int))) × Unit) : Option (List Int) :=
 (((M_high_masks (a.1, ())).bind fun x477 => some (enumL 0 x477)).bind fun x480 => mapM (fun x478 => (shlO (1 : Int) x478.1).bind fun x479 => some (bOr x478.2 x479)) x480).bind fun x => some x
theorem ok_at_least_masks (T : Tx P K mg) : FnOk P w K mg base CX0 2 T.a_at_least_masks T.d_at_least_masks ["order"] (spP (fun a : (Int × (List (Int × Int))) × Unit => [(prS intS (tupS (prS intS intS))) a.1]) M_at_least_masks (fun x => sh ((tupS intS) x))) :=
 fnd_pure (Δ := nonC 3) T.F_at_least_masks sc_at_least_masks (fun _ => rfl) (by decide) fun a => JB.cong (
 jb_ret (weak_none _) (tup_lst T.m_tuple (JN.frz (fz_lst (fun _ => fz_sh)) (jn_lc sc_at_least_masks.nd (jc_map [("x", 1), ("mask", 2)] (jic_of (ji_enumT T.m_enumerate (jn_call (ok_high_masks T) T.g_high_masks T.F_high_masks.kp T.b_high_masks (Nat.le_of_ble_eq_true rfl) (ja_cons (jn_var (E := (prS intS (tupS (prS intS intS)))) (a := a.1) 0) ja_nil)))) (show blkC ["order", "x", "mask"] (defScope s_at_least_masks) _ [("x", 1), ("mask", 2)] = true by decide +kernel) (jg_pair (E := intS) (G := intS) 1 2 sc_at_least_masks.nd) (by decide) (all_lt rfl) fun x478 => (jn_bin oBOr ov_bOr (jn_var (E := intS) (a := x478.2) 2) (jn_bin oShl ov_shl jn_int (jn_var (E := intS) (a := x478.1) 1)))))))) (by unfold M_at_least_masks; first | (dsimp only [CC.sb]; done) | (dsimp only [CC.sb]; rfl) | rfl)
def M_fits (a : (List Int) × (Int × ((List Int) × ((List Int) × ((List Int) × Unit))))) : Option Bool :=
 (loopGo (fun x498 s499 => ((((((atI a.1 a.2.1).bind fun x500 => atI a.2.2.2.2.1 x500).bind fun x501 => (atI a.1 x498).bind fun x502 => shrO x501 x502).bind fun x503 => some (bAnd x503 (1 : Int))).bind fun x504 => some (x504 != 0)).bind fun x505 => some (!x505)).bind fun x507 => bif x507 then (some false).bind fun y506 => some (Out.rt y506) else some (Out.nx ())) a.2.2.1 ()).bind fun o523 => o523.k (fun a508 => (loopGo (fun x510 s511 => ((((((atI a.1 x510).bind fun x512 => atI a.2.2.2.2.1 x512).bind fun x513 => (atI a.1 a.2.1).bind fun x514 => shrO x513 x514).bind fun x515 => some (bAnd x515 (1 : Int))).bind fun x516 => some (x516 != 0)).bind fun x517 => some (!x517)).bind fun x519 => bif x519 then (some false).bind fun y518 => some (Out.rt y518) else some (Out.nx ())) a.2.2.2.1 ()).bind fun o521 => o521.k (fun a520 => some true) fun r522 => some ((fun r => r) r522)) fun r524 => some ((fun r => r) r524)
theorem ok_fits (T : Tx P K mg) : FnOk P w K mg base CX0 1 T.a__fits T.d__fits ["now", "x", "highs", "lows", "reach"] (spP (fun a : (List Int) × (Int × ((List Int) × ((List Int) × ((List Int) × Unit)))) => [(lstS intS) a.1, intS a.2.1, (tupS intS) a.2.2.1, (tupS intS) a.2.2.2.1, (tupS intS) a.2.2.2.2.1]) M_fits (fun x => sh (boolS x))) :=
 fnd_pure (Δ := nonC 6) T.F__fits sc__fits (fun _ => rfl) (by decide) fun a => JB.cong (
 jb_consO (Γl := fun s497 : Unit => [some (sh ((lstS intS) a.1)), some (sh (intS a.2.1)), some (sh ((tupS intS) a.2.2.1)), some (sh ((tupS intS) a.2.2.2.1)), some (sh ((tupS intS) a.2.2.2.2.1)), none]) (T := fun r : Bool => Kd.rt (nonC 6) ((fun x => sh (boolS x)) r)) (fun r => r) (js_for (Γl := fun s497 : Unit => [some (sh ((lstS intS) a.1)), some (sh (intS a.2.1)), some (sh ((tupS intS) a.2.2.1)), some (sh ((tupS intS) a.2.2.2.1)), some (sh ((tupS intS) a.2.2.2.2.1)), none]) (T := fun r : Bool => Kd.rt (nonC 6) ((fun x => sh (boolS x)) r)) () (ji_tup (jn_var (E := (tupS intS)) (a := a.2.2.1) 2)) (jg_name (E := intS) 5 sc__fits.nd) (weak_mask [true, true, true, true, true, false] _) (fun _ => all_lt rfl) (fun _ => ⟨trivial, nofun, nofun⟩) fun x498 s499 =>
 jb_ifx (D' := (fun r : Bool => Kd.rt (nonC 6) ((fun x => sh (boolS x)) r))) Out.rt (jt_not (jt_truI (jn_bin oBAnd ov_bAnd (jn_bin oShr ov_shr (jn_of (jr_ix oIxT iv_tup (jr_of (jn_var (E := (tupS intS)) (a := a.2.2.2.2.1) 4)) (jn_of (jr_ix oIxL iv_lst (jr_of (jn_var (E := (lstS intS)) (a := a.1) 0)) (jn_var (E := intS) (a := a.2.1) 1))))) (jn_of (jr_ix oIxL iv_lst (jr_of (jn_var (E := (lstS intS)) (a := a.1) 0)) (jn_var (E := intS) (a := x498) 5)))) jn_int))) (jb_ret (weak_none _) jn_bl) (fun _ => rfl) (fun _ => trivial)
 (jb_nil (x := Out.nx ()) rfl (weak_mask [true, true, true, true, true, false] _))) (fun _ => rfl) (fun _ => trivial) fun a508 =>
 jb_consO (Γl := fun s509 : Unit => [some (sh ((lstS intS) a.1)), some (sh (intS a.2.1)), some (sh ((tupS intS) a.2.2.1)), some (sh ((tupS intS) a.2.2.2.1)), some (sh ((tupS intS) a.2.2.2.2.1)), none]) (T := fun r : Bool => Kd.rt (nonC 6) ((fun x => sh (boolS x)) r)) (fun r => r) (js_for (Γl := fun s509 : Unit => [some (sh ((lstS intS) a.1)), some (sh (intS a.2.1)), some (sh ((tupS intS) a.2.2.1)), some (sh ((tupS intS) a.2.2.2.1)), some (sh ((tupS intS) a.2.2.2.2.1)), none]) (T := fun r : Bool => Kd.rt (nonC 6) ((fun x => sh (boolS x)) r)) () (ji_tup (jn_var (E := (tupS intS)) (a := a.2.2.2.1) 3)) (jg_name (E := intS) 5 sc__fits.nd) (weak_mask [true, true, true, true, true, false] _) (fun _ => all_lt rfl) (fun _ => ⟨trivial, nofun, nofun⟩) fun x510 s511 =>
 jb_ifx (D' := (fun r : Bool => Kd.rt (nonC 6) ((fun x => sh (boolS x)) r))) Out.rt (jt_not (jt_truI (jn_bin oBAnd ov_bAnd (jn_bin oShr ov_shr (jn_of (jr_ix oIxT iv_tup (jr_of (jn_var (E := (tupS intS)) (a := a.2.2.2.2.1) 4)) (jn_of (jr_ix oIxL iv_lst (jr_of (jn_var (E := (lstS intS)) (a := a.1) 0)) (jn_var (E := intS) (a := x510) 5))))) (jn_of (jr_ix oIxL iv_lst (jr_of (jn_var (E := (lstS intS)) (a := a.1) 0)) (jn_var (E := intS) (a := a.2.1) 1)))) jn_int))) (jb_ret (weak_none _) jn_bl) (fun _ => rfl) (fun _ => trivial)
 (jb_nil (x := Out.nx ()) rfl (weak_mask [true, true, true, true, true, false] _))) (fun _ => rfl) (fun _ => trivial) fun a520 =>
 jb_ret (weak_none _) jn_bl) (by unfold M_fits; first | (dsimp only [CC.sb]; done) | (dsimp only [CC.sb]; rfl) | rfl)
def M_apply_steps (a : (Int × (List (Int × Int))) × ((Int × (List (Int × Int))) × ((List Int) × ((List (Int × Int)) × Unit)))) : Option (Res Ex (List Int)) :=
 (((M_high_masks (a.1, ())).bind fun x442 => some (x442, ())).bind fun z443 => M_points_of z443).bind fun a444 => (((M_low_masks (a.1, ())).bind fun x457 => some (x457, ())).bind fun z458 => M_points_of z458).bind fun a459 => (M_cover_neighbours (a.2.1, ())).bind fun a476 => (M_at_least_masks (a.2.1, ())).bind fun a481 => (loopGo (fun x484 s485 => (((bif decide ((0 : Int) ≤ x484.2.1) then some (decide (x484.2.1 < a.1.1)) else some false).bind fun x488 => some (!x488)).bind fun x490 => bif x490 then some true else (bif decide ((0 : Int) ≤ x484.2.2) then some (decide (x484.2.2 < a.2.1.1)) else some false).bind fun x489 => some (!x489)).bind fun x537 => bif x537 then (some (Res.er (Ex.BadStep x484.1))).bind fun y536 => some (Out.rt y536) else ((((((atI s485 x484.2.1).bind fun x491 => atI a476 x491).bind fun x492 => shrO x492 x484.2.2).bind fun x493 => some (bAnd x493 (1 : Int))).bind fun x494 => some (x494 != 0)).bind fun x495 => some (!x495)).bind fun x535 => bif x535 then (some (Res.er (Ex.BadStep x484.1))).bind fun y534 => some (Out.rt y534) else (setAt s485 x484.2.1 x484.2.2).bind fun a496 => ((((((atI a444 x484.2.1).bind fun x525 => ((atI a459 x484.2.1).bind fun x526 => some (x526, (a481, ()))).bind fun y527 => some (x525, y527)).bind fun y528 => some (x484.2.1, y528)).bind fun y529 => some (a496, y529)).bind fun z530 => M_fits z530).bind fun x531 => some (!x531)).bind fun x533 => bif x533 then (some (Res.er (Ex.BadStep x484.1))).bind fun y532 => some (Out.rt y532) else some (Out.nx a496)) (enumL 0 a.2.2.2.1) a.2.2.1).bind fun o540 => o540.k (fun a538 => (some a538).bind fun y539 => some (Res.ok y539)) fun r541 => some ((fun r => r) r541)
theorem ok_apply_steps (T : Tx P K mg) : FnOk P w K mg base (L2.CX P w) 4 T.a_apply_steps T.d_apply_steps ["first", "second", "row", "steps"] (spX (fun a : (Int × (List (Int × Int))) × ((Int × (List (Int × Int))) × ((List Int) × ((List (Int × Int)) × Unit))) => [(prS intS (tupS (prS intS intS))) a.1, (prS intS (tupS (prS intS intS))) a.2.1, (tupS intS) a.2.2.1, (tupS (prS intS intS)) a.2.2.2.1]) M_apply_steps (fun x => sh ((tupS intS) x)) (Xp K)) :=
 fnd_pureT (Δ := nonC 13) T.F_apply_steps sc_apply_steps (fun _ => rfl) (by decide) fun a wx => JB.cong (
 jb_cons (js_set 4 sc_apply_steps.nd (jn_call (ok_points_of T) T.g__points_of T.F__points_of.kp T.b__points_of (Nat.le_of_ble_eq_true rfl) (ja_cons (jn_call (ok_high_masks T) T.g_high_masks T.F_high_masks.kp T.b_high_masks (Nat.le_of_ble_eq_true rfl) (ja_cons (jn_var (E := (prS intS (tupS (prS intS intS)))) (a := a.1) 0) ja_nil)) ja_nil))) fun a444 =>
 jb_cons (js_set 5 sc_apply_steps.nd (jn_call (ok_points_of T) T.g__points_of T.F__points_of.kp T.b__points_of (Nat.le_of_ble_eq_true rfl) (ja_cons (jn_call (ok_low_masks T) T.g_low_masks T.F_low_masks.kp T.b_low_masks (Nat.le_of_ble_eq_true rfl) (ja_cons (jn_var (E := (prS intS (tupS (prS intS intS)))) (a := a.1) 0) ja_nil)) ja_nil))) fun a459 =>
 jb_cons (js_set 6 sc_apply_steps.nd (jn_call (ok_cover_neighbours T) T.g__cover_neighbours T.F__cover_neighbours.kp T.b__cover_neighbours (Nat.le_of_ble_eq_true rfl) (ja_cons (jn_var (E := (prS intS (tupS (prS intS intS)))) (a := a.2.1) 1) ja_nil))) fun a476 =>
 jb_cons (js_set 7 sc_apply_steps.nd (jn_call (ok_at_least_masks T) T.g_at_least_masks T.F_at_least_masks.kp T.b_at_least_masks (Nat.le_of_ble_eq_true rfl) (ja_cons (jn_var (E := (prS intS (tupS (prS intS intS)))) (a := a.2.1) 1) ja_nil))) fun a481 =>
 jb_cons (js_set 8 sc_apply_steps.nd (list_tup T.m_list (jn_var (E := (tupS intS)) (a := a.2.2.1) 2))) fun a482 =>
 jb_consO (Γl := fun s483 : (List Int) => [some (sh ((prS intS (tupS (prS intS intS))) a.1)), some (sh ((prS intS (tupS (prS intS intS))) a.2.1)), some (sh ((tupS intS) a.2.2.1)), some (sh ((tupS (prS intS intS)) a.2.2.2.1)), some (sh ((tupS (tupS intS)) a444)), some (sh ((tupS (tupS intS)) a459)), some (sh ((tupS intS) a476)), some (sh ((tupS intS) a481)), some ((lstO (fun x => sh (intS x))) s483), none, none, none, none]) (T := TD (fun r : (List Int) => Kd.rt (nonC 13) ((fun x => sh ((tupS intS) x)) r)) (nonC 13) (Xp K)) (fun r => r) (js_for (Γl := fun s483 : (List Int) => [some (sh ((prS intS (tupS (prS intS intS))) a.1)), some (sh ((prS intS (tupS (prS intS intS))) a.2.1)), some (sh ((tupS intS) a.2.2.1)), some (sh ((tupS (prS intS intS)) a.2.2.2.1)), some (sh ((tupS (tupS intS)) a444)), some (sh ((tupS (tupS intS)) a459)), some (sh ((tupS intS) a476)), some (sh ((tupS intS) a481)), some ((lstO (fun x => sh (intS x))) s483), none, none, none, none]) (T := TD (fun r : (List Int) => Kd.rt (nonC 13) ((fun x => sh ((tupS intS) x)) r)) (nonC 13) (Xp K)) a482 (ji_enumT T.m_enumerate (jn_var (E := (tupS (prS intS intS))) (a := a.2.2.2.1) 3)) (jg_pair (E := intS) (G := (prS intS intS)) 9 10 sc_apply_steps.nd) (weak_mask [true, true, true, true, true, true, true, true, true, false, false, false, false] _) (fun _ => all_lt rfl) (td_ends fun _ => ⟨trivial, nofun, nofun⟩) fun x484 s485 =>
 jb_cons (js_asg (jn_var (E := (prS intS intS)) (a := x484.2) 10) (jg_pair (E := intS) (G := intS) 11 12 sc_apply_steps.nd) (all_lt rfl)) fun a487 =>
 jb_ifx (D' := (TD (fun r : (List Int) => Kd.rt (nonC 13) ((fun x => sh ((tupS intS) x)) r)) (nonC 13) (Xp K))) Out.rt (jt_w (jw_or (jt_not (jt_chain oLe ov_le oLt ov_lt jn_int (jn_var (E := intS) (a := a487.1) 11) (jn_ixT (E := intS) (g := fun z => z.1) 0 (jn_var (E := (prS intS (tupS (prS intS intS)))) (a := a.1) 0)))) (jw_or1 (jt_not (jt_chain oLe ov_le oLt ov_lt jn_int (jn_var (E := intS) (a := a487.2) 12) (jn_ixT (E := intS) (g := fun z => z.1) 0 (jn_var (E := (prS intS (tupS (prS intS intS)))) (a := a.2.1) 1))))))) (jb_raise (Xp := Xp K) Res.er (weak_mask [false, false, false, false, false, false, false, false, false, false, false, false, false] _) (jm_sup (u := Ex.BadStep) (d := sd_BadStep) T.s_BadStep T.pf T.m_super T.no_BadStep_at sh_BadStep T.g_BadStep (jn_var (E := intS) (a := x484.1) 9)) (fun _ => rfl)) (fun _ => rfl) (td_nonx fun _ => trivial)
 (jb_ifx (D' := (TD (fun r : (List Int) => Kd.rt (nonC 13) ((fun x => sh ((tupS intS) x)) r)) (nonC 13) (Xp K))) Out.rt (jt_not (jt_truI (jn_bin oBAnd ov_bAnd (jn_bin oShr ov_shr (jn_of (jr_ix oIxT iv_tup (jr_of (jn_var (E := (tupS intS)) (a := a476) 6)) (jn_of (jr_ix oIxL iv_lstO (jr_var (R := (lstO (fun x => sh (intS x)))) (a := s485) 8) (jn_var (E := intS) (a := a487.1) 11))))) (jn_var (E := intS) (a := a487.2) 12)) jn_int))) (jb_raise (Xp := Xp K) Res.er (weak_mask [false, false, false, false, false, false, false, false, false, false, false, false, false] _) (jm_sup (u := Ex.BadStep) (d := sd_BadStep) T.s_BadStep T.pf T.m_super T.no_BadStep_at sh_BadStep T.g_BadStep (jn_var (E := intS) (a := x484.1) 9)) (fun _ => rfl)) (fun _ => rfl) (td_nonx fun _ => trivial)
 (jb_cons (js_setI (E := (fun x => sh (intS x))) 8 (jn_var (E := intS) (a := a487.2) 12) (jn_var (E := intS) (a := a487.1) 11)) fun a496 =>
 jb_ifx (D' := (TD (fun r : (List Int) => Kd.rt (nonC 13) ((fun x => sh ((tupS intS) x)) r)) (nonC 13) (Xp K))) Out.rt (jt_not (jt_val (jn_thaw (i := 8) (o := (lstO (fun x => sh (intS x))) a496) (p := (lstS intS) a496) flat_bool rfl ((fz_lst (fun _ => fz_sh)) _) (jn_call (ok_fits T) T.g__fits T.F__fits.kp T.b__fits (Nat.le_of_ble_eq_true rfl) (ja_cons (jn_var (E := (lstS intS)) (a := a496) 8) (ja_cons (jn_var (E := intS) (a := a487.1) 11) (ja_cons (jn_of (jr_ix oIxT iv_tup (jr_of (jn_var (E := (tupS (tupS intS))) (a := a444) 4)) (jn_var (E := intS) (a := a487.1) 11))) (ja_cons (jn_of (jr_ix oIxT iv_tup (jr_of (jn_var (E := (tupS (tupS intS))) (a := a459) 5)) (jn_var (E := intS) (a := a487.1) 11))) (ja_cons (jn_var (E := (tupS intS)) (a := a481) 7) ja_nil))))))))) (jb_raise (Xp := Xp K) Res.er (weak_mask [false, false, false, false, false, false, false, false, false, false, false, false, false] _) (jm_sup (u := Ex.BadStep) (d := sd_BadStep) T.s_BadStep T.pf T.m_super T.no_BadStep_at sh_BadStep T.g_BadStep (jn_var (E := intS) (a := x484.1) 9)) (fun _ => rfl)) (fun _ => rfl) (td_nonx fun _ => trivial)
 (jb_nil (x := Out.nx a496) rfl (weak_mask [true, true, true, true, true, true, true, true, true, false, false, false, false] _))))) (fun _ => rfl) (td_nonx fun _ => trivial) fun a538 =>
 jb_okT (jb_ret (weak_none _) (tup_own T.m_tuple (jr_var (R := (lstO (fun x => sh (intS x)))) (a := a538) 8)))) (by unfold M_apply_steps; first | (dsimp only [CC.sb]; done) | (dsimp only [CC.sb]; rfl) | rfl)
def M_law_asked (a : ((Int × (List (Int × Int))) × (List (List Bool)) × (List Int) × (List (List Int))) × (((Int × (List (Int × Int))) × (List (List Bool)) × (List Int) × (List (List Int))) × ((List Int) × ((List (Int × Int)) × (Bool × Unit))))) : Option PV :=
 tryM (bif a.2.2.2.2.1 then ((consX (Res.ok (Str.ofString "told")) ((M_apply_steps (a.1.1, a.2.1.1, a.2.2.1, a.2.2.2.1, ())).bind fun x542 => consX x542 (some (Res.ok ())))).bind fun x544 => some (mapX (fun z => (z.1, z.2.1)) x544)).bind fun x547 => some (mapX (fun u545 => PV.tup [PV.str u545.1, PV.tup (u545.2.map PV.int)]) x547) else ((consX (Res.ok (Str.ofString "told")) ((M_apply_steps (a.1.1, (a.2.1.1, (a.2.2.1, (a.2.2.2.1, ()))))).bind fun x548 => consX x548 (some (Res.ok ())))).bind fun x550 => some (mapX (fun z => (z.1, z.2.1)) x550)).bind fun x553 => some (mapX (fun u551 => PV.tup [PV.str u551.1, PV.tup (u551.2.map PV.int)]) x553)) (fun u => Ex.k u (fun ez556 => some (PV.lst [PV.str (Str.ofString "step"), PV.int ez556, PV.bl (!false)])))
theorem ok_law_asked (T : Tx P K mg) : FnOk P w K mg base CX0 5 T.a__law_asked T.d__law_asked ["first", "second", "row", "steps", "named"] (spP (fun a : ((Int × (List (Int × Int))) × (List (List Bool)) × (List Int) × (List (List Int))) × (((Int × (List (Int × Int))) × (List (List Bool)) × (List Int) × (List (List Int))) × ((List Int) × ((List (Int × Int)) × (Bool × Unit)))) => [(t4S (prS intS (tupS (prS intS intS))) (lstS (lstS boolS)) (lstS intS) (lstS (lstS intS))) a.1, (t4S (prS intS (tupS (prS intS intS))) (lstS (lstS boolS)) (lstS intS) (lstS (lstS intS))) a.2.1, (tupS intS) a.2.2.1, (lstS (prS intS intS)) a.2.2.2.1, boolS a.2.2.2.2.1]) M_law_asked (fun x => sh (anyS x))) :=
 fnd_pure (Δ := nonC 7) T.F__law_asked sc__law_asked (fun _ => rfl) (by decide) fun a => JB.cong (
 jb_one (js_tryAs (Xp := Xp K) ([some (sh ((t4S (prS intS (tupS (prS intS intS))) (lstS (lstS boolS)) (lstS intS) (lstS (lstS intS))) a.1)), some (sh ((t4S (prS intS (tupS (prS intS intS))) (lstS (lstS boolS)) (lstS intS) (lstS (lstS intS))) a.2.1)), some (sh ((tupS intS) a.2.2.1)), some (sh ((lstS (prS intS intS)) a.2.2.2.1)), some (sh (boolS a.2.2.2.2.1)), none, none]) 5 (ExA K) ExD sc__law_asked.nd (fun wx => jb_ifr (jt_val (jn_var (E := boolS) (a := a.2.2.2.2.1) 4)) (jb_retT (R := (fun x => sh (anyS x))) (weak_none _) (weak_mask [true, true, true, true, true, false, false] _) (jx_any (ao_pr ao_str (ao_tup ao_int)) (jx_tupG (P := (prS strS (tupS intS))) (g := (fun z => (z.1, z.2.1))) (jax_cons (jx_of jn_str) (jax_cons (jx_call0N (fun z => (z.2.2.2.1, z.2.2.1, z.2.1, z.1, ())) (ok_apply_steps T) T.g_apply_steps T.F_apply_steps.kp T.q0_apply_steps (by intro z B zs h; exact hets_s (vs := []) (ps := []) trivial h rfl) (by intro _; rfl) (Nat.le_of_ble_eq_true rfl) (jk_cons (tup_lst T.m_tuple (jn_var (E := (lstS (prS intS intS))) (a := a.2.2.2.1) 3)) (jk_cons (jn_var (E := (tupS intS)) (a := a.2.2.1) 2) (jk_cons (jn_ixT (E := (prS intS (tupS (prS intS intS)))) (g := fun z => z.1) 0 (jn_var (E := (t4S (prS intS (tupS (prS intS intS))) (lstS (lstS boolS)) (lstS intS) (lstS (lstS intS)))) (a := a.2.1) 1)) (jk_cons (jn_ixT (E := (prS intS (tupS (prS intS intS)))) (g := fun z => z.1) 0 (jn_var (E := (t4S (prS intS (tupS (prS intS intS))) (lstS (lstS boolS)) (lstS intS) (lstS (lstS intS)))) (a := a.1) 0)) jk_nil))))) (jax_of ja_nil)))))) (td_nonx fun _ => trivial)
 (jb_retT (R := (fun x => sh (anyS x))) (weak_none _) (weak_mask [true, true, true, true, true, false, false] _) (jx_any (ao_pr ao_str (ao_tup ao_int)) (jx_tupG (P := (prS strS (tupS intS))) (g := (fun z => (z.1, z.2.1))) (jax_cons (jx_of jn_str) (jax_cons (jx_call (ok_apply_steps T) T.g_apply_steps T.F_apply_steps.kp T.b_apply_steps (Nat.le_of_ble_eq_true rfl) (ja_cons (jn_ixT (E := (prS intS (tupS (prS intS intS)))) (g := fun z => z.1) 0 (jn_var (E := (t4S (prS intS (tupS (prS intS intS))) (lstS (lstS boolS)) (lstS intS) (lstS (lstS intS)))) (a := a.1) 0)) (ja_cons (jn_ixT (E := (prS intS (tupS (prS intS intS)))) (g := fun z => z.1) 0 (jn_var (E := (t4S (prS intS (tupS (prS intS intS))) (lstS (lstS boolS)) (lstS intS) (lstS (lstS intS)))) (a := a.2.1) 1)) (ja_cons (jn_var (E := (tupS intS)) (a := a.2.2.1) 2) (ja_cons (tup_lst T.m_tuple (jn_var (E := (lstS (prS intS intS))) (a := a.2.2.2.1) 3)) ja_nil))))) (jax_of ja_nil))))))) (fun _ => rfl) (Ex.hs (fun ez556 ea554 ed555 => jb_cons (js_set 6 sc__law_asked.nd (jn_or (jn_isE (b := false) 5 rfl T.e_BadStep T.k_BadStep_BadMap T.m_isinstance T.g_BadMap) (jn_or (jn_isE (b := false) 5 rfl T.e_BadStep T.k_BadStep_BadOrder T.m_isinstance T.g_BadOrder) (jn_or (jn_isE (b := false) 5 rfl T.e_BadStep T.k_BadStep_NotAbove T.m_isinstance T.g_NotAbove) (jn_one (jn_isE (b := false) 5 rfl T.e_BadStep T.k_BadStep_TooLarge T.m_isinstance T.g_TooLarge)))))) fun a557 =>
 jb_ret (weak_none _) (jn_any (ao_l3 ao_str ao_int ao_bool) (jn_hlS (T := (l3S strS intS boolS)) (g := fun z => (z.1, z.2.1, z.2.2.1)) (ja_cons jn_str (ja_cons (jn_xat (E := intS) 5 rfl T.e_BadStep T.no_BadStep_at) (ja_cons (jn_and (jn_isE (b := true) 5 rfl T.e_BadStep T.k_BadStep_StrikeError T.m_isinstance T.g_StrikeError) (jn_and (jn_isET (b := true) (T := "ValueError") 5 rfl T.e_BadStep T.kt_BadStep_ValueError T.m_isinstance T.m_ValueError) (jn_one (jn_notV (jn_var (E := boolS) (a := a557) 6))))) ja_nil))))))) T.g_BadStep (Ex.al T.h_BadStep_BadStep) (fun _ => ⟨_, _, rfl⟩))) (by unfold M_law_asked; first | (dsimp only [CC.sb]; done) | (dsimp only [CC.sb]; rfl) | rfl)
def N_law_same (rec : (PV × (PV × Unit)) → Option Bool) (a : PV × (PV × Unit)) : Option Bool :=
 (bif pT a.2.1 then some true else some (pL a.2.1)).bind fun x578 => bif x578 then (bif !decide (pT a.2.1 = pT a.1) then some true else some (!decide (pL a.2.1 = pL a.1))).bind fun x577 => bif x577 then some false else ((lenA a.1).bind fun x559 => (lenA a.2.1).bind fun x560 => some (!decide (x559 = x560))).bind fun x576 => bif x576 then some false else (((lenA a.2.1).bind fun x561 => rng 0 x561).bind fun x572 => loopGo (fun x563 s564 => ((((ixA a.1 x563).bind fun x565 => ((ixA a.2.1 x563).bind fun x566 => some (x566, ())).bind fun y567 => some (x565, y567)).bind fun z568 => rec z568).bind fun x569 => some (!x569)).bind fun x571 => bif x571 then (some false).bind fun y570 => some (Out.rt y570) else some (Out.nx ())) x572 ()).bind fun o574 => o574.k (fun a573 => some true) fun r575 => some ((fun r => r) r575) else bif pN a.2.1 then some (pN a.1) else bif pB a.2.1 then bif pB a.1 then eqA a.1 a.2.1 else some false else bif pI a.2.1 then bif pI a.1 then bif !(pB a.1) then eqA a.1 a.2.1 else some false else some false else bif pS a.1 then eqA a.1 a.2.1 else some false
def M_law_same : Nat → (PV × (PV × Unit)) → Option Bool
  | 0 => fun _ => none
  | d + 1 => N_law_same (M_law_same d)
theorem ok_law_same (T : Tx P K mg) : ∀ d : Nat, FnOk P w K mg base CX0 (d + 1) T.a__law_same T.d__law_same ["actual", "due"] (spP (fun a : PV × (PV × Unit) => [anyS a.1, anyS a.2.1]) (M_law_same d) (fun x => sh (boolS x)))
  | 0 => fn_zero (k := 0 + 0) T.F__law_same sc__law_same
  | d + 1 => fnd_pure (k := d + 1) (Δ := nonC 3) T.F__law_same sc__law_same (fun _ => rfl) (by decide) fun a => JB.cong (
 jb_ifr (jt_w (jw_or (jt_val (jn_isiA (cn := "tuple") pT T.m_isinstance T.m_tuple (jn_var (E := anyS) (a := a.2.1) 1))) (jw_or1 (jt_val (jn_isiA (cn := "list") pL T.m_isinstance T.m_list (jn_var (E := anyS) (a := a.2.1) 1)))))) (jb_ifr (jt_w (jw_or (jt_cmp oNe ov_neB (jn_isiA (cn := "tuple") pT T.m_isinstance T.m_tuple (jn_var (E := anyS) (a := a.2.1) 1)) (jn_isiA (cn := "tuple") pT T.m_isinstance T.m_tuple (jn_var (E := anyS) (a := a.1) 0))) (jw_or1 (jt_cmp oNe ov_neB (jn_isiA (cn := "list") pL T.m_isinstance T.m_list (jn_var (E := anyS) (a := a.2.1) 1)) (jn_isiA (cn := "list") pL T.m_isinstance T.m_list (jn_var (E := anyS) (a := a.1) 0)))))) (jb_ret (weak_none _) jn_bl) (fun _ => trivial)
 (jb_ifr (jt_cmp oNe ov_neI (len_any T.m_len (jn_var (E := anyS) (a := a.1) 0)) (len_any T.m_len (jn_var (E := anyS) (a := a.2.1) 1))) (jb_ret (weak_none _) jn_bl) (fun _ => trivial)
 (jb_consO (Γl := fun s562 : Unit => [some (sh (anyS a.1)), some (sh (anyS a.2.1)), none]) (T := fun r : Bool => Kd.rt (nonC 3) ((fun x => sh (boolS x)) r)) (fun r => r) (js_for (Γl := fun s562 : Unit => [some (sh (anyS a.1)), some (sh (anyS a.2.1)), none]) (T := fun r : Bool => Kd.rt (nonC 3) ((fun x => sh (boolS x)) r)) () (ji_rng1 T.m_range (len_any T.m_len (jn_var (E := anyS) (a := a.2.1) 1))) (jg_name (E := intS) 2 sc__law_same.nd) (weak_mask [true, true, false] _) (fun _ => all_lt rfl) (fun _ => ⟨trivial, nofun, nofun⟩) fun x563 s564 =>
 jb_ifx (D' := (fun r : Bool => Kd.rt (nonC 3) ((fun x => sh (boolS x)) r))) Out.rt (jt_not (jt_val (jn_call (ok_law_same T d) T.g__law_same T.F__law_same.kp T.b__law_same (Nat.le_refl _) (ja_cons (jn_of (jr_ix oIxA iv_any (jr_of (jn_var (E := anyS) (a := a.1) 0)) (jn_var (E := intS) (a := x563) 2))) (ja_cons (jn_of (jr_ix oIxA iv_any (jr_of (jn_var (E := anyS) (a := a.2.1) 1)) (jn_var (E := intS) (a := x563) 2))) ja_nil))))) (jb_ret (weak_none _) jn_bl) (fun _ => rfl) (fun _ => trivial)
 (jb_nil (x := Out.nx ()) rfl (weak_mask [true, true, false] _))) (fun _ => rfl) (fun _ => trivial) fun a573 =>
 jb_ret (weak_none _) jn_bl))) (fun _ => trivial)
 (jb_ifr (jt_cmp oIsN ov_isNA (jn_var (E := anyS) (a := a.2.1) 1) jn_non) (jb_ret (weak_none _) (jn_cmp oIsN ov_isNA (jn_var (E := anyS) (a := a.1) 0) jn_non)) (fun _ => trivial)
 (jb_ifr (jt_val (jn_isiA (cn := "bool") pB T.m_isinstance T.m_bool (jn_var (E := anyS) (a := a.2.1) 1))) (jb_ret (weak_none _) (jn_and (jn_isiA (cn := "bool") pB T.m_isinstance T.m_bool (jn_var (E := anyS) (a := a.1) 0)) (jn_one (jn_cmp oEq ov_eqA (jn_var (E := anyS) (a := a.1) 0) (jn_var (E := anyS) (a := a.2.1) 1))))) (fun _ => trivial)
 (jb_ifr (jt_val (jn_isiA (cn := "int") pI T.m_isinstance T.m_int (jn_var (E := anyS) (a := a.2.1) 1))) (jb_ret (weak_none _) (jn_and (jn_isiA (cn := "int") pI T.m_isinstance T.m_int (jn_var (E := anyS) (a := a.1) 0)) (jn_and (jn_notV (jn_isiA (cn := "bool") pB T.m_isinstance T.m_bool (jn_var (E := anyS) (a := a.1) 0))) (jn_one (jn_cmp oEq ov_eqA (jn_var (E := anyS) (a := a.1) 0) (jn_var (E := anyS) (a := a.2.1) 1)))))) (fun _ => trivial)
 (jb_ret (weak_none _) (jn_and (jn_isiA (cn := "str") pS T.m_isinstance T.m_str (jn_var (E := anyS) (a := a.1) 0)) (jn_one (jn_cmp oEq ov_eqA (jn_var (E := anyS) (a := a.1) 0) (jn_var (E := anyS) (a := a.2.1) 1))))))))) (by show _ = N_law_same (M_law_same d) a; unfold N_law_same; first | (dsimp only [CC.sb]; done) | (dsimp only [CC.sb]; rfl) | rfl)
def M_law_covers (a : (List (List Bool)) × (Int × (Int × Unit))) : Option Bool :=
 ((atI a.1 a.2.1).bind fun x599 => atI x599 a.2.2.1).bind fun x607 => bif x607 then (((rng 0 (a.1.length : Int)).bind fun x604 => compM (fun x600 => ((atI a.1 a.2.1).bind fun x601 => atI x601 x600).bind fun x603 => bif x603 then (atI a.1 x600).bind fun x602 => atI x602 a.2.2.1 else some false) (fun x600 => some x600) x604).bind fun x605 => some (x605.length : Int)).bind fun x606 => some (decide (x606 = (0 : Int))) else some false
theorem ok_law_covers (T : Tx P K mg) : FnOk P w K mg base CX0 1 T.a__law_covers T.d__law_covers ["less", "a", "b"] (spP (fun a : (List (List Bool)) × (Int × (Int × Unit)) => [(lstS (lstS boolS)) a.1, intS a.2.1, intS a.2.2.1]) M_law_covers (fun x => sh (boolS x))) :=
 fnd_pure (Δ := nonC 4) T.F__law_covers sc__law_covers (fun _ => rfl) (by decide) fun a => JB.cong (
 jb_ret (weak_none _) (jn_and (jn_of (jr_ix oIxL iv_lst (jr_of (jn_of (jr_ix oIxL iv_lst (jr_of (jn_var (E := (lstS (lstS boolS))) (a := a.1) 0)) (jn_var (E := intS) (a := a.2.1) 1)))) (jn_var (E := intS) (a := a.2.2.1) 2))) (jn_one (jn_cmp oEq ov_eqI (len_lstO T.m_len (jr_of (jn_lc sc__law_covers.nd (jc_of [("z", 3)] (jic_of (ji_rng1 T.m_range (len_lst T.m_len (jn_var (E := (lstS (lstS boolS))) (a := a.1) 0)))) (show blkC ["less", "a", "b", "z"] (defScope s__law_covers) _ [("z", 3)] = true by decide +kernel) (jg_name (E := intS) 3 sc__law_covers.nd) (by decide) (all_lt rfl) (fun x600 => jts_one (jt_w (jw_and (jt_val (jn_of (jr_ix oIxL iv_lst (jr_of (jn_of (jr_ix oIxL iv_lst (jr_of (jn_var (E := (lstS (lstS boolS))) (a := a.1) 0)) (jn_var (E := intS) (a := a.2.1) 1)))) (jn_var (E := intS) (a := x600) 3)))) (jw_and1 (jt_val (jn_of (jr_ix oIxL iv_lst (jr_of (jn_of (jr_ix oIxL iv_lst (jr_of (jn_var (E := (lstS (lstS boolS))) (a := a.1) 0)) (jn_var (E := intS) (a := x600) 3)))) (jn_var (E := intS) (a := a.2.2.1) 2)))))))) fun x600 => (jn_var (E := intS) (a := x600) 3))))) jn_int)))) (by unfold M_law_covers; first | (dsimp only [CC.sb]; done) | (dsimp only [CC.sb]; rfl) | rfl)
def M_law_kind (a : ((Int × (List (Int × Int))) × (List (List Bool)) × (List Int) × (List (List Int))) × (((Int × (List (Int × Int))) × (List (List Bool)) × (List Int) × (List (List Int))) × ((List Int) × (Int × (Int × Unit))))) : Option Str :=
 (atI a.2.2.1 a.2.2.2.1).bind fun a597 => bif decide (a597 = a.2.2.2.2.1) then some (Str.ofString "same") else (M_law_fits (a.1, (a.2.1, (a.2.2.1, (a.2.2.2.1, (a.2.2.2.2.1, ())))))).bind fun a598 => ((M_law_covers (a.2.1.2.1, (a597, (a.2.2.2.2.1, ())))).bind fun x608 => bif x608 then some true else M_law_covers (a.2.1.2.1, (a.2.2.2.2.1, (a597, ())))).bind fun x618 => bif x618 then atI [(Str.ofString "stuck"), (Str.ofString "good")] (CC.b2i a598) else bif !a598 then some (Str.ofString "rough") else ((((atI a.2.1.2.1 a597).bind fun x613 => atI x613 a.2.2.2.2.1).bind fun x615 => bif x615 then some true else (atI a.2.1.2.1 a.2.2.2.2.1).bind fun x614 => atI x614 a597).bind fun x616 => some (CC.b2i x616)).bind fun x617 => atI [(Str.ofString "apart"), (Str.ofString "far")] x617
theorem ok_law_kind (T : Tx P K mg) : FnOk P w K mg base CX0 3 T.a__law_kind T.d__law_kind ["first", "second", "row", "x", "v"] (spP (fun a : ((Int × (List (Int × Int))) × (List (List Bool)) × (List Int) × (List (List Int))) × (((Int × (List (Int × Int))) × (List (List Bool)) × (List Int) × (List (List Int))) × ((List Int) × (Int × (Int × Unit)))) => [(t4S (prS intS (tupS (prS intS intS))) (lstS (lstS boolS)) (lstS intS) (lstS (lstS intS))) a.1, (t4S (prS intS (tupS (prS intS intS))) (lstS (lstS boolS)) (lstS intS) (lstS (lstS intS))) a.2.1, (lstS intS) a.2.2.1, intS a.2.2.2.1, intS a.2.2.2.2.1]) M_law_kind (fun x => sh (strS x))) :=
 fnd_pure (Δ := nonC 8) T.F__law_kind sc__law_kind (fun _ => rfl) (by decide) fun a => JB.cong (
 jb_cons (js_set 5 sc__law_kind.nd (jn_ixT (E := (lstS (lstS boolS))) (g := fun z => z.2.1) 1 (jn_var (E := (t4S (prS intS (tupS (prS intS intS))) (lstS (lstS boolS)) (lstS intS) (lstS (lstS intS)))) (a := a.2.1) 1))) fun a596 =>
 jb_cons (js_set 6 sc__law_kind.nd (jn_of (jr_ix oIxL iv_lst (jr_of (jn_var (E := (lstS intS)) (a := a.2.2.1) 2)) (jn_var (E := intS) (a := a.2.2.2.1) 3)))) fun a597 =>
 jb_ifr (jt_cmp oEq ov_eqI (jn_var (E := intS) (a := a597) 6) (jn_var (E := intS) (a := a.2.2.2.2.1) 4)) (jb_ret (weak_none _) jn_str) (fun _ => trivial)
 (jb_cons (js_set 7 sc__law_kind.nd (jn_call (ok_law_fits T) T.g__law_fits T.F__law_fits.kp T.b__law_fits (Nat.le_of_ble_eq_true rfl) (ja_cons (jn_var (E := (t4S (prS intS (tupS (prS intS intS))) (lstS (lstS boolS)) (lstS intS) (lstS (lstS intS)))) (a := a.1) 0) (ja_cons (jn_var (E := (t4S (prS intS (tupS (prS intS intS))) (lstS (lstS boolS)) (lstS intS) (lstS (lstS intS)))) (a := a.2.1) 1) (ja_cons (jn_var (E := (lstS intS)) (a := a.2.2.1) 2) (ja_cons (jn_var (E := intS) (a := a.2.2.2.1) 3) (ja_cons (jn_var (E := intS) (a := a.2.2.2.2.1) 4) ja_nil))))))) fun a598 =>
 jb_ifr (jt_w (jw_or (jt_val (jn_call (ok_law_covers T) T.g__law_covers T.F__law_covers.kp T.b__law_covers (Nat.le_of_ble_eq_true rfl) (ja_cons (jn_var (E := (lstS (lstS boolS))) (a := a596) 5) (ja_cons (jn_var (E := intS) (a := a597) 6) (ja_cons (jn_var (E := intS) (a := a.2.2.2.2.1) 4) ja_nil))))) (jw_or1 (jt_val (jn_call (ok_law_covers T) T.g__law_covers T.F__law_covers.kp T.b__law_covers (Nat.le_of_ble_eq_true rfl) (ja_cons (jn_var (E := (lstS (lstS boolS))) (a := a596) 5) (ja_cons (jn_var (E := intS) (a := a.2.2.2.2.1) 4) (ja_cons (jn_var (E := intS) (a := a597) 6) ja_nil)))))))) (jb_ret (weak_none _) (jn_of (jr_ix oIxL iv_lstO (jr_of (jn_dispL (E := strS) (g := fun z => [z.1, z.2.1]) (ja_cons jn_str (ja_cons jn_str ja_nil)))) (int_bool T.m_int (jn_var (E := boolS) (a := a598) 7))))) (fun _ => trivial)
 (jb_ifr (jt_not (jt_val (jn_var (E := boolS) (a := a598) 7))) (jb_ret (weak_none _) jn_str) (fun _ => trivial)
 (jb_ret (weak_none _) (jn_of (jr_ix oIxL iv_lstO (jr_of (jn_dispL (E := strS) (g := fun z => [z.1, z.2.1]) (ja_cons jn_str (ja_cons jn_str ja_nil)))) (int_bool T.m_int (jn_or (jn_of (jr_ix oIxL iv_lst (jr_of (jn_of (jr_ix oIxL iv_lst (jr_of (jn_var (E := (lstS (lstS boolS))) (a := a596) 5)) (jn_var (E := intS) (a := a597) 6)))) (jn_var (E := intS) (a := a.2.2.2.2.1) 4))) (jn_one (jn_of (jr_ix oIxL iv_lst (jr_of (jn_of (jr_ix oIxL iv_lst (jr_of (jn_var (E := (lstS (lstS boolS))) (a := a596) 5)) (jn_var (E := intS) (a := a.2.2.2.2.1) 4)))) (jn_var (E := intS) (a := a597) 6)))))))))))) (by unfold M_law_kind; first | (dsimp only [CC.sb]; done) | (dsimp only [CC.sb]; rfl) | rfl)
def M_law_large_right (a : Unit) (s : ((List Int) × Int × Int × Int × Int × (List Int))) : Option (Bool × ((List Int) × Int × Int × Int × Int × (List Int))) :=
 ((((M_law_size () s).bind fun r115 => some (r115.1, r115.2)).bind fun q117 => some ((q117.1, ([(0 : Int), (1 : Int), (2 : Int), (3 : Int), (4 : Int), (5 : Int)], ())), q117.2)).bind fun q242 => (M_law_order q242.1 q242.2).bind fun r243 => some (r243.1, r243.2)).bind fun a244 => ((((M_law_size () a244.2).bind fun r246 => some (r246.1, r246.2)).bind fun q248 => some ((q248.1, ([(0 : Int), (1 : Int), (2 : Int), (3 : Int), (4 : Int), (5 : Int)], ())), q248.2)).bind fun q249 => (M_law_order q249.1 q249.2).bind fun r250 => some (r250.1, r250.2)).bind fun a251 => ((M_law_steep (a244.1, (a251.1, ())) a251.2).bind fun r320 => some (r320.1, r320.2)).bind fun a321 => ((((M_law_draw ((6 : Int), ()) a321.2).bind fun r325 => some (r325.1, r325.2)).bind fun q326 => (rng 0 q326.1).bind fun r327 => some (r327, q326.2)).bind fun q420 => foldGo (fun x329 s330 => ((M_law_draw ((a321.1.length : Int), ()) s330.1).bind fun r332 => some (r332.1, r332.2)).bind fun a333 => (((((atI s330.2.1 a333.1).bind fun x343 => some (x343, ())).bind fun y344 => some (a251.1.2.1, y344)).bind fun z345 => M_law_over z345).bind fun x358 => ((((atI s330.2.1 a333.1).bind fun x355 => some (x355, ())).bind fun y356 => some (a251.1.2.1, y356)).bind fun z357 => M_law_under z357).bind fun x359 => catM x358 x359).bind fun a360 => (compM (fun x361 => M_law_fits (a244.1, (a251.1, (s330.2.1, (a333.1, (x361, ())))))) (fun x361 => some x361) a360).bind fun a388 => (bif decide ((0 : Int) < (a388.length : Int)) then ((((M_law_draw ((a388.length : Int), ()) a333.2).bind fun r407 => some (r407.1, r407.2)).bind fun q408 => (atI a388 q408.1).bind fun z409 => some (z409, q408.2)).bind fun q411 => (setAt s330.2.1 a333.1 q411.1).bind fun r412 => some (r412, q411.2)).bind fun a413 => (((((atI a413.1 a333.1).bind fun x414 => some (x414, ())).bind fun y415 => some (a333.1, y415)).bind fun z416 => some (z416.1, z416.2.1)).bind fun x417 => appM s330.2.2 x417).bind fun a418 => some (a413.2, a413.1, a418) else some (a333.2, s330.2.1, s330.2.2)).bind fun a419 => some (a419.1, a419.2.1, a419.2.2)) q420.1 (q420.2, a321.1, [])).bind fun a421 => ((((M_law_asked (a244.1, (a251.1, (a321.1, (a421.2.2, (false, ())))))).bind fun x579 => some (x579, (PV.tup [PV.str (Str.ofString "told"), PV.tup (a421.2.1.map PV.int)], ()))).bind fun z580 => M_law_same 6 z580).bind fun x581 => some (!x581)).bind fun x647 => bif x647 then some (false, a421.1) else ((((M_law_draw ((6 : Int), ()) a421.1).bind fun r584 => some (r584.1, r584.2)).bind fun q585 => (rng 0 q585.1).bind fun r586 => some (r586, q585.2)).bind fun q625 => foldGo (fun x588 s589 => ((M_law_draw ((a321.1.length : Int), ()) s589.1).bind fun r591 => some (r591.1, r591.2)).bind fun a592 => ((M_law_draw ((a251.1.2.1.length : Int), ()) a592.2).bind fun r594 => some (r594.1, r594.2)).bind fun a595 => (((M_law_kind (a244.1, (a251.1, (a421.2.1, (a592.1, (a595.1, ())))))).bind fun x619 => some (!decide (x619 = (Str.ofString "good")))).bind fun x623 => bif x623 then some (a592.1, a595.1) else some s589.2).bind fun a624 => some (a595.2, a624)) q625.1 (q625.2, ((a321.1.length : Int), (0 : Int)))).bind fun a626 => ((((((catM a421.2.2 [a626.2, ((0 : Int), (0 : Int))]).bind fun x640 => some (x640, (true, ()))).bind fun y641 => some (a321.1, y641)).bind fun y642 => some (a251.1, y642)).bind fun y643 => some (a244.1, y643)).bind fun z644 => M_law_asked z644).bind fun a645 => (M_law_same 6 (a645, (PV.lst [PV.str (Str.ofString "step"), PV.int (a421.2.2.length : Int), PV.bl true], ()))).bind fun x646 => some (x646, a626.1)
theorem ok_law_large_right (T : Tx P K mg) : FnOk P w K mg base CX0 8 T.a__law_large_right T.d__law_large_right ["state"] (spS h0O (fun a : Unit => []) M_law_large_right (fun x => sh (boolS x))) :=
 fnd_state T.F__law_large_right sc__law_large_right (fun _ => rfl) (by decide) fun a s => JB.cong (
 jb_cons (js_setE (Γ := fun s100 : ((List Int) × Int × Int × Int × Int × (List Int)) => [some (h0O s100), none, none, none, none, none, none, none, none, none, none, none, none]) (s := s) 1 sc__law_large_right.nd (je_callS (O := h0O) 0 (fun s => s) (fun s u => u) (ok_law_order T) T.g__law_order T.F__law_order.kp T.b__law_order (Nat.le_of_ble_eq_true rfl) (jea_cons (je_callS (O := h0O) 0 (fun s => s) (fun s u => u) (ok_law_size T) T.g__law_size T.F__law_size.kp T.b__law_size (Nat.le_of_ble_eq_true rfl) jea_nil) fun s116 => (jea_of (ja_cons (jn_dispT (E := intS) (g := fun z => [z.1, z.2.1, z.2.2.1, z.2.2.2.1, z.2.2.2.2.1, z.2.2.2.2.2.1]) (ja_cons jn_int (ja_cons jn_int (ja_cons jn_int (ja_cons jn_int (ja_cons jn_int (ja_cons jn_int ja_nil))))))) ja_nil))))) fun a244 =>
 jb_cons (js_setE (Γ := fun s245 : ((List Int) × Int × Int × Int × Int × (List Int)) => [some (h0O s245), some (sh ((t4S (prS intS (tupS (prS intS intS))) (lstS (lstS boolS)) (lstS intS) (lstS (lstS intS))) a244.1)), none, none, none, none, none, none, none, none, none, none, none]) (s := a244.2) 2 sc__law_large_right.nd (je_callS (O := h0O) 0 (fun s => s) (fun s u => u) (ok_law_order T) T.g__law_order T.F__law_order.kp T.b__law_order (Nat.le_of_ble_eq_true rfl) (jea_cons (je_callS (O := h0O) 0 (fun s => s) (fun s u => u) (ok_law_size T) T.g__law_size T.F__law_size.kp T.b__law_size (Nat.le_of_ble_eq_true rfl) jea_nil) fun s247 => (jea_of (ja_cons (jn_dispT (E := intS) (g := fun z => [z.1, z.2.1, z.2.2.1, z.2.2.2.1, z.2.2.2.2.1, z.2.2.2.2.2.1]) (ja_cons jn_int (ja_cons jn_int (ja_cons jn_int (ja_cons jn_int (ja_cons jn_int (ja_cons jn_int ja_nil))))))) ja_nil))))) fun a251 =>
 jb_cons (js_setE (Γ := fun s252 : ((List Int) × Int × Int × Int × Int × (List Int)) => [some (h0O s252), some (sh ((t4S (prS intS (tupS (prS intS intS))) (lstS (lstS boolS)) (lstS intS) (lstS (lstS intS))) a244.1)), some (sh ((t4S (prS intS (tupS (prS intS intS))) (lstS (lstS boolS)) (lstS intS) (lstS (lstS intS))) a251.1)), none, none, none, none, none, none, none, none, none, none]) (s := a251.2) 3 sc__law_large_right.nd (je_callS (O := h0O) 0 (fun s => s) (fun s u => u) (ok_law_steep T) T.g__law_steep T.F__law_steep.kp T.b__law_steep (Nat.le_of_ble_eq_true rfl) (jea_of (ja_cons (jn_var (E := (t4S (prS intS (tupS (prS intS intS))) (lstS (lstS boolS)) (lstS intS) (lstS (lstS intS)))) (a := a244.1) 1) (ja_cons (jn_var (E := (t4S (prS intS (tupS (prS intS intS))) (lstS (lstS boolS)) (lstS intS) (lstS (lstS intS)))) (a := a251.1) 2) ja_nil))))) fun a321 =>
 JB.frz (i := 3) (o := (lstO (fun x => sh (intS x))) a321.1) (p := (lstS intS) a321.1) rfl ((fz_lst (fun _ => fz_sh)) _) (jb_cons (js_set 4 sc__law_large_right.nd (list_lst T.m_list (jn_var (E := (lstS intS)) (a := a321.1) 3))) fun a322 =>
 jb_cons (js_set 5 sc__law_large_right.nd (jn_nilLO (E := (fun x => sh ((prS intS intS) x))))) fun a323 =>
 jb_cons (js_forSE (Γ := fun s324 : ((List Int) × Int × Int × Int × Int × (List Int)) => [some (h0O s324), some (sh ((t4S (prS intS (tupS (prS intS intS))) (lstS (lstS boolS)) (lstS intS) (lstS (lstS intS))) a244.1)), some (sh ((t4S (prS intS (tupS (prS intS intS))) (lstS (lstS boolS)) (lstS intS) (lstS (lstS intS))) a251.1)), some (sh ((lstS intS) a321.1)), some ((lstO (fun x => sh (intS x))) a322), some ((lstO (fun x => sh ((prS intS intS) x))) a323), none, none, none, none, none, none, none]) (s := a321.2) (Γl := fun s328 : ((List Int) × Int × Int × Int × Int × (List Int)) × (List Int) × (List (Int × Int)) => [some (h0O s328.1), some (sh ((t4S (prS intS (tupS (prS intS intS))) (lstS (lstS boolS)) (lstS intS) (lstS (lstS intS))) a244.1)), some (sh ((t4S (prS intS (tupS (prS intS intS))) (lstS (lstS boolS)) (lstS intS) (lstS (lstS intS))) a251.1)), some (sh ((lstS intS) a321.1)), some ((lstO (fun x => sh (intS x))) s328.2.1), some ((lstO (fun x => sh ((prS intS intS) x))) s328.2.2), none, none, none, none, none, none, none]) (fun t => (t, a322, a323)) (jie_rng1 T.m_range (je_callS (O := h0O) 0 (fun s => s) (fun s u => u) (ok_law_draw T) T.g__law_draw T.F__law_draw.kp T.b__law_draw (Nat.le_of_ble_eq_true rfl) (jea_of (ja_cons jn_int ja_nil)))) (jg_name (E := intS) 6 sc__law_large_right.nd) (fun _ => (weak_mask [true, true, true, true, true, true, false, false, false, false, false, false, false] _)) (fun _ => all_lt rfl) fun x329 s330 =>
 jb_cons (js_setE (Γ := fun s331 : ((List Int) × Int × Int × Int × Int × (List Int)) => [some (h0O s331), some (sh ((t4S (prS intS (tupS (prS intS intS))) (lstS (lstS boolS)) (lstS intS) (lstS (lstS intS))) a244.1)), some (sh ((t4S (prS intS (tupS (prS intS intS))) (lstS (lstS boolS)) (lstS intS) (lstS (lstS intS))) a251.1)), some (sh ((lstS intS) a321.1)), some ((lstO (fun x => sh (intS x))) s330.2.1), some ((lstO (fun x => sh ((prS intS intS) x))) s330.2.2), some (sh (intS x329)), none, none, none, none, none, none]) (s := s330.1) 9 sc__law_large_right.nd (je_callS (O := h0O) 0 (fun s => s) (fun s u => u) (ok_law_draw T) T.g__law_draw T.F__law_draw.kp T.b__law_draw (Nat.le_of_ble_eq_true rfl) (jea_of (ja_cons (len_lst T.m_len (jn_var (E := (lstS intS)) (a := a321.1) 3)) ja_nil)))) fun a333 =>
 jb_cons (js_set 10 sc__law_large_right.nd (jn_bin oCat ov_cat (JN.frz (fz_lst (fun _ => fz_sh)) (jn_call (ok_law_over T) T.g__law_over T.F__law_over.kp T.b__law_over (Nat.le_of_ble_eq_true rfl) (ja_cons (jn_ixT (E := (lstS (lstS boolS))) (g := fun z => z.2.1) 1 (jn_var (E := (t4S (prS intS (tupS (prS intS intS))) (lstS (lstS boolS)) (lstS intS) (lstS (lstS intS)))) (a := a251.1) 2)) (ja_cons (jn_of (jr_ix oIxL iv_lstO (jr_var (R := (lstO (fun x => sh (intS x)))) (a := s330.2.1) 4) (jn_var (E := intS) (a := a333.1) 9))) ja_nil)))) (JN.frz (fz_lst (fun _ => fz_sh)) (jn_call (ok_law_under T) T.g__law_under T.F__law_under.kp T.b__law_under (Nat.le_of_ble_eq_true rfl) (ja_cons (jn_ixT (E := (lstS (lstS boolS))) (g := fun z => z.2.1) 1 (jn_var (E := (t4S (prS intS (tupS (prS intS intS))) (lstS (lstS boolS)) (lstS intS) (lstS (lstS intS)))) (a := a251.1) 2)) (ja_cons (jn_of (jr_ix oIxL iv_lstO (jr_var (R := (lstO (fun x => sh (intS x)))) (a := s330.2.1) 4) (jn_var (E := intS) (a := a333.1) 9))) ja_nil)))))) fun a360 =>
 jb_cons (js_setLc 11 sc__law_large_right.nd (jc_of [("v", 12)] (jic_own (jr_var (R := (lstO (fun x => sh (intS x)))) (a := a360) 10)) (show blkC ["state", "first", "second", "row", "here", "steps", "k", "wrong", "told", "x", "near", "fits", "v"] (defScope s__law_large_right) _ [("v", 12)] = true by decide +kernel) (jg_name (E := intS) 12 sc__law_large_right.nd) (by decide) (all_lt rfl) (fun x361 => jts_one (jt_val (jn_thaw (i := 4) (o := (lstO (fun x => sh (intS x))) s330.2.1) (p := (lstS intS) s330.2.1) flat_bool rfl ((fz_lst (fun _ => fz_sh)) _) (jn_call (ok_law_fits T) T.g__law_fits T.F__law_fits.kp T.b__law_fits (Nat.le_of_ble_eq_true rfl) (ja_cons (jn_var (E := (t4S (prS intS (tupS (prS intS intS))) (lstS (lstS boolS)) (lstS intS) (lstS (lstS intS)))) (a := a244.1) 1) (ja_cons (jn_var (E := (t4S (prS intS (tupS (prS intS intS))) (lstS (lstS boolS)) (lstS intS) (lstS (lstS intS)))) (a := a251.1) 2) (ja_cons (jn_var (E := (lstS intS)) (a := s330.2.1) 4) (ja_cons (jn_var (E := intS) (a := a333.1) 9) (ja_cons (jn_var (E := intS) (a := x361) 12) ja_nil))))))))) fun x361 => (jn_var (E := intS) (a := x361) 12))) fun a388 =>
 JB.frz (i := 11) (o := (lstO (fun x => sh (intS x))) a388) (p := (lstS intS) a388) rfl ((fz_lst (fun _ => fz_sh)) _) (jb_cons (js_if (jt_cmp oGt ov_gt (len_lst T.m_len (jn_var (E := (lstS intS)) (a := a388) 11)) jn_int) (D := fun v => Kd.nx ((fun v404 : ((List Int) × Int × Int × Int × Int × (List Int)) × (List Int) × (List (Int × Int)) => [some (h0O v404.1), some (sh ((t4S (prS intS (tupS (prS intS intS))) (lstS (lstS boolS)) (lstS intS) (lstS (lstS intS))) a244.1)), some (sh ((t4S (prS intS (tupS (prS intS intS))) (lstS (lstS boolS)) (lstS intS) (lstS (lstS intS))) a251.1)), some (sh ((lstS intS) a321.1)), some ((lstO (fun x => sh (intS x))) v404.2.1), some ((lstO (fun x => sh ((prS intS intS) x))) v404.2.2), some (sh (intS x329)), none, none, some (sh (intS a333.1)), some ((lstO (fun x => sh (intS x))) a360), some (sh ((lstS intS) a388)), none]) v)) (jb_cons (js_setIE (E := intS) (Γ := fun s405 : ((List Int) × Int × Int × Int × Int × (List Int)) => [some (h0O s405), some (sh ((t4S (prS intS (tupS (prS intS intS))) (lstS (lstS boolS)) (lstS intS) (lstS (lstS intS))) a244.1)), some (sh ((t4S (prS intS (tupS (prS intS intS))) (lstS (lstS boolS)) (lstS intS) (lstS (lstS intS))) a251.1)), some (sh ((lstS intS) a321.1)), some ((lstO (fun x => sh (intS x))) s330.2.1), some ((lstO (fun x => sh ((prS intS intS) x))) s330.2.2), some (sh (intS x329)), none, none, some (sh (intS a333.1)), some ((lstO (fun x => sh (intS x))) a360), some (sh ((lstS intS) a388)), none]) (s := a333.2) 4 (fun _ => s330.2.1) (je_ix oIxL iv_lst (je_of (jn_var (E := (lstS intS)) (a := a388) 11)) fun s406 => (je_callS (O := h0O) 0 (fun s => s) (fun s u => u) (ok_law_draw T) T.g__law_draw T.F__law_draw.kp T.b__law_draw (Nat.le_of_ble_eq_true rfl) (jea_of (ja_cons (len_lst T.m_len (jn_var (E := (lstS intS)) (a := a388) 11)) ja_nil)))) fun s410 => (je_of (jn_var (E := intS) (a := a333.1) 9))) fun a413 =>
 jb_cons (js_app (E := (fun x => sh ((prS intS intS) x))) 5 (jn_tupG (P := (prS intS intS)) (g := fun z => (z.1, z.2.1)) (ja_cons (jn_var (E := intS) (a := a333.1) 9) (ja_cons (jn_of (jr_ix oIxL iv_lstO (jr_var (R := (lstO (fun x => sh (intS x)))) (a := a413.1) 4) (jn_var (E := intS) (a := a333.1) 9))) ja_nil)))) fun a418 =>
 jb_nil (x := (a413.2, a413.1, a418)) rfl (weak_mask [true, true, true, true, true, true, true, false, false, true, true, true, false] _)) (jb_nil (x := (a333.2, s330.2.1, s330.2.2)) rfl (weak_mask [true, true, true, true, true, true, true, false, false, true, true, true, false] _))) fun a419 =>
 jb_nil (x := (a419.1, a419.2.1, a419.2.2)) rfl (weak_mask [true, true, true, true, true, true, false, false, false, false, false, false, false] _))) fun a421 =>
 jb_ifr (jt_not (jt_val (jn_thaw (i := 5) (o := (lstO (fun x => sh ((prS intS intS) x))) a421.2.2) (p := (lstS (prS intS intS)) a421.2.2) flat_bool rfl ((fz_lst (fun _ => fz_sh)) _) (jn_call (ok_law_same T 6) T.g__law_same T.F__law_same.kp T.b__law_same (Nat.le_of_ble_eq_true rfl) (ja_cons (jn_call (ok_law_asked T) T.g__law_asked T.F__law_asked.kp T.b__law_asked (Nat.le_of_ble_eq_true rfl) (ja_cons (jn_var (E := (t4S (prS intS (tupS (prS intS intS))) (lstS (lstS boolS)) (lstS intS) (lstS (lstS intS)))) (a := a244.1) 1) (ja_cons (jn_var (E := (t4S (prS intS (tupS (prS intS intS))) (lstS (lstS boolS)) (lstS intS) (lstS (lstS intS)))) (a := a251.1) 2) (ja_cons (tup_lst T.m_tuple (jn_var (E := (lstS intS)) (a := a321.1) 3)) (ja_cons (jn_var (E := (lstS (prS intS intS))) (a := a421.2.2) 5) (ja_cons jn_bl ja_nil)))))) (ja_cons (jn_any (ao_pr ao_str (ao_tup ao_int)) (jn_tupG (P := (prS strS (tupS intS))) (g := fun z => (z.1, z.2.1)) (ja_cons jn_str (ja_cons (tup_own T.m_tuple (jr_var (R := (lstO (fun x => sh (intS x)))) (a := a421.2.1) 4)) ja_nil)))) ja_nil)))))) (jb_retS (R := (fun x => sh (boolS x))) (Δ := fun s => some (h0O s) :: nonC 12) (s := a421.1) (weak_mask [true, false, false, false, false, false, false, false, false, false, false, false, false] _) jn_bl) (fun _ => trivial)
 (jb_cons (js_set 7 sc__law_large_right.nd (jn_tupG (P := (prS intS intS)) (g := fun z => (z.1, z.2.1)) (ja_cons (len_lst T.m_len (jn_var (E := (lstS intS)) (a := a321.1) 3)) (ja_cons jn_int ja_nil)))) fun a582 =>
 jb_cons (js_forSE (Γ := fun s583 : ((List Int) × Int × Int × Int × Int × (List Int)) => [some (h0O s583), some (sh ((t4S (prS intS (tupS (prS intS intS))) (lstS (lstS boolS)) (lstS intS) (lstS (lstS intS))) a244.1)), some (sh ((t4S (prS intS (tupS (prS intS intS))) (lstS (lstS boolS)) (lstS intS) (lstS (lstS intS))) a251.1)), some (sh ((lstS intS) a321.1)), some ((lstO (fun x => sh (intS x))) a421.2.1), some ((lstO (fun x => sh ((prS intS intS) x))) a421.2.2), none, some (sh ((prS intS intS) a582)), none, none, none, none, none]) (s := a421.1) (Γl := fun s587 : ((List Int) × Int × Int × Int × Int × (List Int)) × (Int × Int) => [some (h0O s587.1), some (sh ((t4S (prS intS (tupS (prS intS intS))) (lstS (lstS boolS)) (lstS intS) (lstS (lstS intS))) a244.1)), some (sh ((t4S (prS intS (tupS (prS intS intS))) (lstS (lstS boolS)) (lstS intS) (lstS (lstS intS))) a251.1)), some (sh ((lstS intS) a321.1)), some ((lstO (fun x => sh (intS x))) a421.2.1), some ((lstO (fun x => sh ((prS intS intS) x))) a421.2.2), none, some (sh ((prS intS intS) s587.2)), none, none, none, none, none]) (fun t => (t, a582)) (jie_rng1 T.m_range (je_callS (O := h0O) 0 (fun s => s) (fun s u => u) (ok_law_draw T) T.g__law_draw T.F__law_draw.kp T.b__law_draw (Nat.le_of_ble_eq_true rfl) (jea_of (ja_cons jn_int ja_nil)))) (jg_name (E := intS) 6 sc__law_large_right.nd) (fun _ => (weak_mask [true, true, true, true, true, true, false, true, false, false, false, false, false] _)) (fun _ => all_lt rfl) fun x588 s589 =>
 jb_cons (js_setE (Γ := fun s590 : ((List Int) × Int × Int × Int × Int × (List Int)) => [some (h0O s590), some (sh ((t4S (prS intS (tupS (prS intS intS))) (lstS (lstS boolS)) (lstS intS) (lstS (lstS intS))) a244.1)), some (sh ((t4S (prS intS (tupS (prS intS intS))) (lstS (lstS boolS)) (lstS intS) (lstS (lstS intS))) a251.1)), some (sh ((lstS intS) a321.1)), some ((lstO (fun x => sh (intS x))) a421.2.1), some ((lstO (fun x => sh ((prS intS intS) x))) a421.2.2), some (sh (intS x588)), some (sh ((prS intS intS) s589.2)), none, none, none, none, none]) (s := s589.1) 9 sc__law_large_right.nd (je_callS (O := h0O) 0 (fun s => s) (fun s u => u) (ok_law_draw T) T.g__law_draw T.F__law_draw.kp T.b__law_draw (Nat.le_of_ble_eq_true rfl) (jea_of (ja_cons (len_lst T.m_len (jn_var (E := (lstS intS)) (a := a321.1) 3)) ja_nil)))) fun a592 =>
 jb_cons (js_setE (Γ := fun s593 : ((List Int) × Int × Int × Int × Int × (List Int)) => [some (h0O s593), some (sh ((t4S (prS intS (tupS (prS intS intS))) (lstS (lstS boolS)) (lstS intS) (lstS (lstS intS))) a244.1)), some (sh ((t4S (prS intS (tupS (prS intS intS))) (lstS (lstS boolS)) (lstS intS) (lstS (lstS intS))) a251.1)), some (sh ((lstS intS) a321.1)), some ((lstO (fun x => sh (intS x))) a421.2.1), some ((lstO (fun x => sh ((prS intS intS) x))) a421.2.2), some (sh (intS x588)), some (sh ((prS intS intS) s589.2)), none, some (sh (intS a592.1)), none, none, none]) (s := a592.2) 12 sc__law_large_right.nd (je_callS (O := h0O) 0 (fun s => s) (fun s u => u) (ok_law_draw T) T.g__law_draw T.F__law_draw.kp T.b__law_draw (Nat.le_of_ble_eq_true rfl) (jea_of (ja_cons (len_lst T.m_len (jn_ixT (E := (lstS (lstS boolS))) (g := fun z => z.2.1) 1 (jn_var (E := (t4S (prS intS (tupS (prS intS intS))) (lstS (lstS boolS)) (lstS intS) (lstS (lstS intS)))) (a := a251.1) 2))) ja_nil)))) fun a595 =>
 jb_cons (js_if (jt_cmp oNe ov_neS (jn_thaw (i := 4) (o := (lstO (fun x => sh (intS x))) a421.2.1) (p := (lstS intS) a421.2.1) flat_str rfl ((fz_lst (fun _ => fz_sh)) _) (jn_call (ok_law_kind T) T.g__law_kind T.F__law_kind.kp T.b__law_kind (Nat.le_of_ble_eq_true rfl) (ja_cons (jn_var (E := (t4S (prS intS (tupS (prS intS intS))) (lstS (lstS boolS)) (lstS intS) (lstS (lstS intS)))) (a := a244.1) 1) (ja_cons (jn_var (E := (t4S (prS intS (tupS (prS intS intS))) (lstS (lstS boolS)) (lstS intS) (lstS (lstS intS)))) (a := a251.1) 2) (ja_cons (jn_var (E := (lstS intS)) (a := a421.2.1) 4) (ja_cons (jn_var (E := intS) (a := a592.1) 9) (ja_cons (jn_var (E := intS) (a := a595.1) 12) ja_nil))))))) jn_str) (D := fun v => Kd.nx ((fun v621 : (Int × Int) => [some (h0O a595.2), some (sh ((t4S (prS intS (tupS (prS intS intS))) (lstS (lstS boolS)) (lstS intS) (lstS (lstS intS))) a244.1)), some (sh ((t4S (prS intS (tupS (prS intS intS))) (lstS (lstS boolS)) (lstS intS) (lstS (lstS intS))) a251.1)), some (sh ((lstS intS) a321.1)), some ((lstO (fun x => sh (intS x))) a421.2.1), some ((lstO (fun x => sh ((prS intS intS) x))) a421.2.2), some (sh (intS x588)), some (sh ((prS intS intS) v621)), none, some (sh (intS a592.1)), none, none, some (sh (intS a595.1))]) v)) (jb_cons (js_set 7 sc__law_large_right.nd (jn_tupG (P := (prS intS intS)) (g := fun z => (z.1, z.2.1)) (ja_cons (jn_var (E := intS) (a := a592.1) 9) (ja_cons (jn_var (E := intS) (a := a595.1) 12) ja_nil)))) fun a622 =>
 jb_nil (x := a622) rfl (weak_mask [true, true, true, true, true, true, true, true, false, true, false, false, true] _)) (jb_nil (x := s589.2) rfl (weak_mask [true, true, true, true, true, true, true, true, false, true, false, false, true] _))) fun a624 =>
 jb_nil (x := (a595.2, a624)) rfl (weak_mask [true, true, true, true, true, true, false, true, false, false, false, false, false] _)) fun a626 =>
 JB.frz (i := 5) (o := (lstO (fun x => sh ((prS intS intS) x))) a421.2.2) (p := (lstS (prS intS intS)) a421.2.2) rfl ((fz_lst (fun _ => fz_sh)) _) (jb_cons (js_set 8 sc__law_large_right.nd (jn_call (ok_law_asked T) T.g__law_asked T.F__law_asked.kp T.b__law_asked (Nat.le_of_ble_eq_true rfl) (ja_cons (jn_var (E := (t4S (prS intS (tupS (prS intS intS))) (lstS (lstS boolS)) (lstS intS) (lstS (lstS intS)))) (a := a244.1) 1) (ja_cons (jn_var (E := (t4S (prS intS (tupS (prS intS intS))) (lstS (lstS boolS)) (lstS intS) (lstS (lstS intS)))) (a := a251.1) 2) (ja_cons (tup_lst T.m_tuple (jn_var (E := (lstS intS)) (a := a321.1) 3)) (ja_cons (JN.frz (fz_lst (fun _ => fz_sh)) (jn_bin oCat ov_cat (jn_var (E := (lstS (prS intS intS))) (a := a421.2.2) 5) (JN.frz (fz_lst (fun _ => fz_sh)) (jn_dispL (E := (prS intS intS)) (g := fun z => [z.1, z.2.1]) (ja_cons (jn_var (E := (prS intS intS)) (a := a626.2) 7) (ja_cons (jn_tupG (P := (prS intS intS)) (g := fun z => (z.1, z.2.1)) (ja_cons jn_int (ja_cons jn_int ja_nil))) ja_nil)))))) (ja_cons jn_bl ja_nil))))))) fun a645 =>
 jb_retS (R := (fun x => sh (boolS x))) (Δ := fun s => some (h0O s) :: nonC 12) (s := a626.1) (weak_mask [true, false, false, false, false, false, false, false, false, false, false, false, false] _) (jn_call (ok_law_same T 6) T.g__law_same T.F__law_same.kp T.b__law_same (Nat.le_of_ble_eq_true rfl) (ja_cons (jn_var (E := anyS) (a := a645) 8) (ja_cons (jn_any (ao_l3 ao_str ao_int ao_bool) (jn_hlS (T := (l3S strS intS boolS)) (g := fun z => (z.1, z.2.1, z.2.2.1)) (ja_cons jn_str (ja_cons (len_lst T.m_len (jn_var (E := (lstS (prS intS intS))) (a := a421.2.2) 5)) (ja_cons jn_bl ja_nil))))) ja_nil))))))) (by unfold M_law_large_right; first | (dsimp only [CC.sb]; done) | (dsimp only [CC.sb]; rfl) | rfl)
def M_law_orders (a : Unit) (s : ((List Int) × Int × Int × Int × Int × (List Int))) : Option ((((Int × (List (Int × Int))) × (List (List Bool)) × (List Int) × (List (List Int))) × ((Int × (List (Int × Int))) × (List (List Bool)) × (List Int) × (List (List Int)))) × ((List Int) × Int × Int × Int × Int × (List Int))) :=
 ((M_law_draw ((20 : Int), ()) s).bind fun r652 => some (r652.1, r652.2)).bind fun a653 => (((M_law_draw ((8 : Int), ()) a653.2).bind fun r656 => some (r656.1, r656.2)).bind fun q657 => some ((1 : Int) + q657.1, q657.2)).bind fun a658 => (((M_law_draw ((8 : Int), ()) a658.2).bind fun r661 => some (r661.1, r661.2)).bind fun q662 => some ((1 : Int) + q662.1, q662.2)).bind fun a663 => (bif decide (a653.1 = (0 : Int)) then (((((M_law_draw ((4 : Int), ()) a663.2).bind fun r681 => some (r681.1, r681.2)).bind fun q682 => some ((9 : Int) + q682.1, q682.2)).bind fun q689 => ((((M_law_draw ((5 : Int), ()) q689.2).bind fun r685 => some (r685.1, r685.2)).bind fun q686 => some ((1 : Int) + q686.1, q686.2)).bind fun q688 => some ((q688.1, ()), q688.2)).bind fun q690 => some ((q689.1, q690.1), q690.2)).bind fun q691 => some ((q691.1.1, q691.1.2.1), q691.2)).bind fun a692 => some (a692.2, a692.1.1, a692.1.2) else some (a663.2, a658.1, a663.1)).bind fun a693 => (bif decide (a653.1 = (1 : Int)) then (((((M_law_draw ((5 : Int), ()) a693.1).bind fun r711 => some (r711.1, r711.2)).bind fun q712 => some ((1 : Int) + q712.1, q712.2)).bind fun q719 => ((((M_law_draw ((4 : Int), ()) q719.2).bind fun r715 => some (r715.1, r715.2)).bind fun q716 => some ((9 : Int) + q716.1, q716.2)).bind fun q718 => some ((q718.1, ()), q718.2)).bind fun q720 => some ((q719.1, q720.1), q720.2)).bind fun q721 => some ((q721.1.1, q721.1.2.1), q721.2)).bind fun a722 => some (a722.2, a722.1.1, a722.1.2) else some (a693.1, a693.2.1, a693.2.2)).bind fun a723 => (bif decide (a653.1 = (2 : Int)) then (((((M_law_draw ((6 : Int), ()) a723.1).bind fun r735 => some (r735.1, r735.2)).bind fun q737 => some ((q737.1, ()), q737.2)).bind fun q738 => some (((0 : Int), q738.1), q738.2)).bind fun q739 => some ((q739.1.1, q739.1.2.1), q739.2)).bind fun a740 => some (a740.2, a740.1.1, a740.1.2) else some (a723.1, a723.2.1, a723.2.2)).bind fun a741 => bif decide (a653.1 = (3 : Int)) then (((((M_law_draw ((65 : Int), ()) a741.1).bind fun r743 => some (r743.1, r743.2)).bind fun q745 => some ((q745.1, ([(2 : Int)], ())), q745.2)).bind fun q746 => (M_law_order q746.1 q746.2).bind fun r747 => some (r747.1, r747.2)).bind fun q758 => ((((((M_law_draw ((3 : Int), ()) q758.2).bind fun r750 => some (r750.1, r750.2)).bind fun q751 => some ((1 : Int) + q751.1, q751.2)).bind fun q753 => some ((q753.1, ([(2 : Int), (3 : Int)], ())), q753.2)).bind fun q754 => (M_law_order q754.1 q754.2).bind fun r755 => some (r755.1, r755.2)).bind fun q757 => some ((q757.1, ()), q757.2)).bind fun q759 => some ((q758.1, q759.1), q759.2)).bind fun q760 => some ((q760.1.1, q760.1.2.1), q760.2) else (((M_law_order (a741.2.1, ([(0 : Int), (1 : Int), (2 : Int), (3 : Int), (4 : Int), (5 : Int)], ())) a741.1).bind fun r762 => some (r762.1, r762.2)).bind fun q767 => (((M_law_order (a741.2.2, ([(0 : Int), (1 : Int), (2 : Int), (3 : Int), (4 : Int), (5 : Int)], ())) q767.2).bind fun r764 => some (r764.1, r764.2)).bind fun q766 => some ((q766.1, ()), q766.2)).bind fun q768 => some ((q767.1, q768.1), q768.2)).bind fun q769 => some ((q769.1.1, q769.1.2.1), q769.2)
theorem ok_law_orders (T : Tx P K mg) : FnOk P w K mg base CX0 5 T.a__law_orders T.d__law_orders ["state"] (spS h0O (fun a : Unit => []) M_law_orders (fun x => sh ((prS (t4S (prS intS (tupS (prS intS intS))) (lstS (lstS boolS)) (lstS intS) (lstS (lstS intS))) (t4S (prS intS (tupS (prS intS intS))) (lstS (lstS boolS)) (lstS intS) (lstS (lstS intS)))) x))) :=
 fnd_state T.F__law_orders sc__law_orders (fun _ => rfl) (by decide) fun a s => JB.cong (
 jb_cons (js_setE (Γ := fun s651 : ((List Int) × Int × Int × Int × Int × (List Int)) => [some (h0O s651), none, none, none]) (s := s) 1 sc__law_orders.nd (je_callS (O := h0O) 0 (fun s => s) (fun s u => u) (ok_law_draw T) T.g__law_draw T.F__law_draw.kp T.b__law_draw (Nat.le_of_ble_eq_true rfl) (jea_of (ja_cons jn_int ja_nil)))) fun a653 =>
 jb_cons (js_setE (Γ := fun s654 : ((List Int) × Int × Int × Int × Int × (List Int)) => [some (h0O s654), some (sh (intS a653.1)), none, none]) (s := a653.2) 2 sc__law_orders.nd (je_bin oAdd ov_add (je_of jn_int) fun s655 => (je_callS (O := h0O) 0 (fun s => s) (fun s u => u) (ok_law_draw T) T.g__law_draw T.F__law_draw.kp T.b__law_draw (Nat.le_of_ble_eq_true rfl) (jea_of (ja_cons jn_int ja_nil))))) fun a658 =>
 jb_cons (js_setE (Γ := fun s659 : ((List Int) × Int × Int × Int × Int × (List Int)) => [some (h0O s659), some (sh (intS a653.1)), some (sh (intS a658.1)), none]) (s := a658.2) 3 sc__law_orders.nd (je_bin oAdd ov_add (je_of jn_int) fun s660 => (je_callS (O := h0O) 0 (fun s => s) (fun s u => u) (ok_law_draw T) T.g__law_draw T.F__law_draw.kp T.b__law_draw (Nat.le_of_ble_eq_true rfl) (jea_of (ja_cons jn_int ja_nil))))) fun a663 =>
 jb_cons (js_if (jt_cmp oEq ov_eqI (jn_var (E := intS) (a := a653.1) 1) jn_int) (D := fun v => Kd.nx ((fun v678 : ((List Int) × Int × Int × Int × Int × (List Int)) × Int × Int => [some (h0O v678.1), some (sh (intS a653.1)), some (sh (intS v678.2.1)), some (sh (intS v678.2.2))]) v)) (jb_cons (js_asgE (Γ := fun s679 : ((List Int) × Int × Int × Int × Int × (List Int)) => [some (h0O s679), some (sh (intS a653.1)), some (sh (intS a658.1)), some (sh (intS a663.1))]) (s := a663.2) (je_hlS (P := (l2S intS intS)) (g := fun z => (z.1, z.2.1)) (jea_cons (je_bin oAdd ov_add (je_of jn_int) fun s680 => (je_callS (O := h0O) 0 (fun s => s) (fun s u => u) (ok_law_draw T) T.g__law_draw T.F__law_draw.kp T.b__law_draw (Nat.le_of_ble_eq_true rfl) (jea_of (ja_cons jn_int ja_nil)))) fun s683 => (jea_cons (je_bin oAdd ov_add (je_of jn_int) fun s684 => (je_callS (O := h0O) 0 (fun s => s) (fun s u => u) (ok_law_draw T) T.g__law_draw T.F__law_draw.kp T.b__law_draw (Nat.le_of_ble_eq_true rfl) (jea_of (ja_cons jn_int ja_nil)))) fun s687 => jea_nil))) (jg_pairL (E := intS) (G := intS) 2 3 sc__law_orders.nd) (fun _ => all_lt rfl)) fun a692 =>
 jb_nil (x := (a692.2, a692.1.1, a692.1.2)) rfl (weak_mask [true, true, true, true] _)) (jb_nil (x := (a663.2, a658.1, a663.1)) rfl (weak_mask [true, true, true, true] _))) fun a693 =>
 jb_cons (js_if (jt_cmp oEq ov_eqI (jn_var (E := intS) (a := a653.1) 1) jn_int) (D := fun v => Kd.nx ((fun v708 : ((List Int) × Int × Int × Int × Int × (List Int)) × Int × Int => [some (h0O v708.1), some (sh (intS a653.1)), some (sh (intS v708.2.1)), some (sh (intS v708.2.2))]) v)) (jb_cons (js_asgE (Γ := fun s709 : ((List Int) × Int × Int × Int × Int × (List Int)) => [some (h0O s709), some (sh (intS a653.1)), some (sh (intS a693.2.1)), some (sh (intS a693.2.2))]) (s := a693.1) (je_hlS (P := (l2S intS intS)) (g := fun z => (z.1, z.2.1)) (jea_cons (je_bin oAdd ov_add (je_of jn_int) fun s710 => (je_callS (O := h0O) 0 (fun s => s) (fun s u => u) (ok_law_draw T) T.g__law_draw T.F__law_draw.kp T.b__law_draw (Nat.le_of_ble_eq_true rfl) (jea_of (ja_cons jn_int ja_nil)))) fun s713 => (jea_cons (je_bin oAdd ov_add (je_of jn_int) fun s714 => (je_callS (O := h0O) 0 (fun s => s) (fun s u => u) (ok_law_draw T) T.g__law_draw T.F__law_draw.kp T.b__law_draw (Nat.le_of_ble_eq_true rfl) (jea_of (ja_cons jn_int ja_nil)))) fun s717 => jea_nil))) (jg_pairL (E := intS) (G := intS) 2 3 sc__law_orders.nd) (fun _ => all_lt rfl)) fun a722 =>
 jb_nil (x := (a722.2, a722.1.1, a722.1.2)) rfl (weak_mask [true, true, true, true] _)) (jb_nil (x := (a693.1, a693.2.1, a693.2.2)) rfl (weak_mask [true, true, true, true] _))) fun a723 =>
 jb_cons (js_if (jt_cmp oEq ov_eqI (jn_var (E := intS) (a := a653.1) 1) jn_int) (D := fun v => Kd.nx ((fun v732 : ((List Int) × Int × Int × Int × Int × (List Int)) × Int × Int => [some (h0O v732.1), some (sh (intS a653.1)), some (sh (intS v732.2.1)), some (sh (intS v732.2.2))]) v)) (jb_cons (js_asgE (Γ := fun s733 : ((List Int) × Int × Int × Int × Int × (List Int)) => [some (h0O s733), some (sh (intS a653.1)), some (sh (intS a723.2.1)), some (sh (intS a723.2.2))]) (s := a723.1) (je_hlS (P := (l2S intS intS)) (g := fun z => (z.1, z.2.1)) (jea_cons (je_of jn_int) fun s734 => (jea_cons (je_callS (O := h0O) 0 (fun s => s) (fun s u => u) (ok_law_draw T) T.g__law_draw T.F__law_draw.kp T.b__law_draw (Nat.le_of_ble_eq_true rfl) (jea_of (ja_cons jn_int ja_nil))) fun s736 => jea_nil))) (jg_pairL (E := intS) (G := intS) 2 3 sc__law_orders.nd) (fun _ => all_lt rfl)) fun a740 =>
 jb_nil (x := (a740.2, a740.1.1, a740.1.2)) rfl (weak_mask [true, true, true, true] _)) (jb_nil (x := (a723.1, a723.2.1, a723.2.2)) rfl (weak_mask [true, true, true, true] _))) fun a741 =>
 jb_ifr (jt_cmp oEq ov_eqI (jn_var (E := intS) (a := a653.1) 1) jn_int) (jb_retE (R := (fun x => sh ((prS (t4S (prS intS (tupS (prS intS intS))) (lstS (lstS boolS)) (lstS intS) (lstS (lstS intS))) (t4S (prS intS (tupS (prS intS intS))) (lstS (lstS boolS)) (lstS intS) (lstS (lstS intS)))) x))) (Γ := fun s742 : ((List Int) × Int × Int × Int × Int × (List Int)) => [some (h0O s742), some (sh (intS a653.1)), some (sh (intS a741.2.1)), some (sh (intS a741.2.2))]) (s := a741.1) (Δ := fun s => some (h0O s) :: nonC 3) (fun _ => (weak_mask [true, false, false, false] _)) (je_tupG (P := (prS (t4S (prS intS (tupS (prS intS intS))) (lstS (lstS boolS)) (lstS intS) (lstS (lstS intS))) (t4S (prS intS (tupS (prS intS intS))) (lstS (lstS boolS)) (lstS intS) (lstS (lstS intS))))) (g := fun z => (z.1, z.2.1)) (jea_cons (je_callS (O := h0O) 0 (fun s => s) (fun s u => u) (ok_law_order T) T.g__law_order T.F__law_order.kp T.b__law_order (Nat.le_of_ble_eq_true rfl) (jea_cons (je_callS (O := h0O) 0 (fun s => s) (fun s u => u) (ok_law_draw T) T.g__law_draw T.F__law_draw.kp T.b__law_draw (Nat.le_of_ble_eq_true rfl) (jea_of (ja_cons jn_int ja_nil))) fun s744 => (jea_of (ja_cons (jn_dispT (E := intS) (g := fun z => [z.1]) (ja_cons jn_int ja_nil)) ja_nil)))) fun s748 => (jea_cons (je_callS (O := h0O) 0 (fun s => s) (fun s u => u) (ok_law_order T) T.g__law_order T.F__law_order.kp T.b__law_order (Nat.le_of_ble_eq_true rfl) (jea_cons (je_bin oAdd ov_add (je_of jn_int) fun s749 => (je_callS (O := h0O) 0 (fun s => s) (fun s u => u) (ok_law_draw T) T.g__law_draw T.F__law_draw.kp T.b__law_draw (Nat.le_of_ble_eq_true rfl) (jea_of (ja_cons jn_int ja_nil)))) fun s752 => (jea_of (ja_cons (jn_dispT (E := intS) (g := fun z => [z.1, z.2.1]) (ja_cons jn_int (ja_cons jn_int ja_nil))) ja_nil)))) fun s756 => jea_nil)))) (fun _ => trivial)
 (jb_retE (R := (fun x => sh ((prS (t4S (prS intS (tupS (prS intS intS))) (lstS (lstS boolS)) (lstS intS) (lstS (lstS intS))) (t4S (prS intS (tupS (prS intS intS))) (lstS (lstS boolS)) (lstS intS) (lstS (lstS intS)))) x))) (Γ := fun s761 : ((List Int) × Int × Int × Int × Int × (List Int)) => [some (h0O s761), some (sh (intS a653.1)), some (sh (intS a741.2.1)), some (sh (intS a741.2.2))]) (s := a741.1) (Δ := fun s => some (h0O s) :: nonC 3) (fun _ => (weak_mask [true, false, false, false] _)) (je_tupG (P := (prS (t4S (prS intS (tupS (prS intS intS))) (lstS (lstS boolS)) (lstS intS) (lstS (lstS intS))) (t4S (prS intS (tupS (prS intS intS))) (lstS (lstS boolS)) (lstS intS) (lstS (lstS intS))))) (g := fun z => (z.1, z.2.1)) (jea_cons (je_callS (O := h0O) 0 (fun s => s) (fun s u => u) (ok_law_order T) T.g__law_order T.F__law_order.kp T.b__law_order (Nat.le_of_ble_eq_true rfl) (jea_of (ja_cons (jn_var (E := intS) (a := a741.2.1) 2) (ja_cons (jn_dispT (E := intS) (g := fun z => [z.1, z.2.1, z.2.2.1, z.2.2.2.1, z.2.2.2.2.1, z.2.2.2.2.2.1]) (ja_cons jn_int (ja_cons jn_int (ja_cons jn_int (ja_cons jn_int (ja_cons jn_int (ja_cons jn_int ja_nil))))))) ja_nil)))) fun s763 => (jea_cons (je_callS (O := h0O) 0 (fun s => s) (fun s u => u) (ok_law_order T) T.g__law_order T.F__law_order.kp T.b__law_order (Nat.le_of_ble_eq_true rfl) (jea_of (ja_cons (jn_var (E := intS) (a := a741.2.2) 3) (ja_cons (jn_dispT (E := intS) (g := fun z => [z.1, z.2.1, z.2.2.1, z.2.2.2.1, z.2.2.2.2.1, z.2.2.2.2.2.1]) (ja_cons jn_int (ja_cons jn_int (ja_cons jn_int (ja_cons jn_int (ja_cons jn_int (ja_cons jn_int ja_nil))))))) ja_nil)))) fun s765 => jea_nil))))) (by unfold M_law_orders; first | (dsimp only [CC.sb]; done) | (dsimp only [CC.sb]; rfl) | rfl)
def M_law_map (a : ((Int × (List (Int × Int))) × (List (List Bool)) × (List Int) × (List (List Int))) × (((Int × (List (Int × Int))) × (List (List Bool)) × (List Int) × (List (List Int))) × Unit)) (s : ((List Int) × Int × Int × Int × Int × (List Int))) : Option ((List Int) × ((List Int) × Int × Int × Int × Int × (List Int))) :=
 (repM [(0 : Int)] (a.1.2.1.length : Int)).bind fun a776 => (loopGo (fun x778 s779 => ((rng 0 (a.1.2.1.length : Int)).bind fun x782 => compM (fun x780 => (atI a.1.2.1 x780).bind fun x781 => atI x781 x778) (fun x780 => atI s779.2 x780) x782).bind fun a783 => ((rng 0 (a.2.1.2.1.length : Int)).bind fun x789 => compM (fun x784 => ((compM (fun x785 => (M_law_at_most (a.2.1.2.1, (x785, (x784, ())))).bind fun x786 => some (!x786)) (fun x785 => some x785) a783).bind fun x787 => some (x787.length : Int)).bind fun x788 => some (decide (x788 = (0 : Int)))) (fun x784 => some x784) x789).bind fun a790 => bif decide ((a790.length : Int) = (0 : Int)) then (((M_law_draw ((a.2.1.2.1.length : Int), ()) s779.1).bind fun r792 => some (r792.1, r792.2)).bind fun a793 => (repM [a793.1] (a.1.2.1.length : Int)).bind fun x795 => some (x795, a793.2)).bind fun y806 => some (Out.rt y806) else ((((M_law_draw ((a790.length : Int), ()) s779.1).bind fun r799 => some (r799.1, r799.2)).bind fun q800 => (atI a790 q800.1).bind fun z801 => some (z801, q800.2)).bind fun q803 => (setAt s779.2 x778 q803.1).bind fun r804 => some (r804, q803.2)).bind fun a805 => some (Out.nx (a805.2, a805.1))) a.1.2.2.1 (s, a776)).bind fun o808 => o808.k (fun a807 => some (a807.2, a807.1)) fun r809 => some ((fun r => r) r809)
theorem ok_law_map (T : Tx P K mg) : FnOk P w K mg base CX0 3 T.a__law_map T.d__law_map ["state", "first", "second"] (spS h0O (fun a : ((Int × (List (Int × Int))) × (List (List Bool)) × (List Int) × (List (List Int))) × (((Int × (List (Int × Int))) × (List (List Bool)) × (List Int) × (List (List Int))) × Unit) => [(t4S (prS intS (tupS (prS intS intS))) (lstS (lstS boolS)) (lstS intS) (lstS (lstS intS))) a.1, (t4S (prS intS (tupS (prS intS intS))) (lstS (lstS boolS)) (lstS intS) (lstS (lstS intS))) a.2.1]) M_law_map (lstO (fun x => sh (intS x)))) :=
 fnd_state T.F__law_map sc__law_map (fun _ => rfl) (by decide) fun a s => JB.cong (
 jb_cons (js_set 3 sc__law_map.nd (len_lst T.m_len (jn_ixT (E := (lstS (lstS boolS))) (g := fun z => z.2.1) 1 (jn_var (E := (t4S (prS intS (tupS (prS intS intS))) (lstS (lstS boolS)) (lstS intS) (lstS (lstS intS)))) (a := a.1) 1)))) fun a773 =>
 jb_cons (js_set 4 sc__law_map.nd (len_lst T.m_len (jn_ixT (E := (lstS (lstS boolS))) (g := fun z => z.2.1) 1 (jn_var (E := (t4S (prS intS (tupS (prS intS intS))) (lstS (lstS boolS)) (lstS intS) (lstS (lstS intS)))) (a := a.2.1) 2)))) fun a774 =>
 jb_cons (js_set 5 sc__law_map.nd (jn_bin oRep ov_rep (JN.frz (fz_lst (fun _ => fz_sh)) (jn_dispL (E := intS) (g := fun z => [z.1]) (ja_cons jn_int ja_nil))) (jn_var (E := intS) (a := a773) 3))) fun a776 =>
 jb_consO (Γl := fun s777 : ((List Int) × Int × Int × Int × Int × (List Int)) × (List Int) => [some (h0O s777.1), some (sh ((t4S (prS intS (tupS (prS intS intS))) (lstS (lstS boolS)) (lstS intS) (lstS (lstS intS))) a.1)), some (sh ((t4S (prS intS (tupS (prS intS intS))) (lstS (lstS boolS)) (lstS intS) (lstS (lstS intS))) a.2.1)), some (sh (intS a773)), some (sh (intS a774)), some ((lstO (fun x => sh (intS x))) s777.2), none, none, none, none, none, none, none]) (T := fun r : (List Int) × ((List Int) × Int × Int × Int × Int × (List Int)) => Kd.rt (some (h0O r.2) :: nonC 12) ((lstO (fun x => sh (intS x))) r.1)) (fun r => r) (js_for (Γl := fun s777 : ((List Int) × Int × Int × Int × Int × (List Int)) × (List Int) => [some (h0O s777.1), some (sh ((t4S (prS intS (tupS (prS intS intS))) (lstS (lstS boolS)) (lstS intS) (lstS (lstS intS))) a.1)), some (sh ((t4S (prS intS (tupS (prS intS intS))) (lstS (lstS boolS)) (lstS intS) (lstS (lstS intS))) a.2.1)), some (sh (intS a773)), some (sh (intS a774)), some ((lstO (fun x => sh (intS x))) s777.2), none, none, none, none, none, none, none]) (T := fun r : (List Int) × ((List Int) × Int × Int × Int × Int × (List Int)) => Kd.rt (some (h0O r.2) :: nonC 12) ((lstO (fun x => sh (intS x))) r.1)) (s, a776) (ji_lst (jn_ixT (E := (lstS intS)) (g := fun z => z.2.2.1) 2 (jn_var (E := (t4S (prS intS (tupS (prS intS intS))) (lstS (lstS boolS)) (lstS intS) (lstS (lstS intS)))) (a := a.1) 1))) (jg_name (E := intS) 6 sc__law_map.nd) (weak_mask [true, true, true, true, true, true, false, false, false, false, false, false, false] _) (fun _ => all_lt rfl) (fun _ => ⟨trivial, nofun, nofun⟩) fun x778 s779 =>
 jb_cons (js_setLcC 7 sc__law_map.nd (jn_lc sc__law_map.nd (jc_of [("y", 10)] (jic_of (ji_rng1 T.m_range (jn_var (E := intS) (a := a773) 3))) (show blkC ["state", "first", "second", "n", "m", "row", "x", "lows", "fits", "value", "y", "v", "a"] (defScope s__law_map) _ [("y", 10)] = true by decide +kernel) (jg_name (E := intS) 10 sc__law_map.nd) (by decide) (all_lt rfl) (fun x780 => jts_one (jt_val (jn_of (jr_ix oIxL iv_lst (jr_of (jn_of (jr_ix oIxL iv_lst (jr_of (jn_ixT (E := (lstS (lstS boolS))) (g := fun z => z.2.1) 1 (jn_var (E := (t4S (prS intS (tupS (prS intS intS))) (lstS (lstS boolS)) (lstS intS) (lstS (lstS intS)))) (a := a.1) 1))) (jn_var (E := intS) (a := x780) 10)))) (jn_var (E := intS) (a := x778) 6))))) fun x780 => (jn_of (jr_ix oIxL iv_lstO (jr_var (R := (lstO (fun x => sh (intS x)))) (a := s779.2) 5) (jn_var (E := intS) (a := x780) 10)))))) fun a783 =>
 jb_cons (js_setLc 8 sc__law_map.nd (jc_of [("v", 11)] (jic_of (ji_rng1 T.m_range (jn_var (E := intS) (a := a774) 4))) (show blkC ["state", "first", "second", "n", "m", "row", "x", "lows", "fits", "value", "y", "v", "a"] (defScope s__law_map) _ [("v", 11)] = true by decide +kernel) (jg_name (E := intS) 11 sc__law_map.nd) (by decide) (all_lt rfl) (fun x784 => jts_one (jt_cmp oEq ov_eqI (len_lstO T.m_len (jr_of (jn_lc sc__law_map.nd (jc_of [("a", 12)] (jic_own (jr_var (R := (lstO (fun x => sh (intS x)))) (a := a783) 7)) (show blkC ["state", "first", "second", "n", "m", "row", "x", "lows", "fits", "value", "y", "v", "a"] (relS _ (defScope s__law_map)) _ [("a", 12)] = true by decide +kernel) (jg_name (E := intS) 12 sc__law_map.nd) (by decide) (all_lt rfl) (fun x785 => jts_one (jt_not (jt_val (jn_call (ok_law_at_most T) T.g__law_at_most T.F__law_at_most.kp T.b__law_at_most (Nat.le_of_ble_eq_true rfl) (ja_cons (jn_ixT (E := (lstS (lstS boolS))) (g := fun z => z.2.1) 1 (jn_var (E := (t4S (prS intS (tupS (prS intS intS))) (lstS (lstS boolS)) (lstS intS) (lstS (lstS intS)))) (a := a.2.1) 2)) (ja_cons (jn_var (E := intS) (a := x785) 12) (ja_cons (jn_var (E := intS) (a := x784) 11) ja_nil))))))) fun x785 => (jn_var (E := intS) (a := x785) 12))))) jn_int)) fun x784 => (jn_var (E := intS) (a := x784) 11))) fun a790 =>
 jb_ifx (D' := (fun r : (List Int) × ((List Int) × Int × Int × Int × Int × (List Int)) => Kd.rt (some (h0O r.2) :: nonC 12) ((lstO (fun x => sh (intS x))) r.1))) Out.rt (jt_cmp oEq ov_eqI (len_lstO T.m_len (jr_var (R := (lstO (fun x => sh (intS x)))) (a := a790) 8)) jn_int) (jb_cons (js_setE (Γ := fun s791 : ((List Int) × Int × Int × Int × Int × (List Int)) => [some (h0O s791), some (sh ((t4S (prS intS (tupS (prS intS intS))) (lstS (lstS boolS)) (lstS intS) (lstS (lstS intS))) a.1)), some (sh ((t4S (prS intS (tupS (prS intS intS))) (lstS (lstS boolS)) (lstS intS) (lstS (lstS intS))) a.2.1)), some (sh (intS a773)), some (sh (intS a774)), some ((lstO (fun x => sh (intS x))) s779.2), some (sh (intS x778)), some ((lstO (fun x => sh (intS x))) a783), some ((lstO (fun x => sh (intS x))) a790), none, none, none, none]) (s := s779.1) 9 sc__law_map.nd (je_callS (O := h0O) 0 (fun s => s) (fun s u => u) (ok_law_draw T) T.g__law_draw T.F__law_draw.kp T.b__law_draw (Nat.le_of_ble_eq_true rfl) (jea_of (ja_cons (jn_var (E := intS) (a := a774) 4) ja_nil)))) fun a793 =>
 jb_retS (R := (lstO (fun x => sh (intS x)))) (Δ := fun s => some (h0O s) :: nonC 12) (s := a793.2) (weak_mask [true, false, false, false, false, false, false, false, false, false, false, false, false] _) (jn_bin oRep ov_rep (JN.frz (fz_lst (fun _ => fz_sh)) (jn_dispL (E := intS) (g := fun z => [z.1]) (ja_cons (jn_var (E := intS) (a := a793.1) 9) ja_nil))) (jn_var (E := intS) (a := a773) 3))) (fun _ => rfl) (fun _ => trivial)
 (JB.frz (i := 8) (o := (lstO (fun x => sh (intS x))) a790) (p := (lstS intS) a790) rfl ((fz_lst (fun _ => fz_sh)) _) (jb_cons (js_setIE (E := intS) (Γ := fun s797 : ((List Int) × Int × Int × Int × Int × (List Int)) => [some (h0O s797), some (sh ((t4S (prS intS (tupS (prS intS intS))) (lstS (lstS boolS)) (lstS intS) (lstS (lstS intS))) a.1)), some (sh ((t4S (prS intS (tupS (prS intS intS))) (lstS (lstS boolS)) (lstS intS) (lstS (lstS intS))) a.2.1)), some (sh (intS a773)), some (sh (intS a774)), some ((lstO (fun x => sh (intS x))) s779.2), some (sh (intS x778)), some ((lstO (fun x => sh (intS x))) a783), some (sh ((lstS intS) a790)), none, none, none, none]) (s := s779.1) 5 (fun _ => s779.2) (je_ix oIxL iv_lst (je_of (jn_var (E := (lstS intS)) (a := a790) 8)) fun s798 => (je_callS (O := h0O) 0 (fun s => s) (fun s u => u) (ok_law_draw T) T.g__law_draw T.F__law_draw.kp T.b__law_draw (Nat.le_of_ble_eq_true rfl) (jea_of (ja_cons (len_lst T.m_len (jn_var (E := (lstS intS)) (a := a790) 8)) ja_nil)))) fun s802 => (je_of (jn_var (E := intS) (a := x778) 6))) fun a805 =>
 jb_nil (x := Out.nx (a805.2, a805.1)) rfl (weak_mask [true, true, true, true, true, true, false, false, false, false, false, false, false] _)))) (fun _ => rfl) (fun _ => trivial) fun a807 =>
 jb_retOS (R := (lstO (fun x => sh (intS x)))) (Δ := fun s => some (h0O s) :: nonC 12) 5 (weak_mask [true, false, false, false, false, false, false, false, false, false, false, false, false] _)) (by unfold M_law_map; first | (dsimp only [CC.sb]; done) | (dsimp only [CC.sb]; rfl) | rfl)
def M_law_fits_1 (a : ((Int × (List (Int × Int))) × (List (List Bool)) × (List Int) × (List (List Int))) × (((Int × (List (Int × Int))) × (List (List Bool)) × (List Int) × (List (List Int))) × ((List Int) × (Int × (Int × Unit))))) : Option Bool :=
 ((atI a.1.2.2.2 a.2.2.2.1).bind fun x857 => loopGo (fun x838 s839 => (((atI a.1.2.1 x838).bind fun x840 => atI x840 a.2.2.2.1).bind fun x845 => bif x845 then ((((atI a.2.2.1 x838).bind fun x841 => some (x841, (a.2.2.2.2.1, ()))).bind fun y842 => some (a.2.1.2.1, y842)).bind fun z843 => M_law_at_most z843).bind fun x844 => some (!x844) else some false).bind fun x856 => bif x856 then (some false).bind fun y855 => some (Out.rt y855) else (((atI a.1.2.1 a.2.2.2.1).bind fun x846 => atI x846 x838).bind fun x852 => bif x852 then (((((atI a.2.2.1 x838).bind fun x847 => some (x847, ())).bind fun y848 => some (a.2.2.2.2.1, y848)).bind fun y849 => some (a.2.1.2.1, y849)).bind fun z850 => M_law_at_most z850).bind fun x851 => some (!x851) else some false).bind fun x854 => bif x854 then (some false).bind fun y853 => some (Out.rt y853) else some (Out.nx ())) x857 ()).bind fun o859 => o859.k (fun a858 => some true) fun r860 => some ((fun r => r) r860)
theorem ok_law_fits_1 (T : Tx P K mg) : FnOk P w K mg base CX0 2 T.a__law_fits T.d__law_fits ["first", "second", "row", "x", "v"] (spP (fun a : ((Int × (List (Int × Int))) × (List (List Bool)) × (List Int) × (List (List Int))) × (((Int × (List (Int × Int))) × (List (List Bool)) × (List Int) × (List (List Int))) × ((List Int) × (Int × (Int × Unit)))) => [(t4S (prS intS (tupS (prS intS intS))) (lstS (lstS boolS)) (lstS intS) (lstS (lstS intS))) a.1, (t4S (prS intS (tupS (prS intS intS))) (lstS (lstS boolS)) (lstS intS) (lstS (lstS intS))) a.2.1, (tupS intS) a.2.2.1, intS a.2.2.2.1, intS a.2.2.2.2.1]) M_law_fits_1 (fun x => sh (boolS x))) :=
 fnd_pure (Δ := nonC 7) T.F__law_fits sc__law_fits (fun _ => rfl) (by decide) fun a => JB.cong (
 jb_cons (js_set 5 sc__law_fits.nd (jn_ixT (E := (lstS (lstS boolS))) (g := fun z => z.2.1) 1 (jn_var (E := (t4S (prS intS (tupS (prS intS intS))) (lstS (lstS boolS)) (lstS intS) (lstS (lstS intS)))) (a := a.2.1) 1))) fun a836 =>
 jb_consO (Γl := fun s837 : Unit => [some (sh ((t4S (prS intS (tupS (prS intS intS))) (lstS (lstS boolS)) (lstS intS) (lstS (lstS intS))) a.1)), some (sh ((t4S (prS intS (tupS (prS intS intS))) (lstS (lstS boolS)) (lstS intS) (lstS (lstS intS))) a.2.1)), some (sh ((tupS intS) a.2.2.1)), some (sh (intS a.2.2.2.1)), some (sh (intS a.2.2.2.2.1)), some (sh ((lstS (lstS boolS)) a836)), none]) (T := fun r : Bool => Kd.rt (nonC 7) ((fun x => sh (boolS x)) r)) (fun r => r) (js_for (Γl := fun s837 : Unit => [some (sh ((t4S (prS intS (tupS (prS intS intS))) (lstS (lstS boolS)) (lstS intS) (lstS (lstS intS))) a.1)), some (sh ((t4S (prS intS (tupS (prS intS intS))) (lstS (lstS boolS)) (lstS intS) (lstS (lstS intS))) a.2.1)), some (sh ((tupS intS) a.2.2.1)), some (sh (intS a.2.2.2.1)), some (sh (intS a.2.2.2.2.1)), some (sh ((lstS (lstS boolS)) a836)), none]) (T := fun r : Bool => Kd.rt (nonC 7) ((fun x => sh (boolS x)) r)) () (ji_lst (jn_of (jr_ix oIxL iv_lst (jr_of (jn_ixT (E := (lstS (lstS intS))) (g := fun z => z.2.2.2) 3 (jn_var (E := (t4S (prS intS (tupS (prS intS intS))) (lstS (lstS boolS)) (lstS intS) (lstS (lstS intS)))) (a := a.1) 0))) (jn_var (E := intS) (a := a.2.2.2.1) 3)))) (jg_name (E := intS) 6 sc__law_fits.nd) (weak_mask [true, true, true, true, true, true, false] _) (fun _ => all_lt rfl) (fun _ => ⟨trivial, nofun, nofun⟩) fun x838 s839 =>
 jb_ifx (D' := (fun r : Bool => Kd.rt (nonC 7) ((fun x => sh (boolS x)) r))) Out.rt (jt_w (jw_and (jt_val (jn_of (jr_ix oIxL iv_lst (jr_of (jn_of (jr_ix oIxL iv_lst (jr_of (jn_ixT (E := (lstS (lstS boolS))) (g := fun z => z.2.1) 1 (jn_var (E := (t4S (prS intS (tupS (prS intS intS))) (lstS (lstS boolS)) (lstS intS) (lstS (lstS intS)))) (a := a.1) 0))) (jn_var (E := intS) (a := x838) 6)))) (jn_var (E := intS) (a := a.2.2.2.1) 3)))) (jw_and1 (jt_not (jt_val (jn_call (ok_law_at_most T) T.g__law_at_most T.F__law_at_most.kp T.b__law_at_most (Nat.le_of_ble_eq_true rfl) (ja_cons (jn_var (E := (lstS (lstS boolS))) (a := a836) 5) (ja_cons (jn_of (jr_ix oIxT iv_tup (jr_of (jn_var (E := (tupS intS)) (a := a.2.2.1) 2)) (jn_var (E := intS) (a := x838) 6))) (ja_cons (jn_var (E := intS) (a := a.2.2.2.2.1) 4) ja_nil))))))))) (jb_ret (weak_none _) jn_bl) (fun _ => rfl) (fun _ => trivial)
 (jb_ifx (D' := (fun r : Bool => Kd.rt (nonC 7) ((fun x => sh (boolS x)) r))) Out.rt (jt_w (jw_and (jt_val (jn_of (jr_ix oIxL iv_lst (jr_of (jn_of (jr_ix oIxL iv_lst (jr_of (jn_ixT (E := (lstS (lstS boolS))) (g := fun z => z.2.1) 1 (jn_var (E := (t4S (prS intS (tupS (prS intS intS))) (lstS (lstS boolS)) (lstS intS) (lstS (lstS intS)))) (a := a.1) 0))) (jn_var (E := intS) (a := a.2.2.2.1) 3)))) (jn_var (E := intS) (a := x838) 6)))) (jw_and1 (jt_not (jt_val (jn_call (ok_law_at_most T) T.g__law_at_most T.F__law_at_most.kp T.b__law_at_most (Nat.le_of_ble_eq_true rfl) (ja_cons (jn_var (E := (lstS (lstS boolS))) (a := a836) 5) (ja_cons (jn_var (E := intS) (a := a.2.2.2.2.1) 4) (ja_cons (jn_of (jr_ix oIxT iv_tup (jr_of (jn_var (E := (tupS intS)) (a := a.2.2.1) 2)) (jn_var (E := intS) (a := x838) 6))) ja_nil))))))))) (jb_ret (weak_none _) jn_bl) (fun _ => rfl) (fun _ => trivial)
 (jb_nil (x := Out.nx ()) rfl (weak_mask [true, true, true, true, true, true, false] _)))) (fun _ => rfl) (fun _ => trivial) fun a858 =>
 jb_ret (weak_none _) jn_bl) (by unfold M_law_fits_1; first | (dsimp only [CC.sb]; done) | (dsimp only [CC.sb]; rfl) | rfl)
def M_law_kind_1 (a : ((Int × (List (Int × Int))) × (List (List Bool)) × (List Int) × (List (List Int))) × (((Int × (List (Int × Int))) × (List (List Bool)) × (List Int) × (List (List Int))) × ((List Int) × (Int × (Int × Unit))))) : Option Str :=
 (atI a.2.2.1 a.2.2.2.1).bind fun a835 => bif decide (a835 = a.2.2.2.2.1) then some (Str.ofString "same") else (M_law_fits_1 (a.1, (a.2.1, (a.2.2.1, (a.2.2.2.1, (a.2.2.2.2.1, ())))))).bind fun a861 => ((M_law_covers (a.2.1.2.1, (a835, (a.2.2.2.2.1, ())))).bind fun x862 => bif x862 then some true else M_law_covers (a.2.1.2.1, (a.2.2.2.2.1, (a835, ())))).bind fun x872 => bif x872 then atI [(Str.ofString "stuck"), (Str.ofString "good")] (CC.b2i a861) else bif !a861 then some (Str.ofString "rough") else ((((atI a.2.1.2.1 a835).bind fun x867 => atI x867 a.2.2.2.2.1).bind fun x869 => bif x869 then some true else (atI a.2.1.2.1 a.2.2.2.2.1).bind fun x868 => atI x868 a835).bind fun x870 => some (CC.b2i x870)).bind fun x871 => atI [(Str.ofString "apart"), (Str.ofString "far")] x871
theorem ok_law_kind_1 (T : Tx P K mg) : FnOk P w K mg base CX0 3 T.a__law_kind T.d__law_kind ["first", "second", "row", "x", "v"] (spP (fun a : ((Int × (List (Int × Int))) × (List (List Bool)) × (List Int) × (List (List Int))) × (((Int × (List (Int × Int))) × (List (List Bool)) × (List Int) × (List (List Int))) × ((List Int) × (Int × (Int × Unit)))) => [(t4S (prS intS (tupS (prS intS intS))) (lstS (lstS boolS)) (lstS intS) (lstS (lstS intS))) a.1, (t4S (prS intS (tupS (prS intS intS))) (lstS (lstS boolS)) (lstS intS) (lstS (lstS intS))) a.2.1, (tupS intS) a.2.2.1, intS a.2.2.2.1, intS a.2.2.2.2.1]) M_law_kind_1 (fun x => sh (strS x))) :=
 fnd_pure (Δ := nonC 8) T.F__law_kind sc__law_kind (fun _ => rfl) (by decide) fun a => JB.cong (
 jb_cons (js_set 5 sc__law_kind.nd (jn_ixT (E := (lstS (lstS boolS))) (g := fun z => z.2.1) 1 (jn_var (E := (t4S (prS intS (tupS (prS intS intS))) (lstS (lstS boolS)) (lstS intS) (lstS (lstS intS)))) (a := a.2.1) 1))) fun a834 =>
 jb_cons (js_set 6 sc__law_kind.nd (jn_of (jr_ix oIxT iv_tup (jr_of (jn_var (E := (tupS intS)) (a := a.2.2.1) 2)) (jn_var (E := intS) (a := a.2.2.2.1) 3)))) fun a835 =>
 jb_ifr (jt_cmp oEq ov_eqI (jn_var (E := intS) (a := a835) 6) (jn_var (E := intS) (a := a.2.2.2.2.1) 4)) (jb_ret (weak_none _) jn_str) (fun _ => trivial)
 (jb_cons (js_set 7 sc__law_kind.nd (jn_call (ok_law_fits_1 T) T.g__law_fits T.F__law_fits.kp T.b__law_fits (Nat.le_of_ble_eq_true rfl) (ja_cons (jn_var (E := (t4S (prS intS (tupS (prS intS intS))) (lstS (lstS boolS)) (lstS intS) (lstS (lstS intS)))) (a := a.1) 0) (ja_cons (jn_var (E := (t4S (prS intS (tupS (prS intS intS))) (lstS (lstS boolS)) (lstS intS) (lstS (lstS intS)))) (a := a.2.1) 1) (ja_cons (jn_var (E := (tupS intS)) (a := a.2.2.1) 2) (ja_cons (jn_var (E := intS) (a := a.2.2.2.1) 3) (ja_cons (jn_var (E := intS) (a := a.2.2.2.2.1) 4) ja_nil))))))) fun a861 =>
 jb_ifr (jt_w (jw_or (jt_val (jn_call (ok_law_covers T) T.g__law_covers T.F__law_covers.kp T.b__law_covers (Nat.le_of_ble_eq_true rfl) (ja_cons (jn_var (E := (lstS (lstS boolS))) (a := a834) 5) (ja_cons (jn_var (E := intS) (a := a835) 6) (ja_cons (jn_var (E := intS) (a := a.2.2.2.2.1) 4) ja_nil))))) (jw_or1 (jt_val (jn_call (ok_law_covers T) T.g__law_covers T.F__law_covers.kp T.b__law_covers (Nat.le_of_ble_eq_true rfl) (ja_cons (jn_var (E := (lstS (lstS boolS))) (a := a834) 5) (ja_cons (jn_var (E := intS) (a := a.2.2.2.2.1) 4) (ja_cons (jn_var (E := intS) (a := a835) 6) ja_nil)))))))) (jb_ret (weak_none _) (jn_of (jr_ix oIxL iv_lstO (jr_of (jn_dispL (E := strS) (g := fun z => [z.1, z.2.1]) (ja_cons jn_str (ja_cons jn_str ja_nil)))) (int_bool T.m_int (jn_var (E := boolS) (a := a861) 7))))) (fun _ => trivial)
 (jb_ifr (jt_not (jt_val (jn_var (E := boolS) (a := a861) 7))) (jb_ret (weak_none _) jn_str) (fun _ => trivial)
 (jb_ret (weak_none _) (jn_of (jr_ix oIxL iv_lstO (jr_of (jn_dispL (E := strS) (g := fun z => [z.1, z.2.1]) (ja_cons jn_str (ja_cons jn_str ja_nil)))) (int_bool T.m_int (jn_or (jn_of (jr_ix oIxL iv_lst (jr_of (jn_of (jr_ix oIxL iv_lst (jr_of (jn_var (E := (lstS (lstS boolS))) (a := a834) 5)) (jn_var (E := intS) (a := a835) 6)))) (jn_var (E := intS) (a := a.2.2.2.2.1) 4))) (jn_one (jn_of (jr_ix oIxL iv_lst (jr_of (jn_of (jr_ix oIxL iv_lst (jr_of (jn_var (E := (lstS (lstS boolS))) (a := a834) 5)) (jn_var (E := intS) (a := a.2.2.2.2.1) 4)))) (jn_var (E := intS) (a := a835) 6)))))))))))) (by unfold M_law_kind_1; first | (dsimp only [CC.sb]; done) | (dsimp only [CC.sb]; rfl) | rfl)
def M_law_steps_of (a : ((Int × (List (Int × Int))) × (List (List Bool)) × (List Int) × (List (List Int))) × (((Int × (List (Int × Int))) × (List (List Bool)) × (List Int) × (List (List Int))) × ((List Int) × (Str × Unit)))) : Option (List (Int × Int)) :=
 ((rng 0 (a.2.2.1.length : Int)).bind fun x887 => foldGo (fun x880 s881 => (((rng 0 (a.2.1.2.1.length : Int)).bind fun x884 => compM (fun x882 => (M_law_kind_1 (a.1, (a.2.1, (a.2.2.1, (x880, (x882, ())))))).bind fun x883 => some (decide (x883 = a.2.2.2.1))) (fun x882 => some (x880, x882)) x884).bind fun x885 => catM s881 x885).bind fun a886 => some a886) x887 []).bind fun a888 => some a888
theorem ok_law_steps_of (T : Tx P K mg) : FnOk P w K mg base CX0 4 T.a__law_steps_of T.d__law_steps_of ["first", "second", "row", "kind"] (spP (fun a : ((Int × (List (Int × Int))) × (List (List Bool)) × (List Int) × (List (List Int))) × (((Int × (List (Int × Int))) × (List (List Bool)) × (List Int) × (List (List Int))) × ((List Int) × (Str × Unit))) => [(t4S (prS intS (tupS (prS intS intS))) (lstS (lstS boolS)) (lstS intS) (lstS (lstS intS))) a.1, (t4S (prS intS (tupS (prS intS intS))) (lstS (lstS boolS)) (lstS intS) (lstS (lstS intS))) a.2.1, (tupS intS) a.2.2.1, strS a.2.2.2.1]) M_law_steps_of (fun x => sh ((lstS (prS intS intS)) x))) :=
 fnd_pure (Δ := nonC 7) T.F__law_steps_of sc__law_steps_of (fun _ => rfl) (by decide) fun a => JB.cong (
 jb_cons (js_set 4 sc__law_steps_of.nd (jn_nilLO (E := (fun x => sh ((prS intS intS) x))))) fun a829 =>
 JB.frz (i := 4) (o := (lstO (fun x => sh ((prS intS intS) x))) a829) (p := (lstS (prS intS intS)) a829) rfl ((fz_lst (fun _ => fz_sh)) _) (jb_cons (js_forS (Γl := fun s879 : (List (Int × Int)) => [some (sh ((t4S (prS intS (tupS (prS intS intS))) (lstS (lstS boolS)) (lstS intS) (lstS (lstS intS))) a.1)), some (sh ((t4S (prS intS (tupS (prS intS intS))) (lstS (lstS boolS)) (lstS intS) (lstS (lstS intS))) a.2.1)), some (sh ((tupS intS) a.2.2.1)), some (sh (strS a.2.2.2.1)), some (sh ((lstS (prS intS intS)) s879)), none, none]) a829 (ji_rng1 T.m_range (len_tup T.m_len (jn_var (E := (tupS intS)) (a := a.2.2.1) 2))) (jg_name (E := intS) 5 sc__law_steps_of.nd) (weak_mask [true, true, true, true, true, false, false] _) (fun _ => all_lt rfl) fun x880 s881 =>
 jb_cons (js_set 4 sc__law_steps_of.nd (jn_bin oCat ov_cat (jn_var (E := (lstS (prS intS intS))) (a := s881) 4) (JN.frz (fz_lst (fun _ => fz_sh)) (jn_lc sc__law_steps_of.nd (jc_of [("v", 6)] (jic_of (ji_rng1 T.m_range (len_lst T.m_len (jn_ixT (E := (lstS (lstS boolS))) (g := fun z => z.2.1) 1 (jn_var (E := (t4S (prS intS (tupS (prS intS intS))) (lstS (lstS boolS)) (lstS intS) (lstS (lstS intS)))) (a := a.2.1) 1))))) (show blkC ["first", "second", "row", "kind", "found", "x", "v"] (defScope s__law_steps_of) _ [("v", 6)] = true by decide +kernel) (jg_name (E := intS) 6 sc__law_steps_of.nd) (by decide) (all_lt rfl) (fun x882 => by exact jts_one (jt_cmp oEq ov_eqS (jn_call (ok_law_kind_1 T) T.g__law_kind T.F__law_kind.kp T.b__law_kind (Nat.le_of_ble_eq_true rfl) (ja_cons (jn_var (E := (t4S (prS intS (tupS (prS intS intS))) (lstS (lstS boolS)) (lstS intS) (lstS (lstS intS)))) (a := a.1) 0) (ja_cons (jn_var (E := (t4S (prS intS (tupS (prS intS intS))) (lstS (lstS boolS)) (lstS intS) (lstS (lstS intS)))) (a := a.2.1) 1) (ja_cons (jn_var (E := (tupS intS)) (a := a.2.2.1) 2) (ja_cons (jn_var (E := intS) (a := x880) 5) (ja_cons (jn_var (E := intS) (a := x882) 6) ja_nil)))))) (jn_var (E := strS) (a := a.2.2.2.1) 3))) fun x882 => (jn_tupG (P := (prS intS intS)) (g := fun z => (z.1, z.2.1)) (ja_cons (jn_var (E := intS) (a := x880) 5) (ja_cons (jn_var (E := intS) (a := x882) 6) ja_nil)))))))) fun a886 =>
 JB.frz (i := 4) (o := (lstO (fun x => sh ((prS intS intS) x))) a886) (p := (lstS (prS intS intS)) a886) rfl ((fz_lst (fun _ => fz_sh)) _) (jb_nil (x := a886) rfl (weak_mask [true, true, true, true, true, false, false] _))) fun a888 =>
 jb_ret (weak_none _) (jn_var (E := (lstS (prS intS intS))) (a := a888) 4))) (by unfold M_law_steps_of; first | (dsimp only [CC.sb]; done) | (dsimp only [CC.sb]; rfl) | rfl)
def M_law_wrong (a : ((Int × (List (Int × Int))) × (List (List Bool)) × (List Int) × (List (List Int))) × (((Int × (List (Int × Int))) × (List (List Bool)) × (List Int) × (List (List Int))) × ((List Int) × Unit))) (s : ((List Int) × Int × Int × Int × Int × (List Int))) : Option ((Int × Int) × ((List Int) × Int × Int × Int × Int × (List Int))) :=
 (((M_law_draw ((7 : Int), ()) s).bind fun r976 => some (r976.1, r976.2)).bind fun q977 => (atI [(Str.ofString "same"), (Str.ofString "far"), (Str.ofString "apart"), (Str.ofString "stuck"), (Str.ofString "rough"), (Str.ofString "point"), (Str.ofString "value")] q977.1).bind fun z978 => some (z978, q977.2)).bind fun a979 => (bif decide (a979.1 = (Str.ofString "point")) then some true else some (decide (a979.1 = (Str.ofString "value")))).bind fun x1040 => bif x1040 then ((M_law_steps_of (a.1, (a.2.1, (a.2.2.1, ((Str.ofString "good"), ()))))).bind fun x981 => catM x981 [((0 : Int), (0 : Int))]).bind fun a982 => (((M_law_draw (if ((a982.length : Int) - (1 : Int)) > (1 : Int) then ((a982.length : Int) - (1 : Int)) else (1 : Int), ()) a979.2).bind fun r986 => some (r986.1, r986.2)).bind fun q987 => (atI a982 q987.1).bind fun z988 => some (z988, q987.2)).bind fun a989 => bif decide (a979.1 = (Str.ofString "point")) then ((((((((powO (10 : Int) (59 : Int)).bind fun x996 => (((powO (10 : Int) (59 : Int)).bind fun x991 => some ((0 : Int) - x991)).bind fun x997 => some (x997, ())).bind fun y998 => some (x996, y998)).bind fun y999 => some (a989.1.1 - (a.2.2.1.length : Int), y999)).bind fun y1000 => some (a989.1.1 + (a.2.2.1.length : Int), y1000)).bind fun z1001 => some [z1001.1, z1001.2.1, z1001.2.2.1, z1001.2.2.2.1]).bind fun x1002 => some (x1002, a989.2)).bind fun q1005 => ((M_law_draw ((4 : Int), ()) q1005.2).bind fun r1004 => some (r1004.1, r1004.2)).bind fun q1006 => (atI q1005.1 q1006.1).bind fun z1007 => some (z1007, q1006.2)).bind fun q1009 => some ((q1009.1, (a989.1.2, ())), q1009.2)).bind fun q1010 => some ((q1010.1.1, q1010.1.2.1), q1010.2) else (((((((((powO (10 : Int) (59 : Int)).bind fun x1018 => (((powO (10 : Int) (59 : Int)).bind fun x1013 => some ((0 : Int) - x1013)).bind fun x1019 => some (x1019, ())).bind fun y1020 => some (x1018, y1020)).bind fun y1021 => some (a989.1.2 - (a.2.1.2.1.length : Int), y1021)).bind fun y1022 => some (a989.1.2 + (a.2.1.2.1.length : Int), y1022)).bind fun z1023 => some [z1023.1, z1023.2.1, z1023.2.2.1, z1023.2.2.2.1]).bind fun x1024 => some (x1024, a989.2)).bind fun q1027 => ((M_law_draw ((4 : Int), ()) q1027.2).bind fun r1026 => some (r1026.1, r1026.2)).bind fun q1028 => (atI q1027.1 q1028.1).bind fun z1029 => some (z1029, q1028.2)).bind fun q1031 => some ((q1031.1, ()), q1031.2)).bind fun q1032 => some ((a989.1.1, q1032.1), q1032.2)).bind fun q1033 => some ((q1033.1.1, q1033.1.2.1), q1033.2) else (M_law_steps_of (a.1, (a.2.1, (a.2.2.1, (a979.1, ()))))).bind fun a1034 => bif decide ((a1034.length : Int) = (0 : Int)) then some (((a.2.2.1.length : Int), (0 : Int)), a979.2) else ((M_law_draw ((a1034.length : Int), ()) a979.2).bind fun r1037 => some (r1037.1, r1037.2)).bind fun q1038 => (atI a1034 q1038.1).bind fun z1039 => some (z1039, q1038.2)
theorem ok_law_wrong (T : Tx P K mg) : FnOk P w K mg base CX0 5 T.a__law_wrong T.d__law_wrong ["state", "first", "second", "row"] (spS h0O (fun a : ((Int × (List (Int × Int))) × (List (List Bool)) × (List Int) × (List (List Int))) × (((Int × (List (Int × Int))) × (List (List Bool)) × (List Int) × (List (List Int))) × ((List Int) × Unit)) => [(t4S (prS intS (tupS (prS intS intS))) (lstS (lstS boolS)) (lstS intS) (lstS (lstS intS))) a.1, (t4S (prS intS (tupS (prS intS intS))) (lstS (lstS boolS)) (lstS intS) (lstS (lstS intS))) a.2.1, (tupS intS) a.2.2.1]) M_law_wrong (fun x => sh ((prS intS intS) x))) :=
 fnd_state T.F__law_wrong sc__law_wrong (fun _ => rfl) (by decide) fun a s => JB.cong (
 jb_cons (js_set 4 sc__law_wrong.nd (len_tup T.m_len (jn_var (E := (tupS intS)) (a := a.2.2.1) 3))) fun a965 =>
 jb_cons (js_set 5 sc__law_wrong.nd (len_lst T.m_len (jn_ixT (E := (lstS (lstS boolS))) (g := fun z => z.2.1) 1 (jn_var (E := (t4S (prS intS (tupS (prS intS intS))) (lstS (lstS boolS)) (lstS intS) (lstS (lstS intS)))) (a := a.2.1) 2)))) fun a966 =>
 jb_cons (js_setE (Γ := fun s967 : ((List Int) × Int × Int × Int × Int × (List Int)) => [some (h0O s967), some (sh ((t4S (prS intS (tupS (prS intS intS))) (lstS (lstS boolS)) (lstS intS) (lstS (lstS intS))) a.1)), some (sh ((t4S (prS intS (tupS (prS intS intS))) (lstS (lstS boolS)) (lstS intS) (lstS (lstS intS))) a.2.1)), some (sh ((tupS intS) a.2.2.1)), some (sh (intS a965)), some (sh (intS a966)), none, none, none, none]) (s := s) 6 sc__law_wrong.nd (je_ix oIxL iv_lst (JE.frz (fz_lst (fun _ => fz_sh)) (je_of (jn_dispL (E := strS) (g := fun z => [z.1, z.2.1, z.2.2.1, z.2.2.2.1, z.2.2.2.2.1, z.2.2.2.2.2.1, z.2.2.2.2.2.2.1]) (ja_cons jn_str (ja_cons jn_str (ja_cons jn_str (ja_cons jn_str (ja_cons jn_str (ja_cons jn_str (ja_cons jn_str ja_nil)))))))))) fun s975 => (je_callS (O := h0O) 0 (fun s => s) (fun s u => u) (ok_law_draw T) T.g__law_draw T.F__law_draw.kp T.b__law_draw (Nat.le_of_ble_eq_true rfl) (jea_of (ja_cons jn_int ja_nil))))) fun a979 =>
 jb_ifr (jt_w (jw_or (jt_cmp oEq ov_eqS (jn_var (E := strS) (a := a979.1) 6) jn_str) (jw_or1 (jt_cmp oEq ov_eqS (jn_var (E := strS) (a := a979.1) 6) jn_str)))) (jb_cons (js_set 7 sc__law_wrong.nd (jn_bin oCat ov_cat (jn_call (ok_law_steps_of T) T.g__law_steps_of T.F__law_steps_of.kp T.b__law_steps_of (Nat.le_of_ble_eq_true rfl) (ja_cons (jn_var (E := (t4S (prS intS (tupS (prS intS intS))) (lstS (lstS boolS)) (lstS intS) (lstS (lstS intS)))) (a := a.1) 1) (ja_cons (jn_var (E := (t4S (prS intS (tupS (prS intS intS))) (lstS (lstS boolS)) (lstS intS) (lstS (lstS intS)))) (a := a.2.1) 2) (ja_cons (jn_var (E := (tupS intS)) (a := a.2.2.1) 3) (ja_cons jn_str ja_nil))))) (JN.frz (fz_lst (fun _ => fz_sh)) (jn_dispL (E := (prS intS intS)) (g := fun z => [z.1]) (ja_cons (jn_tupG (P := (prS intS intS)) (g := fun z => (z.1, z.2.1)) (ja_cons jn_int (ja_cons jn_int ja_nil))) ja_nil))))) fun a982 =>
 JB.frz (i := 7) (o := (lstO (fun x => sh ((prS intS intS) x))) a982) (p := (lstS (prS intS intS)) a982) rfl ((fz_lst (fun _ => fz_sh)) _) (jb_cons (js_asgE (Γ := fun s984 : ((List Int) × Int × Int × Int × Int × (List Int)) => [some (h0O s984), some (sh ((t4S (prS intS (tupS (prS intS intS))) (lstS (lstS boolS)) (lstS intS) (lstS (lstS intS))) a.1)), some (sh ((t4S (prS intS (tupS (prS intS intS))) (lstS (lstS boolS)) (lstS intS) (lstS (lstS intS))) a.2.1)), some (sh ((tupS intS) a.2.2.1)), some (sh (intS a965)), some (sh (intS a966)), some (sh (strS a979.1)), some (sh ((lstS (prS intS intS)) a982)), none, none]) (s := a979.2) (je_ix oIxL iv_lst (je_of (jn_var (E := (lstS (prS intS intS))) (a := a982) 7)) fun s985 => (je_callS (O := h0O) 0 (fun s => s) (fun s u => u) (ok_law_draw T) T.g__law_draw T.F__law_draw.kp T.b__law_draw (Nat.le_of_ble_eq_true rfl) (jea_of (ja_cons (jn_max2 (fun z => z.1) (fun z => z.2.1) T.m_max (ja_cons jn_int (ja_cons (jn_bin oSub ov_sub (len_lst T.m_len (jn_var (E := (lstS (prS intS intS))) (a := a982) 7)) jn_int) ja_nil))) ja_nil)))) (jg_pair (E := intS) (G := intS) 8 9 sc__law_wrong.nd) (fun _ => all_lt rfl)) fun a989 =>
 jb_ifr (jt_cmp oEq ov_eqS (jn_var (E := strS) (a := a979.1) 6) jn_str) (jb_retE (R := (fun x => sh ((prS intS intS) x))) (Γ := fun s990 : ((List Int) × Int × Int × Int × Int × (List Int)) => [some (h0O s990), some (sh ((t4S (prS intS (tupS (prS intS intS))) (lstS (lstS boolS)) (lstS intS) (lstS (lstS intS))) a.1)), some (sh ((t4S (prS intS (tupS (prS intS intS))) (lstS (lstS boolS)) (lstS intS) (lstS (lstS intS))) a.2.1)), some (sh ((tupS intS) a.2.2.1)), some (sh (intS a965)), some (sh (intS a966)), some (sh (strS a979.1)), some (sh ((lstS (prS intS intS)) a982)), some (sh (intS a989.1.1)), some (sh (intS a989.1.2))]) (s := a989.2) (Δ := fun s => some (h0O s) :: nonC 9) (fun _ => (weak_mask [true, false, false, false, false, false, false, false, false, false] _)) (je_tupG (P := (prS intS intS)) (g := fun z => (z.1, z.2.1)) (jea_cons (je_ix oIxL iv_lst (JE.frz (fz_lst (fun _ => fz_sh)) (je_of (jn_dispL (E := intS) (g := fun z => [z.1, z.2.1, z.2.2.1, z.2.2.2.1]) (ja_cons (jn_bin oAdd ov_add (jn_var (E := intS) (a := a989.1.1) 8) (jn_var (E := intS) (a := a965) 4)) (ja_cons (jn_bin oSub ov_sub (jn_var (E := intS) (a := a989.1.1) 8) (jn_var (E := intS) (a := a965) 4)) (ja_cons (jn_bin oPow ov_pow jn_int jn_int) (ja_cons (jn_bin oSub ov_sub jn_int (jn_bin oPow ov_pow jn_int jn_int)) ja_nil))))))) fun s1003 => (je_callS (O := h0O) 0 (fun s => s) (fun s u => u) (ok_law_draw T) T.g__law_draw T.F__law_draw.kp T.b__law_draw (Nat.le_of_ble_eq_true rfl) (jea_of (ja_cons jn_int ja_nil)))) fun s1008 => (jea_of (ja_cons (jn_var (E := intS) (a := a989.1.2) 9) ja_nil))))) (fun _ => trivial)
 (jb_retE (R := (fun x => sh ((prS intS intS) x))) (Γ := fun s1011 : ((List Int) × Int × Int × Int × Int × (List Int)) => [some (h0O s1011), some (sh ((t4S (prS intS (tupS (prS intS intS))) (lstS (lstS boolS)) (lstS intS) (lstS (lstS intS))) a.1)), some (sh ((t4S (prS intS (tupS (prS intS intS))) (lstS (lstS boolS)) (lstS intS) (lstS (lstS intS))) a.2.1)), some (sh ((tupS intS) a.2.2.1)), some (sh (intS a965)), some (sh (intS a966)), some (sh (strS a979.1)), some (sh ((lstS (prS intS intS)) a982)), some (sh (intS a989.1.1)), some (sh (intS a989.1.2))]) (s := a989.2) (Δ := fun s => some (h0O s) :: nonC 9) (fun _ => (weak_mask [true, false, false, false, false, false, false, false, false, false] _)) (je_tupG (P := (prS intS intS)) (g := fun z => (z.1, z.2.1)) (jea_cons (je_of (jn_var (E := intS) (a := a989.1.1) 8)) fun s1012 => (jea_cons (je_ix oIxL iv_lst (JE.frz (fz_lst (fun _ => fz_sh)) (je_of (jn_dispL (E := intS) (g := fun z => [z.1, z.2.1, z.2.2.1, z.2.2.2.1]) (ja_cons (jn_bin oAdd ov_add (jn_var (E := intS) (a := a989.1.2) 9) (jn_var (E := intS) (a := a966) 5)) (ja_cons (jn_bin oSub ov_sub (jn_var (E := intS) (a := a989.1.2) 9) (jn_var (E := intS) (a := a966) 5)) (ja_cons (jn_bin oPow ov_pow jn_int jn_int) (ja_cons (jn_bin oSub ov_sub jn_int (jn_bin oPow ov_pow jn_int jn_int)) ja_nil))))))) fun s1025 => (je_callS (O := h0O) 0 (fun s => s) (fun s u => u) (ok_law_draw T) T.g__law_draw T.F__law_draw.kp T.b__law_draw (Nat.le_of_ble_eq_true rfl) (jea_of (ja_cons jn_int ja_nil)))) fun s1030 => jea_nil)))))) (fun _ => trivial)
 (jb_cons (js_set 7 sc__law_wrong.nd (jn_call (ok_law_steps_of T) T.g__law_steps_of T.F__law_steps_of.kp T.b__law_steps_of (Nat.le_of_ble_eq_true rfl) (ja_cons (jn_var (E := (t4S (prS intS (tupS (prS intS intS))) (lstS (lstS boolS)) (lstS intS) (lstS (lstS intS)))) (a := a.1) 1) (ja_cons (jn_var (E := (t4S (prS intS (tupS (prS intS intS))) (lstS (lstS boolS)) (lstS intS) (lstS (lstS intS)))) (a := a.2.1) 2) (ja_cons (jn_var (E := (tupS intS)) (a := a.2.2.1) 3) (ja_cons (jn_var (E := strS) (a := a979.1) 6) ja_nil)))))) fun a1034 =>
 jb_ifr (jt_cmp oEq ov_eqI (len_lst T.m_len (jn_var (E := (lstS (prS intS intS))) (a := a1034) 7)) jn_int) (jb_retS (R := (fun x => sh ((prS intS intS) x))) (Δ := fun s => some (h0O s) :: nonC 9) (s := a979.2) (weak_mask [true, false, false, false, false, false, false, false, false, false] _) (jn_tupG (P := (prS intS intS)) (g := fun z => (z.1, z.2.1)) (ja_cons (jn_var (E := intS) (a := a965) 4) (ja_cons jn_int ja_nil)))) (fun _ => trivial)
 (jb_retE (R := (fun x => sh ((prS intS intS) x))) (Γ := fun s1035 : ((List Int) × Int × Int × Int × Int × (List Int)) => [some (h0O s1035), some (sh ((t4S (prS intS (tupS (prS intS intS))) (lstS (lstS boolS)) (lstS intS) (lstS (lstS intS))) a.1)), some (sh ((t4S (prS intS (tupS (prS intS intS))) (lstS (lstS boolS)) (lstS intS) (lstS (lstS intS))) a.2.1)), some (sh ((tupS intS) a.2.2.1)), some (sh (intS a965)), some (sh (intS a966)), some (sh (strS a979.1)), some (sh ((lstS (prS intS intS)) a1034)), none, none]) (s := a979.2) (Δ := fun s => some (h0O s) :: nonC 9) (fun _ => (weak_mask [true, false, false, false, false, false, false, false, false, false] _)) (je_ix oIxL iv_lst (je_of (jn_var (E := (lstS (prS intS intS))) (a := a1034) 7)) fun s1036 => (je_callS (O := h0O) 0 (fun s => s) (fun s u => u) (ok_law_draw T) T.g__law_draw T.F__law_draw.kp T.b__law_draw (Nat.le_of_ble_eq_true rfl) (jea_of (ja_cons (len_lst T.m_len (jn_var (E := (lstS (prS intS intS))) (a := a1034) 7)) ja_nil))))))) (by unfold M_law_wrong; first | (dsimp only [CC.sb]; done) | (dsimp only [CC.sb]; rfl) | rfl)
def M_law (a : (List Int) × Unit) : Option Bool :=
 (M_law_start (a.1, ())).bind fun a19 => (((M_law_draw ((16 : Int), ()) a19).bind fun r95 => some (r95.1, r95.2)).bind fun q97 => some (decide (q97.1 = (0 : Int)), q97.2)).bind fun q1073 => bif q1073.1 then ((M_law_large_right () q1073.2).bind fun r648 => some (r648.1, r648.2)).bind fun q649 => some q649.1 else ((M_law_orders () q1073.2).bind fun r770 => some (r770.1, r770.2)).bind fun a771 => (((M_law_map (a771.1.1, (a771.1.2, ())) a771.2).bind fun r810 => some (r810.1, r810.2)).bind fun q811 => some (q811.1, q811.2)).bind fun a812 => ((((((atI [(6 : Int), (2 : Int)] (CC.b2i (decide ((12 : Int) < (a812.1.length : Int))))).bind fun x819 => some (x819, ())).bind fun x821 => some (x821, a812.2)).bind fun q822 => (M_law_draw q822.1 q822.2).bind fun r823 => some (r823.1, r823.2)).bind fun q824 => (rng 0 q824.1).bind fun r825 => some (r825, q824.2)).bind fun q924 => foldGo (fun x827 s828 => (((((atI s828.2.1 (s828.2.2.length : Int)).bind fun x889 => some (x889, ((Str.ofString "good"), ()))).bind fun y890 => some (a771.1.2, y890)).bind fun y891 => some (a771.1.1, y891)).bind fun z892 => M_law_steps_of z892).bind fun a893 => (bif decide ((0 : Int) < (a893.length : Int)) then (((M_law_draw ((a893.length : Int), ()) s828.1).bind fun r911 => some (r911.1, r911.2)).bind fun q912 => (atI a893 q912.1).bind fun z913 => some (z913, q912.2)).bind fun a914 => (((((atI s828.2.1 (s828.2.2.length : Int)).bind fun x915 => some (cutL x915 none (some a914.1.1))).bind fun x916 => catM x916 [a914.1.2]).bind fun x918 => ((atI s828.2.1 (s828.2.2.length : Int)).bind fun x917 => some (cutL x917 (some (a914.1.1 + (1 : Int))) none)).bind fun x919 => catM x918 x919).bind fun x920 => appM s828.2.1 x920).bind fun a921 => (appM s828.2.2 (a914.1.1, a914.1.2)).bind fun a922 => some (a914.2, a921, a922) else some (s828.1, s828.2.1, s828.2.2)).bind fun a923 => some (a923.1, a923.2.1, a923.2.2)) q924.1 (q924.2, [a812.1], [])).bind fun a925 => ((((M_law_asked (a771.1.1, (a771.1.2, (a812.1, (a925.2.2, (false, ())))))).bind fun x931 => ((((((atI a925.2.1 (a925.2.2.length : Int)).bind fun x926 => some (x926, ())).bind fun y927 => some ((Str.ofString "told"), y927)).bind fun z928 => some (z928.1, z928.2.1)).bind fun x929 => some (PV.tup [PV.str x929.1, PV.tup (x929.2.map PV.int)])).bind fun x932 => some (x932, ())).bind fun y933 => some (x931, y933)).bind fun z934 => M_law_same 6 z934).bind fun x935 => some (!x935)).bind fun x1072 => bif x1072 then some false else ((M_law_draw ((a925.2.2.length : Int) + (1 : Int), ()) a925.1).bind fun r937 => some (r937.1, r937.2)).bind fun a938 => ((((M_law_asked (a771.1.1, (a771.1.2, (a812.1, (cutL a925.2.2 none (some a938.1), (true, ())))))).bind fun x944 => ((((((atI a925.2.1 a938.1).bind fun x939 => some (x939, ())).bind fun y940 => some ((Str.ofString "told"), y940)).bind fun z941 => some (z941.1, z941.2.1)).bind fun x942 => some (PV.tup [PV.str x942.1, PV.tup (x942.2.map PV.int)])).bind fun x945 => some (x945, ())).bind fun y946 => some (x944, y946)).bind fun z947 => M_law_same 6 z947).bind fun x948 => some (!x948)).bind fun x1071 => bif x1071 then some false else (((atI [(3 : Int), (1 : Int)] (CC.b2i (decide ((12 : Int) < (a812.1.length : Int))))).bind fun x951 => rng 0 x951).bind fun x1067 => loopGo (fun x953 s954 => ((M_law_draw ((a925.2.2.length : Int) + (1 : Int), ()) s954).bind fun r956 => some (r956.1, r956.2)).bind fun a957 => ((((((((((atI a925.2.1 a957.1).bind fun x960 => some (x960, ())).bind fun y961 => some (a771.1.2, y961)).bind fun y962 => some (a771.1.1, y962)).bind fun x964 => some (x964, a957.2)).bind fun q1041 => (M_law_wrong q1041.1 q1041.2).bind fun r1042 => some (r1042.1, r1042.2)).bind fun q1044 => some ((q1044.1, ()), q1044.2)).bind fun q1045 => some ([q1045.1.1], q1045.2)).bind fun q1046 => (catM (cutL a925.2.2 none (some a957.1)) q1046.1).bind fun z1047 => some (z1047, q1046.2)).bind fun q1049 => (catM q1049.1 (cutL a925.2.2 (some a957.1) none)).bind fun z1050 => some (z1050, q1049.2)).bind fun a1051 => ((((M_law_draw ((2 : Int), ()) a1051.2).bind fun r1053 => some (r1053.1, r1053.2)).bind fun q1055 => some (decide (q1055.1 = (0 : Int)), q1055.2)).bind fun q1060 => bif q1060.1 then (appM a1051.1 ((a812.1.length : Int), (0 : Int))).bind fun a1059 => some (q1060.2, a1059) else some (q1060.2, a1051.1)).bind fun a1061 => ((((M_law_asked (a771.1.1, (a771.1.2, (a812.1, (a1061.2, (decide (x953 = (1 : Int)), ())))))).bind fun x1062 => some (x1062, (PV.lst [PV.str (Str.ofString "step"), PV.int a957.1, PV.bl true], ()))).bind fun z1063 => M_law_same 6 z1063).bind fun x1064 => some (!x1064)).bind fun x1066 => bif x1066 then (some false).bind fun y1065 => some (Out.rt y1065) else some (Out.nx a1061.1)) x1067 a938.2).bind fun o1069 => o1069.k (fun a1068 => some true) fun r1070 => some ((fun r => r) r1070)
theorem ok_law (T : Tx P K mg) : FnOk P w K mg base CX0 9 T.a_law T.d_law ["script"] (spP (fun a : (List Int) × Unit => [(scrS K) a.1]) M_law (fun x => sh (boolS x))) :=
 fnd_pure (Δ := nonC 15) T.F_law sc_law (fun _ => rfl) (by decide) fun a => JB.cong (
 jb_cons (js_set 1 sc_law.nd (jn_call (ok_law_start T) T.g__law_start T.F__law_start.kp T.b__law_start (Nat.le_of_ble_eq_true rfl) (ja_cons (jn_var (E := (scrS K)) (a := a.1) 0) ja_nil))) fun a19 =>
 jb_ifrE (Γ := fun s20 : ((List Int) × Int × Int × Int × Int × (List Int)) => [some (sh ((scrS K) a.1)), some (h0O s20), none, none, none, none, none, none, none, none, none, none, none, none, none]) (s := a19) (jte_cmp oEq ov_eqI (je_callS (O := h0O) 1 (fun s => s) (fun s u => u) (ok_law_draw T) T.g__law_draw T.F__law_draw.kp T.b__law_draw (Nat.le_of_ble_eq_true rfl) (jea_of (ja_cons jn_int ja_nil))) fun s96 => (je_of jn_int)) (fun s98 => JB.map (g := fun q => q.1) (jb_retE (R := (fun x => sh (boolS x))) (Γ := fun s99 : ((List Int) × Int × Int × Int × Int × (List Int)) => [some (sh ((scrS K) a.1)), some (h0O s99), none, none, none, none, none, none, none, none, none, none, none, none, none]) (s := s98) (Δ := fun _ => nonC 15) (fun _ => weak_none _) (je_callS (O := h0O) 1 (fun s => s) (fun s u => u) (ok_law_large_right T) T.g__law_large_right T.F__law_large_right.kp T.b__law_large_right (Nat.le_of_ble_eq_true rfl) jea_nil)) (fun _ => rfl)) (fun _ => trivial) fun s98 =>
 jb_cons (js_asgE (Γ := fun s650 : ((List Int) × Int × Int × Int × Int × (List Int)) => [some (sh ((scrS K) a.1)), some (h0O s650), none, none, none, none, none, none, none, none, none, none, none, none, none]) (s := s98) (je_callS (O := h0O) 1 (fun s => s) (fun s u => u) (ok_law_orders T) T.g__law_orders T.F__law_orders.kp T.b__law_orders (Nat.le_of_ble_eq_true rfl) jea_nil) (jg_pair (E := (t4S (prS intS (tupS (prS intS intS))) (lstS (lstS boolS)) (lstS intS) (lstS (lstS intS)))) (G := (t4S (prS intS (tupS (prS intS intS))) (lstS (lstS boolS)) (lstS intS) (lstS (lstS intS)))) 8 9 sc_law.nd) (fun _ => all_lt rfl)) fun a771 =>
 jb_cons (js_setE (Γ := fun s772 : ((List Int) × Int × Int × Int × Int × (List Int)) => [some (sh ((scrS K) a.1)), some (h0O s772), none, none, none, none, none, none, some (sh ((t4S (prS intS (tupS (prS intS intS))) (lstS (lstS boolS)) (lstS intS) (lstS (lstS intS))) a771.1.1)), some (sh ((t4S (prS intS (tupS (prS intS intS))) (lstS (lstS boolS)) (lstS intS) (lstS (lstS intS))) a771.1.2)), none, none, none, none, none]) (s := a771.2) 2 sc_law.nd (je_tup T.m_tuple (JE.frz (fz_lst (fun _ => fz_sh)) (je_callS (O := h0O) 1 (fun s => s) (fun s u => u) (ok_law_map T) T.g__law_map T.F__law_map.kp T.b__law_map (Nat.le_of_ble_eq_true rfl) (jea_of (ja_cons (jn_var (E := (t4S (prS intS (tupS (prS intS intS))) (lstS (lstS boolS)) (lstS intS) (lstS (lstS intS)))) (a := a771.1.1) 8) (ja_cons (jn_var (E := (t4S (prS intS (tupS (prS intS intS))) (lstS (lstS boolS)) (lstS intS) (lstS (lstS intS)))) (a := a771.1.2) 9) ja_nil))))))) fun a812 =>
 jb_cons (js_set 3 sc_law.nd (jn_dispL (E := (tupS intS)) (g := fun z => [z.1]) (ja_cons (jn_var (E := (tupS intS)) (a := a812.1) 2) ja_nil))) fun a814 =>
 jb_cons (js_set 4 sc_law.nd (jn_nilLO (E := (fun x => sh ((prS intS intS) x))))) fun a815 =>
 jb_cons (js_forSE (Γ := fun s816 : ((List Int) × Int × Int × Int × Int × (List Int)) => [some (sh ((scrS K) a.1)), some (h0O s816), some (sh ((tupS intS) a812.1)), some ((lstO (fun x => sh ((tupS intS) x))) a814), some ((lstO (fun x => sh ((prS intS intS) x))) a815), none, none, none, some (sh ((t4S (prS intS (tupS (prS intS intS))) (lstS (lstS boolS)) (lstS intS) (lstS (lstS intS))) a771.1.1)), some (sh ((t4S (prS intS (tupS (prS intS intS))) (lstS (lstS boolS)) (lstS intS) (lstS (lstS intS))) a771.1.2)), none, none, none, none, none]) (s := a812.2) (Γl := fun s826 : ((List Int) × Int × Int × Int × Int × (List Int)) × (List (List Int)) × (List (Int × Int)) => [some (sh ((scrS K) a.1)), some (h0O s826.1), some (sh ((tupS intS) a812.1)), some ((lstO (fun x => sh ((tupS intS) x))) s826.2.1), some ((lstO (fun x => sh ((prS intS intS) x))) s826.2.2), none, none, none, some (sh ((t4S (prS intS (tupS (prS intS intS))) (lstS (lstS boolS)) (lstS intS) (lstS (lstS intS))) a771.1.1)), some (sh ((t4S (prS intS (tupS (prS intS intS))) (lstS (lstS boolS)) (lstS intS) (lstS (lstS intS))) a771.1.2)), none, none, none, none, none]) (fun t => (t, a814, a815)) (jie_rng1 T.m_range (je_callS (O := h0O) 1 (fun s => s) (fun s u => u) (ok_law_draw T) T.g__law_draw T.F__law_draw.kp T.b__law_draw (Nat.le_of_ble_eq_true rfl) (jea_of (ja_cons (jn_of (jr_ix oIxL iv_lstO (jr_of (jn_dispL (E := intS) (g := fun z => [z.1, z.2.1]) (ja_cons jn_int (ja_cons jn_int ja_nil)))) (int_bool T.m_int (jn_cmp oGt ov_gt (len_tup T.m_len (jn_var (E := (tupS intS)) (a := a812.1) 2)) jn_int)))) ja_nil)))) (jg_name (E := intS) 5 sc_law.nd) (fun _ => (weak_mask [true, true, true, true, true, false, false, false, true, true, false, false, false, false, false] _)) (fun _ => all_lt rfl) fun x827 s828 =>
 jb_cons (js_set 10 sc_law.nd (jn_call (ok_law_steps_of T) T.g__law_steps_of T.F__law_steps_of.kp T.b__law_steps_of (Nat.le_of_ble_eq_true rfl) (ja_cons (jn_var (E := (t4S (prS intS (tupS (prS intS intS))) (lstS (lstS boolS)) (lstS intS) (lstS (lstS intS)))) (a := a771.1.1) 8) (ja_cons (jn_var (E := (t4S (prS intS (tupS (prS intS intS))) (lstS (lstS boolS)) (lstS intS) (lstS (lstS intS)))) (a := a771.1.2) 9) (ja_cons (jn_of (jr_ix oIxL iv_lstO (jr_var (R := (lstO (fun x => sh ((tupS intS) x)))) (a := s828.2.1) 3) (len_lstO T.m_len (jr_var (R := (lstO (fun x => sh ((prS intS intS) x)))) (a := s828.2.2) 4)))) (ja_cons jn_str ja_nil)))))) fun a893 =>
 jb_cons (js_if (jt_cmp oGt ov_gt (len_lst T.m_len (jn_var (E := (lstS (prS intS intS))) (a := a893) 10)) jn_int) (D := fun v => Kd.nx ((fun v908 : ((List Int) × Int × Int × Int × Int × (List Int)) × (List (List Int)) × (List (Int × Int)) => [some (sh ((scrS K) a.1)), some (h0O v908.1), some (sh ((tupS intS) a812.1)), some ((lstO (fun x => sh ((tupS intS) x))) v908.2.1), some ((lstO (fun x => sh ((prS intS intS) x))) v908.2.2), some (sh (intS x827)), none, none, some (sh ((t4S (prS intS (tupS (prS intS intS))) (lstS (lstS boolS)) (lstS intS) (lstS (lstS intS))) a771.1.1)), some (sh ((t4S (prS intS (tupS (prS intS intS))) (lstS (lstS boolS)) (lstS intS) (lstS (lstS intS))) a771.1.2)), some (sh ((lstS (prS intS intS)) a893)), none, none, none, none]) v)) (jb_cons (js_asgE (Γ := fun s909 : ((List Int) × Int × Int × Int × Int × (List Int)) => [some (sh ((scrS K) a.1)), some (h0O s909), some (sh ((tupS intS) a812.1)), some ((lstO (fun x => sh ((tupS intS) x))) s828.2.1), some ((lstO (fun x => sh ((prS intS intS) x))) s828.2.2), some (sh (intS x827)), none, none, some (sh ((t4S (prS intS (tupS (prS intS intS))) (lstS (lstS boolS)) (lstS intS) (lstS (lstS intS))) a771.1.1)), some (sh ((t4S (prS intS (tupS (prS intS intS))) (lstS (lstS boolS)) (lstS intS) (lstS (lstS intS))) a771.1.2)), some (sh ((lstS (prS intS intS)) a893)), none, none, none, none]) (s := s828.1) (je_ix oIxL iv_lst (je_of (jn_var (E := (lstS (prS intS intS))) (a := a893) 10)) fun s910 => (je_callS (O := h0O) 1 (fun s => s) (fun s u => u) (ok_law_draw T) T.g__law_draw T.F__law_draw.kp T.b__law_draw (Nat.le_of_ble_eq_true rfl) (jea_of (ja_cons (len_lst T.m_len (jn_var (E := (lstS (prS intS intS))) (a := a893) 10)) ja_nil)))) (jg_pair (E := intS) (G := intS) 13 14 sc_law.nd) (fun _ => all_lt rfl)) fun a914 =>
 jb_cons (js_app (E := (fun x => sh ((tupS intS) x))) 3 (jn_bin oCatT ov_catT (jn_bin oCatT ov_catT (jn_slT (jn_of (jr_ix oIxL iv_lstO (jr_var (R := (lstO (fun x => sh ((tupS intS) x)))) (a := s828.2.1) 3) (len_lstO T.m_len (jr_var (R := (lstO (fun x => sh ((prS intS intS) x)))) (a := s828.2.2) 4)))) jo_none (jo_some (jn_var (E := intS) (a := a914.1.1) 13))) (jn_dispT (E := intS) (g := fun z => [z.1]) (ja_cons (jn_var (E := intS) (a := a914.1.2) 14) ja_nil))) (jn_slT (jn_of (jr_ix oIxL iv_lstO (jr_var (R := (lstO (fun x => sh ((tupS intS) x)))) (a := s828.2.1) 3) (len_lstO T.m_len (jr_var (R := (lstO (fun x => sh ((prS intS intS) x)))) (a := s828.2.2) 4)))) (jo_some (jn_bin oAdd ov_add (jn_var (E := intS) (a := a914.1.1) 13) jn_int)) jo_none))) fun a921 =>
 jb_cons (js_app (E := (fun x => sh ((prS intS intS) x))) 4 (jn_tupG (P := (prS intS intS)) (g := fun z => (z.1, z.2.1)) (ja_cons (jn_var (E := intS) (a := a914.1.1) 13) (ja_cons (jn_var (E := intS) (a := a914.1.2) 14) ja_nil)))) fun a922 =>
 jb_nil (x := (a914.2, a921, a922)) rfl (weak_mask [true, true, true, true, true, true, false, false, true, true, true, false, false, false, false] _)) (jb_nil (x := (s828.1, s828.2.1, s828.2.2)) rfl (weak_mask [true, true, true, true, true, true, false, false, true, true, true, false, false, false, false] _))) fun a923 =>
 jb_nil (x := (a923.1, a923.2.1, a923.2.2)) rfl (weak_mask [true, true, true, true, true, false, false, false, true, true, false, false, false, false, false] _)) fun a925 =>
 jb_ifr (jt_not (jt_val (jn_thaw (i := 4) (o := (lstO (fun x => sh ((prS intS intS) x))) a925.2.2) (p := (lstS (prS intS intS)) a925.2.2) flat_bool rfl ((fz_lst (fun _ => fz_sh)) _) (jn_call (ok_law_same T 6) T.g__law_same T.F__law_same.kp T.b__law_same (Nat.le_of_ble_eq_true rfl) (ja_cons (jn_call (ok_law_asked T) T.g__law_asked T.F__law_asked.kp T.b__law_asked (Nat.le_of_ble_eq_true rfl) (ja_cons (jn_var (E := (t4S (prS intS (tupS (prS intS intS))) (lstS (lstS boolS)) (lstS intS) (lstS (lstS intS)))) (a := a771.1.1) 8) (ja_cons (jn_var (E := (t4S (prS intS (tupS (prS intS intS))) (lstS (lstS boolS)) (lstS intS) (lstS (lstS intS)))) (a := a771.1.2) 9) (ja_cons (jn_var (E := (tupS intS)) (a := a812.1) 2) (ja_cons (jn_var (E := (lstS (prS intS intS))) (a := a925.2.2) 4) (ja_cons jn_bl ja_nil)))))) (ja_cons (jn_any (ao_pr ao_str (ao_tup ao_int)) (jn_tupG (P := (prS strS (tupS intS))) (g := fun z => (z.1, z.2.1)) (ja_cons jn_str (ja_cons (jn_of (jr_ix oIxL iv_lstO (jr_var (R := (lstO (fun x => sh ((tupS intS) x)))) (a := a925.2.1) 3) (len_lst T.m_len (jn_var (E := (lstS (prS intS intS))) (a := a925.2.2) 4)))) ja_nil)))) ja_nil)))))) (jb_ret (weak_none _) jn_bl) (fun _ => trivial)
 (jb_cons (js_setE (Γ := fun s936 : ((List Int) × Int × Int × Int × Int × (List Int)) => [some (sh ((scrS K) a.1)), some (h0O s936), some (sh ((tupS intS) a812.1)), some ((lstO (fun x => sh ((tupS intS) x))) a925.2.1), some ((lstO (fun x => sh ((prS intS intS) x))) a925.2.2), none, none, none, some (sh ((t4S (prS intS (tupS (prS intS intS))) (lstS (lstS boolS)) (lstS intS) (lstS (lstS intS))) a771.1.1)), some (sh ((t4S (prS intS (tupS (prS intS intS))) (lstS (lstS boolS)) (lstS intS) (lstS (lstS intS))) a771.1.2)), none, none, none, none, none]) (s := a925.1) 6 sc_law.nd (je_callS (O := h0O) 1 (fun s => s) (fun s u => u) (ok_law_draw T) T.g__law_draw T.F__law_draw.kp T.b__law_draw (Nat.le_of_ble_eq_true rfl) (jea_of (ja_cons (jn_bin oAdd ov_add (len_lstO T.m_len (jr_var (R := (lstO (fun x => sh ((prS intS intS) x)))) (a := a925.2.2) 4)) jn_int) ja_nil)))) fun a938 =>
 jb_ifr (jt_not (jt_val (jn_call (ok_law_same T 6) T.g__law_same T.F__law_same.kp T.b__law_same (Nat.le_of_ble_eq_true rfl) (ja_cons (jn_call (ok_law_asked T) T.g__law_asked T.F__law_asked.kp T.b__law_asked (Nat.le_of_ble_eq_true rfl) (ja_cons (jn_var (E := (t4S (prS intS (tupS (prS intS intS))) (lstS (lstS boolS)) (lstS intS) (lstS (lstS intS)))) (a := a771.1.1) 8) (ja_cons (jn_var (E := (t4S (prS intS (tupS (prS intS intS))) (lstS (lstS boolS)) (lstS intS) (lstS (lstS intS)))) (a := a771.1.2) 9) (ja_cons (jn_var (E := (tupS intS)) (a := a812.1) 2) (ja_cons (JN.frz (fz_lst (fun _ => fz_sh)) (jn_slO (jr_var (R := (lstO (fun x => sh ((prS intS intS) x)))) (a := a925.2.2) 4) jo_none (jo_some (jn_var (E := intS) (a := a938.1) 6)))) (ja_cons jn_bl ja_nil)))))) (ja_cons (jn_any (ao_pr ao_str (ao_tup ao_int)) (jn_tupG (P := (prS strS (tupS intS))) (g := fun z => (z.1, z.2.1)) (ja_cons jn_str (ja_cons (jn_of (jr_ix oIxL iv_lstO (jr_var (R := (lstO (fun x => sh ((tupS intS) x)))) (a := a925.2.1) 3) (jn_var (E := intS) (a := a938.1) 6))) ja_nil)))) ja_nil))))) (jb_ret (weak_none _) jn_bl) (fun _ => trivial)
 (jb_consO (Γl := fun s952 : ((List Int) × Int × Int × Int × Int × (List Int)) => [some (sh ((scrS K) a.1)), some (h0O s952), some (sh ((tupS intS) a812.1)), some ((lstO (fun x => sh ((tupS intS) x))) a925.2.1), some ((lstO (fun x => sh ((prS intS intS) x))) a925.2.2), none, some (sh (intS a938.1)), none, some (sh ((t4S (prS intS (tupS (prS intS intS))) (lstS (lstS boolS)) (lstS intS) (lstS (lstS intS))) a771.1.1)), some (sh ((t4S (prS intS (tupS (prS intS intS))) (lstS (lstS boolS)) (lstS intS) (lstS (lstS intS))) a771.1.2)), none, none, none, none, none]) (T := fun r : Bool => Kd.rt (nonC 15) ((fun x => sh (boolS x)) r)) (fun r => r) (js_for (Γl := fun s952 : ((List Int) × Int × Int × Int × Int × (List Int)) => [some (sh ((scrS K) a.1)), some (h0O s952), some (sh ((tupS intS) a812.1)), some ((lstO (fun x => sh ((tupS intS) x))) a925.2.1), some ((lstO (fun x => sh ((prS intS intS) x))) a925.2.2), none, some (sh (intS a938.1)), none, some (sh ((t4S (prS intS (tupS (prS intS intS))) (lstS (lstS boolS)) (lstS intS) (lstS (lstS intS))) a771.1.1)), some (sh ((t4S (prS intS (tupS (prS intS intS))) (lstS (lstS boolS)) (lstS intS) (lstS (lstS intS))) a771.1.2)), none, none, none, none, none]) (T := fun r : Bool => Kd.rt (nonC 15) ((fun x => sh (boolS x)) r)) a938.2 (ji_rng1 T.m_range (jn_of (jr_ix oIxL iv_lstO (jr_of (jn_dispL (E := intS) (g := fun z => [z.1, z.2.1]) (ja_cons jn_int (ja_cons jn_int ja_nil)))) (int_bool T.m_int (jn_cmp oGt ov_gt (len_tup T.m_len (jn_var (E := (tupS intS)) (a := a812.1) 2)) jn_int))))) (jg_name (E := intS) 7 sc_law.nd) (weak_mask [true, true, true, true, true, false, true, false, true, true, false, false, false, false, false] _) (fun _ => all_lt rfl) (fun _ => ⟨trivial, nofun, nofun⟩) fun x953 s954 =>
 jb_cons (js_setE (Γ := fun s955 : ((List Int) × Int × Int × Int × Int × (List Int)) => [some (sh ((scrS K) a.1)), some (h0O s955), some (sh ((tupS intS) a812.1)), some ((lstO (fun x => sh ((tupS intS) x))) a925.2.1), some ((lstO (fun x => sh ((prS intS intS) x))) a925.2.2), none, some (sh (intS a938.1)), some (sh (intS x953)), some (sh ((t4S (prS intS (tupS (prS intS intS))) (lstS (lstS boolS)) (lstS intS) (lstS (lstS intS))) a771.1.1)), some (sh ((t4S (prS intS (tupS (prS intS intS))) (lstS (lstS boolS)) (lstS intS) (lstS (lstS intS))) a771.1.2)), none, none, none, none, none]) (s := s954) 11 sc_law.nd (je_callS (O := h0O) 1 (fun s => s) (fun s u => u) (ok_law_draw T) T.g__law_draw T.F__law_draw.kp T.b__law_draw (Nat.le_of_ble_eq_true rfl) (jea_of (ja_cons (jn_bin oAdd ov_add (len_lstO T.m_len (jr_var (R := (lstO (fun x => sh ((prS intS intS) x)))) (a := a925.2.2) 4)) jn_int) ja_nil)))) fun a957 =>
 jb_cons (js_setE (Γ := fun s958 : ((List Int) × Int × Int × Int × Int × (List Int)) => [some (sh ((scrS K) a.1)), some (h0O s958), some (sh ((tupS intS) a812.1)), some ((lstO (fun x => sh ((tupS intS) x))) a925.2.1), some ((lstO (fun x => sh ((prS intS intS) x))) a925.2.2), none, some (sh (intS a938.1)), some (sh (intS x953)), some (sh ((t4S (prS intS (tupS (prS intS intS))) (lstS (lstS boolS)) (lstS intS) (lstS (lstS intS))) a771.1.1)), some (sh ((t4S (prS intS (tupS (prS intS intS))) (lstS (lstS boolS)) (lstS intS) (lstS (lstS intS))) a771.1.2)), none, some (sh (intS a957.1)), none, none, none]) (s := a957.2) 12 sc_law.nd (je_bin oCat ov_cat (JE.frz (fz_lst (fun _ => fz_sh)) (je_bin oCat ov_cat (JE.frz (fz_lst (fun _ => fz_sh)) (je_of (jn_slO (jr_var (R := (lstO (fun x => sh ((prS intS intS) x)))) (a := a925.2.2) 4) jo_none (jo_some (jn_var (E := intS) (a := a957.1) 11))))) fun s959 => (JE.frz (fz_lst (fun _ => fz_sh)) (je_dispL (E := (prS intS intS)) (g := fun z => [z.1]) (jea_cons (je_callS (O := h0O) 1 (fun s => s) (fun s u => u) (ok_law_wrong T) T.g__law_wrong T.F__law_wrong.kp T.b__law_wrong (Nat.le_of_ble_eq_true rfl) (jea_of (ja_cons (jn_var (E := (t4S (prS intS (tupS (prS intS intS))) (lstS (lstS boolS)) (lstS intS) (lstS (lstS intS)))) (a := a771.1.1) 8) (ja_cons (jn_var (E := (t4S (prS intS (tupS (prS intS intS))) (lstS (lstS boolS)) (lstS intS) (lstS (lstS intS)))) (a := a771.1.2) 9) (ja_cons (jn_of (jr_ix oIxL iv_lstO (jr_var (R := (lstO (fun x => sh ((tupS intS) x)))) (a := a925.2.1) 3) (jn_var (E := intS) (a := a957.1) 11))) ja_nil))))) fun s1043 => jea_nil))))) fun s1048 => (JE.frz (fz_lst (fun _ => fz_sh)) (je_of (jn_slO (jr_var (R := (lstO (fun x => sh ((prS intS intS) x)))) (a := a925.2.2) 4) (jo_some (jn_var (E := intS) (a := a957.1) 11)) jo_none))))) fun a1051 =>
 jb_cons (js_ifE (Γ := fun s1052 : ((List Int) × Int × Int × Int × Int × (List Int)) => [some (sh ((scrS K) a.1)), some (h0O s1052), some (sh ((tupS intS) a812.1)), some ((lstO (fun x => sh ((tupS intS) x))) a925.2.1), some ((lstO (fun x => sh ((prS intS intS) x))) a925.2.2), none, some (sh (intS a938.1)), some (sh (intS x953)), some (sh ((t4S (prS intS (tupS (prS intS intS))) (lstS (lstS boolS)) (lstS intS) (lstS (lstS intS))) a771.1.1)), some (sh ((t4S (prS intS (tupS (prS intS intS))) (lstS (lstS boolS)) (lstS intS) (lstS (lstS intS))) a771.1.2)), none, some (sh (intS a957.1)), some ((lstO (fun x => sh ((prS intS intS) x))) a1051.1), none, none]) (s := a1051.2) (jte_cmp oEq ov_eqI (je_callS (O := h0O) 1 (fun s => s) (fun s u => u) (ok_law_draw T) T.g__law_draw T.F__law_draw.kp T.b__law_draw (Nat.le_of_ble_eq_true rfl) (jea_of (ja_cons jn_int ja_nil))) fun s1054 => (je_of jn_int)) (D := fun v => Kd.nx ((fun v1058 : ((List Int) × Int × Int × Int × Int × (List Int)) × (List (Int × Int)) => [some (sh ((scrS K) a.1)), some (h0O v1058.1), some (sh ((tupS intS) a812.1)), some ((lstO (fun x => sh ((tupS intS) x))) a925.2.1), some ((lstO (fun x => sh ((prS intS intS) x))) a925.2.2), none, some (sh (intS a938.1)), some (sh (intS x953)), some (sh ((t4S (prS intS (tupS (prS intS intS))) (lstS (lstS boolS)) (lstS intS) (lstS (lstS intS))) a771.1.1)), some (sh ((t4S (prS intS (tupS (prS intS intS))) (lstS (lstS boolS)) (lstS intS) (lstS (lstS intS))) a771.1.2)), none, some (sh (intS a957.1)), some ((lstO (fun x => sh ((prS intS intS) x))) v1058.2), none, none]) v)) (fun s1056 => jb_cons (js_app (E := (fun x => sh ((prS intS intS) x))) 12 (jn_tupG (P := (prS intS intS)) (g := fun z => (z.1, z.2.1)) (ja_cons (len_tup T.m_len (jn_var (E := (tupS intS)) (a := a812.1) 2)) (ja_cons jn_int ja_nil)))) fun a1059 =>
 jb_nil (x := (s1056, a1059)) rfl (weak_mask [true, true, true, true, true, false, true, true, true, true, false, true, true, false, false] _)) fun s1056 => jb_nil (x := (s1056, a1051.1)) rfl (weak_mask [true, true, true, true, true, false, true, true, true, true, false, true, true, false, false] _)) fun a1061 =>
 jb_ifx (D' := (fun r : Bool => Kd.rt (nonC 15) ((fun x => sh (boolS x)) r))) Out.rt (jt_not (jt_val (jn_thaw (i := 12) (o := (lstO (fun x => sh ((prS intS intS) x))) a1061.2) (p := (lstS (prS intS intS)) a1061.2) flat_bool rfl ((fz_lst (fun _ => fz_sh)) _) (jn_call (ok_law_same T 6) T.g__law_same T.F__law_same.kp T.b__law_same (Nat.le_of_ble_eq_true rfl) (ja_cons (jn_call (ok_law_asked T) T.g__law_asked T.F__law_asked.kp T.b__law_asked (Nat.le_of_ble_eq_true rfl) (ja_cons (jn_var (E := (t4S (prS intS (tupS (prS intS intS))) (lstS (lstS boolS)) (lstS intS) (lstS (lstS intS)))) (a := a771.1.1) 8) (ja_cons (jn_var (E := (t4S (prS intS (tupS (prS intS intS))) (lstS (lstS boolS)) (lstS intS) (lstS (lstS intS)))) (a := a771.1.2) 9) (ja_cons (jn_var (E := (tupS intS)) (a := a812.1) 2) (ja_cons (jn_var (E := (lstS (prS intS intS))) (a := a1061.2) 12) (ja_cons (jn_cmp oEq ov_eqI (jn_var (E := intS) (a := x953) 7) jn_int) ja_nil)))))) (ja_cons (jn_any (ao_l3 ao_str ao_int ao_bool) (jn_hlS (T := (l3S strS intS boolS)) (g := fun z => (z.1, z.2.1, z.2.2.1)) (ja_cons jn_str (ja_cons (jn_var (E := intS) (a := a957.1) 11) (ja_cons jn_bl ja_nil))))) ja_nil)))))) (jb_ret (weak_none _) jn_bl) (fun _ => rfl) (fun _ => trivial)
 (jb_nil (x := Out.nx a1061.1) rfl (weak_mask [true, true, true, true, true, false, true, false, true, true, false, false, false, false, false] _))) (fun _ => rfl) (fun _ => trivial) fun a1068 =>
 jb_ret (weak_none _) jn_bl))) (by unfold M_law; first | (dsimp only [CC.sb]; done) | (dsimp only [CC.sb]; rfl) | rfl)
end
def dd__law_start : He.DefD := ⟨("_law_start", none), "_law_start", "_law_start", defArgs s__law_start, defBody s__law_start, defScope s__law_start, [], []⟩
def dd__law_mixed : He.DefD := ⟨("_law_mixed", none), "_law_mixed", "_law_mixed", defArgs s__law_mixed, defBody s__law_mixed, defScope s__law_mixed, [], []⟩
def dd__law_draw : He.DefD := ⟨("_law_draw", none), "_law_draw", "_law_draw", defArgs s__law_draw, defBody s__law_draw, defScope s__law_draw, [], []⟩
def dd__law_size : He.DefD := ⟨("_law_size", none), "_law_size", "_law_size", defArgs s__law_size, defBody s__law_size, defScope s__law_size, [], []⟩
def dd__law_lows : He.DefD := ⟨("_law_lows", none), "_law_lows", "_law_lows", defArgs s__law_lows, defBody s__law_lows, defScope s__law_lows, [], []⟩
def dd__law_order : He.DefD := ⟨("_law_order", none), "_law_order", "_law_order", defArgs s__law_order, defBody s__law_order, defScope s__law_order, [], []⟩
def dd__law_steep : He.DefD := ⟨("_law_steep", none), "_law_steep", "_law_steep", defArgs s__law_steep, defBody s__law_steep, defScope s__law_steep, [], []⟩
def dd__law_over : He.DefD := ⟨("_law_over", none), "_law_over", "_law_over", defArgs s__law_over, defBody s__law_over, defScope s__law_over, [], []⟩
def dd__law_under : He.DefD := ⟨("_law_under", none), "_law_under", "_law_under", defArgs s__law_under, defBody s__law_under, defScope s__law_under, [], []⟩
def dd__law_at_most : He.DefD := ⟨("_law_at_most", none), "_law_at_most", "_law_at_most", defArgs s__law_at_most, defBody s__law_at_most, defScope s__law_at_most, [], []⟩
def dd__law_fits : He.DefD := ⟨("_law_fits", none), "_law_fits", "_law_fits", defArgs s__law_fits, defBody s__law_fits, defScope s__law_fits, [], []⟩
def dd_high_masks : He.DefD := ⟨("high_masks", none), "high_masks", "high_masks", defArgs s_high_masks, defBody s_high_masks, defScope s_high_masks, [], []⟩
def dd_points_in : He.DefD := ⟨("points_in", none), "points_in", "points_in", defArgs s_points_in, defBody s_points_in, defScope s_points_in, [], []⟩
def dd__points_of : He.DefD := ⟨("_points_of", none), "_points_of", "_points_of", defArgs s__points_of, defBody s__points_of, defScope s__points_of, [], []⟩
def dd_low_masks : He.DefD := ⟨("low_masks", none), "low_masks", "low_masks", defArgs s_low_masks, defBody s_low_masks, defScope s_low_masks, [], []⟩
def dd_covers : He.DefD := ⟨("covers", none), "covers", "covers", defArgs s_covers, defBody s_covers, defScope s_covers, [], []⟩
def dd__cover_neighbours : He.DefD := ⟨("_cover_neighbours", none), "_cover_neighbours", "_cover_neighbours", defArgs s__cover_neighbours, defBody s__cover_neighbours, defScope s__cover_neighbours, [], []⟩
def dd_at_least_masks : He.DefD := ⟨("at_least_masks", none), "at_least_masks", "at_least_masks", defArgs s_at_least_masks, defBody s_at_least_masks, defScope s_at_least_masks, [], []⟩
def dd__fits : He.DefD := ⟨("_fits", none), "_fits", "_fits", defArgs s__fits, defBody s__fits, defScope s__fits, [], []⟩
def dd_apply_steps : He.DefD := ⟨("apply_steps", none), "apply_steps", "apply_steps", defArgs s_apply_steps, defBody s_apply_steps, defScope s_apply_steps, [], []⟩
def dd__law_asked : He.DefD := ⟨("_law_asked", none), "_law_asked", "_law_asked", defArgs s__law_asked, defBody s__law_asked, defScope s__law_asked, [], []⟩
def dd__law_same : He.DefD := ⟨("_law_same", none), "_law_same", "_law_same", defArgs s__law_same, defBody s__law_same, defScope s__law_same, [], []⟩
def dd__law_covers : He.DefD := ⟨("_law_covers", none), "_law_covers", "_law_covers", defArgs s__law_covers, defBody s__law_covers, defScope s__law_covers, [], []⟩
def dd__law_kind : He.DefD := ⟨("_law_kind", none), "_law_kind", "_law_kind", defArgs s__law_kind, defBody s__law_kind, defScope s__law_kind, [], []⟩
def dd__law_large_right : He.DefD := ⟨("_law_large_right", none), "_law_large_right", "_law_large_right", defArgs s__law_large_right, defBody s__law_large_right, defScope s__law_large_right, [], []⟩
def dd__law_orders : He.DefD := ⟨("_law_orders", none), "_law_orders", "_law_orders", defArgs s__law_orders, defBody s__law_orders, defScope s__law_orders, [], []⟩
def dd__law_map : He.DefD := ⟨("_law_map", none), "_law_map", "_law_map", defArgs s__law_map, defBody s__law_map, defScope s__law_map, [], []⟩
def dd__law_steps_of : He.DefD := ⟨("_law_steps_of", none), "_law_steps_of", "_law_steps_of", defArgs s__law_steps_of, defBody s__law_steps_of, defScope s__law_steps_of, [], []⟩
def dd__law_wrong : He.DefD := ⟨("_law_wrong", none), "_law_wrong", "_law_wrong", defArgs s__law_wrong, defBody s__law_wrong, defScope s__law_wrong, [], []⟩
def dd_law : He.DefD := ⟨("law", none), "law", "law", defArgs s_law, defBody s_law, defScope s_law, [], []⟩
def mo : List Tst := [tSup fl_ sd_BadStep, tExcC "BadStep", tKit "BadStep" "BadMap" false, tKit "BadStep" "BadOrder" false, tKit "BadStep" "NotAbove" false, tKit "BadStep" "TooLarge" false, tKit "BadStep" "StrikeError" true, tKitT "BadStep" "ValueError" true]
def fn : List He.DefD := ([dd__law_start, dd__law_mixed, dd__law_draw, dd__law_size, dd__law_lows, dd__law_order, dd__law_steep, dd__law_over, dd__law_under, dd__law_at_most, dd__law_fits, dd_high_masks, dd_points_in, dd__points_of, dd_low_masks, dd_covers, dd__cover_neighbours, dd_at_least_masks, dd__fits, dd_apply_steps, dd__law_asked, dd__law_same, dd__law_covers, dd__law_kind, dd__law_large_right, dd__law_orders, dd__law_map, dd__law_steps_of, dd__law_wrong, dd_law] : List He.DefD)
def fa : List He.Fa := ([.glo "_law_start", .glo "_law_mixed", .glo "_law_draw", .glo "_law_size", .glo "_law_lows", .glo "_law_order", .glo "_law_steep", .glo "_law_over", .glo "_law_under", .glo "_law_at_most", .glo "_law_fits", .glo "high_masks", .glo "points_in", .glo "_points_of", .glo "low_masks", .glo "covers", .glo "_cover_neighbours", .glo "at_least_masks", .glo "_fits", .glo "apply_steps", .glo "_law_asked", .glo "_law_same", .glo "_law_covers", .glo "_law_kind", .glo "_law_large_right", .glo "_law_orders", .glo "_law_map", .glo "_law_steps_of", .glo "_law_wrong", .glo "law"] : List He.Fa) ++ ([.free "int", .free "len", .free "range", .free "tuple", .free "list", .free "enumerate", .free "super", .free "isinstance", .free "ValueError", .free "bool", .free "str", .free "max", .glo "BadStep", .glo "BadMap", .glo "BadOrder", .glo "NotAbove", .glo "TooLarge", .glo "StrikeError", .noat "BadStep" "at", .exm "BadStep" "BadStep" true] : List He.Fa)
abbrev rw_ : PySem.W.OpenRow := PySem.W.OpenLaw.row PySem.Challenge.rw_chaincore_k13_small_steps
def sps : List SupD := [sd_BadStep]
abbrev hk : PySem.W.Hook := hookY 5 mo fa fn sps
def ob (s : PySem.W.SharedT) : AlY := obsYG 5 mo fa fn sps (HandSHeadRun.getT s)
theorem ob_eq (s : PySem.W.SharedT) : ob s = hk.obs s.abs := obsYG_eq (HandSHeadRun.getT_eq s)
def loose : List Str := (["StrikeError", "BadOrder", "BadMap", "BadStep", "NotAbove", "TooLarge", "points_in", "high_masks", "low_masks", "at_least_masks", "covers", "_points_of", "_fits", "_cover_neighbours", "apply_steps", "_law_mixed", "_law_start", "_law_draw", "_law_same", "_law_lows", "_law_order", "_law_at_most", "_law_covers", "_law_map", "_law_orders", "_law_fits", "_law_size", "_law_steep", "_law_over", "_law_nudged"] : List Str) ++ (["_law_kind", "_law_steps_of", "_law_wrong", "_law_asked", "_law_under", "_law_large_right"] : List Str)
theorem run (w : World) : HandSHeadRun.RunEq rw_ (PySem.W.view rw_.prog [40]) hk ob 3960 loose w := by
  intro os
  kernel_rfl
theorem facts {P : Program} {w : World} {K : PySem.W.Frag} {h : Heap} {mg : Str → Option Value} {f : Addr} (X : K.In h) (G : h.Ns mainGlobals mg) (hfa : mg ("law" : Str) = some (.ref f)) (hPF : PF P fl_) (c0y : SaysY mo fa fn sps K) :
    ∃ fd : FuncData, (∀ (s : Shared) (v : Value), BindsTo s fd ⟨[v], []⟩ [("script", v)]) ∧ ∀ base : Heap, K.In base → base.Ns mainGlobals mg → FnOk P w K mg base CX0 9 f fd ["script"] (spP (fun a : List Int × Unit => [scrS K a.1]) M_law fun b => sh (boolS b)) := by
  have c0 := c0y.x
  have c : He.SaysD fa fn K := c0.d
  obtain ⟨fd__law_start, F__law_start⟩ := c.def_ 0 (d := dd__law_start) rfl
  obtain ⟨fd__law_mixed, F__law_mixed⟩ := c.def_ 1 (d := dd__law_mixed) rfl
  obtain ⟨fd__law_draw, F__law_draw⟩ := c.def_ 2 (d := dd__law_draw) rfl
  obtain ⟨fd__law_size, F__law_size⟩ := c.def_ 3 (d := dd__law_size) rfl
  obtain ⟨fd__law_lows, F__law_lows⟩ := c.def_ 4 (d := dd__law_lows) rfl
  obtain ⟨fd__law_order, F__law_order⟩ := c.def_ 5 (d := dd__law_order) rfl
  obtain ⟨fd__law_steep, F__law_steep⟩ := c.def_ 6 (d := dd__law_steep) rfl
  obtain ⟨fd__law_over, F__law_over⟩ := c.def_ 7 (d := dd__law_over) rfl
  obtain ⟨fd__law_under, F__law_under⟩ := c.def_ 8 (d := dd__law_under) rfl
  obtain ⟨fd__law_at_most, F__law_at_most⟩ := c.def_ 9 (d := dd__law_at_most) rfl
  obtain ⟨fd__law_fits, F__law_fits⟩ := c.def_ 10 (d := dd__law_fits) rfl
  obtain ⟨fd_high_masks, F_high_masks⟩ := c.def_ 11 (d := dd_high_masks) rfl
  obtain ⟨fd_points_in, F_points_in⟩ := c.def_ 12 (d := dd_points_in) rfl
  obtain ⟨fd__points_of, F__points_of⟩ := c.def_ 13 (d := dd__points_of) rfl
  obtain ⟨fd_low_masks, F_low_masks⟩ := c.def_ 14 (d := dd_low_masks) rfl
  obtain ⟨fd_covers, F_covers⟩ := c.def_ 15 (d := dd_covers) rfl
  obtain ⟨fd__cover_neighbours, F__cover_neighbours⟩ := c.def_ 16 (d := dd__cover_neighbours) rfl
  obtain ⟨fd_at_least_masks, F_at_least_masks⟩ := c.def_ 17 (d := dd_at_least_masks) rfl
  obtain ⟨fd__fits, F__fits⟩ := c.def_ 18 (d := dd__fits) rfl
  obtain ⟨fd_apply_steps, F_apply_steps⟩ := c.def_ 19 (d := dd_apply_steps) rfl
  obtain ⟨fd__law_asked, F__law_asked⟩ := c.def_ 20 (d := dd__law_asked) rfl
  obtain ⟨fd__law_same, F__law_same⟩ := c.def_ 21 (d := dd__law_same) rfl
  obtain ⟨fd__law_covers, F__law_covers⟩ := c.def_ 22 (d := dd__law_covers) rfl
  obtain ⟨fd__law_kind, F__law_kind⟩ := c.def_ 23 (d := dd__law_kind) rfl
  obtain ⟨fd__law_large_right, F__law_large_right⟩ := c.def_ 24 (d := dd__law_large_right) rfl
  obtain ⟨fd__law_orders, F__law_orders⟩ := c.def_ 25 (d := dd__law_orders) rfl
  obtain ⟨fd__law_map, F__law_map⟩ := c.def_ 26 (d := dd__law_map) rfl
  obtain ⟨fd__law_steps_of, F__law_steps_of⟩ := c.def_ 27 (d := dd__law_steps_of) rfl
  obtain ⟨fd__law_wrong, F__law_wrong⟩ := c.def_ 28 (d := dd__law_wrong) rfl
  obtain ⟨fd_law, F_law⟩ := c.def_ 29 (d := dd_law) rfl
  have T : Tx P K mg := { a__law_start := _, d__law_start := fd__law_start, F__law_start := F__law_start, b__law_start := FunD.bindsN F__law_start (fun _ _ _ _ _ _ us hl => match us, hl with | [_], _ => rfl), g__law_start := He.glo_ok X G (c.fact 0 (f := .glo "_law_start") rfl), a__law_mixed := _, d__law_mixed := fd__law_mixed, F__law_mixed := F__law_mixed, b__law_mixed := FunD.bindsN F__law_mixed (fun _ _ _ _ _ _ us hl => match us, hl with | [_, _], _ => rfl), g__law_mixed := He.glo_ok X G (c.fact 1 (f := .glo "_law_mixed") rfl), a__law_draw := _, d__law_draw := fd__law_draw, F__law_draw := F__law_draw, b__law_draw := FunD.bindsN F__law_draw (fun _ _ _ _ _ _ us hl => match us, hl with | [_, _], _ => rfl), g__law_draw := He.glo_ok X G (c.fact 2 (f := .glo "_law_draw") rfl), a__law_size := _, d__law_size := fd__law_size, F__law_size := F__law_size, b__law_size := FunD.bindsN F__law_size (fun _ _ _ _ _ _ us hl => match us, hl with | [_], _ => rfl), g__law_size := He.glo_ok X G (c.fact 3 (f := .glo "_law_size") rfl), a__law_lows := _, d__law_lows := fd__law_lows, F__law_lows := F__law_lows, b__law_lows := FunD.bindsN F__law_lows (fun _ _ _ _ _ _ us hl => match us, hl with | [_, _, _], _ => rfl), g__law_lows := He.glo_ok X G (c.fact 4 (f := .glo "_law_lows") rfl), a__law_order := _, d__law_order := fd__law_order, F__law_order := F__law_order, b__law_order := FunD.bindsN F__law_order (fun _ _ _ _ _ _ us hl => match us, hl with | [_, _, _], _ => rfl), g__law_order := He.glo_ok X G (c.fact 5 (f := .glo "_law_order") rfl), a__law_steep := _, d__law_steep := fd__law_steep, F__law_steep := F__law_steep, b__law_steep := FunD.bindsN F__law_steep (fun _ _ _ _ _ _ us hl => match us, hl with | [_, _, _], _ => rfl), g__law_steep := He.glo_ok X G (c.fact 6 (f := .glo "_law_steep") rfl), a__law_over := _, d__law_over := fd__law_over, F__law_over := F__law_over, b__law_over := FunD.bindsN F__law_over (fun _ _ _ _ _ _ us hl => match us, hl with | [_, _], _ => rfl), g__law_over := He.glo_ok X G (c.fact 7 (f := .glo "_law_over") rfl), a__law_under := _, d__law_under := fd__law_under, F__law_under := F__law_under, b__law_under := FunD.bindsN F__law_under (fun _ _ _ _ _ _ us hl => match us, hl with | [_, _], _ => rfl), g__law_under := He.glo_ok X G (c.fact 8 (f := .glo "_law_under") rfl), a__law_at_most := _, d__law_at_most := fd__law_at_most, F__law_at_most := F__law_at_most, b__law_at_most := FunD.bindsN F__law_at_most (fun _ _ _ _ _ _ us hl => match us, hl with | [_, _, _], _ => rfl), g__law_at_most := He.glo_ok X G (c.fact 9 (f := .glo "_law_at_most") rfl), a__law_fits := _, d__law_fits := fd__law_fits, F__law_fits := F__law_fits, b__law_fits := FunD.bindsN F__law_fits (fun _ _ _ _ _ _ us hl => match us, hl with | [_, _, _, _, _], _ => rfl), g__law_fits := He.glo_ok X G (c.fact 10 (f := .glo "_law_fits") rfl), a_high_masks := _, d_high_masks := fd_high_masks, F_high_masks := F_high_masks, b_high_masks := FunD.bindsN F_high_masks (fun _ _ _ _ _ _ us hl => match us, hl with | [_], _ => rfl), g_high_masks := He.glo_ok X G (c.fact 11 (f := .glo "high_masks") rfl), a_points_in := _, d_points_in := fd_points_in, F_points_in := F_points_in, b_points_in := FunD.bindsN F_points_in (fun _ _ _ _ _ _ us hl => match us, hl with | [_], _ => rfl), g_points_in := He.glo_ok X G (c.fact 12 (f := .glo "points_in") rfl), a__points_of := _, d__points_of := fd__points_of, F__points_of := F__points_of, b__points_of := FunD.bindsN F__points_of (fun _ _ _ _ _ _ us hl => match us, hl with | [_], _ => rfl), g__points_of := He.glo_ok X G (c.fact 13 (f := .glo "_points_of") rfl), a_low_masks := _, d_low_masks := fd_low_masks, F_low_masks := F_low_masks, b_low_masks := FunD.bindsN F_low_masks (fun _ _ _ _ _ _ us hl => match us, hl with | [_], _ => rfl), g_low_masks := He.glo_ok X G (c.fact 14 (f := .glo "low_masks") rfl), a_covers := _, d_covers := fd_covers, F_covers := F_covers, b_covers := FunD.bindsN F_covers (fun _ _ _ _ _ _ us hl => match us, hl with | [_], _ => rfl), g_covers := He.glo_ok X G (c.fact 15 (f := .glo "covers") rfl), a__cover_neighbours := _, d__cover_neighbours := fd__cover_neighbours, F__cover_neighbours := F__cover_neighbours, b__cover_neighbours := FunD.bindsN F__cover_neighbours (fun _ _ _ _ _ _ us hl => match us, hl with | [_], _ => rfl), g__cover_neighbours := He.glo_ok X G (c.fact 16 (f := .glo "_cover_neighbours") rfl), a_at_least_masks := _, d_at_least_masks := fd_at_least_masks, F_at_least_masks := F_at_least_masks, b_at_least_masks := FunD.bindsN F_at_least_masks (fun _ _ _ _ _ _ us hl => match us, hl with | [_], _ => rfl), g_at_least_masks := He.glo_ok X G (c.fact 17 (f := .glo "at_least_masks") rfl), a__fits := _, d__fits := fd__fits, F__fits := F__fits, b__fits := FunD.bindsN F__fits (fun _ _ _ _ _ _ us hl => match us, hl with | [_, _, _, _, _], _ => rfl), g__fits := He.glo_ok X G (c.fact 18 (f := .glo "_fits") rfl), a_apply_steps := _, d_apply_steps := fd_apply_steps, F_apply_steps := F_apply_steps, b_apply_steps := FunD.bindsN F_apply_steps (fun _ _ _ _ _ _ us hl => match us, hl with | [_, _, _, _], _ => rfl), q0_apply_steps := kb_plain F_apply_steps 0 ["steps", "row", "second", "first"] [3, 2, 1, 0] (fun _ _ _ _ _ _ us ws l1 l2 => match us, l1, ws, l2 with | [], _, [_, _, _, _], _ => rfl), g_apply_steps := He.glo_ok X G (c.fact 19 (f := .glo "apply_steps") rfl), a__law_asked := _, d__law_asked := fd__law_asked, F__law_asked := F__law_asked, b__law_asked := FunD.bindsN F__law_asked (fun _ _ _ _ _ _ us hl => match us, hl with | [_, _, _, _, _], _ => rfl), g__law_asked := He.glo_ok X G (c.fact 20 (f := .glo "_law_asked") rfl), a__law_same := _, d__law_same := fd__law_same, F__law_same := F__law_same, b__law_same := FunD.bindsN F__law_same (fun _ _ _ _ _ _ us hl => match us, hl with | [_, _], _ => rfl), g__law_same := He.glo_ok X G (c.fact 21 (f := .glo "_law_same") rfl), a__law_covers := _, d__law_covers := fd__law_covers, F__law_covers := F__law_covers, b__law_covers := FunD.bindsN F__law_covers (fun _ _ _ _ _ _ us hl => match us, hl with | [_, _, _], _ => rfl), g__law_covers := He.glo_ok X G (c.fact 22 (f := .glo "_law_covers") rfl), a__law_kind := _, d__law_kind := fd__law_kind, F__law_kind := F__law_kind, b__law_kind := FunD.bindsN F__law_kind (fun _ _ _ _ _ _ us hl => match us, hl with | [_, _, _, _, _], _ => rfl), g__law_kind := He.glo_ok X G (c.fact 23 (f := .glo "_law_kind") rfl), a__law_large_right := _, d__law_large_right := fd__law_large_right, F__law_large_right := F__law_large_right, b__law_large_right := FunD.bindsN F__law_large_right (fun _ _ _ _ _ _ us hl => match us, hl with | [_], _ => rfl), g__law_large_right := He.glo_ok X G (c.fact 24 (f := .glo "_law_large_right") rfl), a__law_orders := _, d__law_orders := fd__law_orders, F__law_orders := F__law_orders, b__law_orders := FunD.bindsN F__law_orders (fun _ _ _ _ _ _ us hl => match us, hl with | [_], _ => rfl), g__law_orders := He.glo_ok X G (c.fact 25 (f := .glo "_law_orders") rfl), a__law_map := _, d__law_map := fd__law_map, F__law_map := F__law_map, b__law_map := FunD.bindsN F__law_map (fun _ _ _ _ _ _ us hl => match us, hl with | [_, _, _], _ => rfl), g__law_map := He.glo_ok X G (c.fact 26 (f := .glo "_law_map") rfl), a__law_steps_of := _, d__law_steps_of := fd__law_steps_of, F__law_steps_of := F__law_steps_of, b__law_steps_of := FunD.bindsN F__law_steps_of (fun _ _ _ _ _ _ us hl => match us, hl with | [_, _, _, _], _ => rfl), g__law_steps_of := He.glo_ok X G (c.fact 27 (f := .glo "_law_steps_of") rfl), a__law_wrong := _, d__law_wrong := fd__law_wrong, F__law_wrong := F__law_wrong, b__law_wrong := FunD.bindsN F__law_wrong (fun _ _ _ _ _ _ us hl => match us, hl with | [_, _, _, _], _ => rfl), g__law_wrong := He.glo_ok X G (c.fact 28 (f := .glo "_law_wrong") rfl), a_law := _, d_law := fd_law, F_law := F_law, b_law := FunD.bindsN F_law (fun _ _ _ _ _ _ us hl => match us, hl with | [_], _ => rfl), g_law := He.glo_ok X G (c.fact 29 (f := .glo "law") rfl), m_int := He.free_ok X G (c.fact 30 (f := .free "int") rfl), m_len := He.free_ok X G (c.fact 31 (f := .free "len") rfl), m_range := He.free_ok X G (c.fact 32 (f := .free "range") rfl), m_tuple := He.free_ok X G (c.fact 33 (f := .free "tuple") rfl), m_list := He.free_ok X G (c.fact 34 (f := .free "list") rfl), m_enumerate := He.free_ok X G (c.fact 35 (f := .free "enumerate") rfl), m_super := He.free_ok X G (c.fact 36 (f := .free "super") rfl), m_isinstance := He.free_ok X G (c.fact 37 (f := .free "isinstance") rfl), m_ValueError := He.free_ok X G (c.fact 38 (f := .free "ValueError") rfl), m_bool := He.free_ok X G (c.fact 39 (f := .free "bool") rfl), m_str := He.free_ok X G (c.fact 40 (f := .free "str") rfl), m_max := He.free_ok X G (c.fact 41 (f := .free "max") rfl), g_BadStep := He.glo_ok X G (c.fact 42 (f := .glo "BadStep") rfl), g_BadMap := He.glo_ok X G (c.fact 43 (f := .glo "BadMap") rfl), g_BadOrder := He.glo_ok X G (c.fact 44 (f := .glo "BadOrder") rfl), g_NotAbove := He.glo_ok X G (c.fact 45 (f := .glo "NotAbove") rfl), g_TooLarge := He.glo_ok X G (c.fact 46 (f := .glo "TooLarge") rfl), g_StrikeError := He.glo_ok X G (c.fact 47 (f := .glo "StrikeError") rfl), no_BadStep_at := He.eqO_ok (c.fact 48 (f := .noat "BadStep" "at") rfl), s_BadStep := supF_ok (c0y.s 0 (d := sd_BadStep)) (c0.t 0 (f := tSup fl_ sd_BadStep)), pf := hPF, e_BadStep := tExcC_ok (c0.t 1 (f := tExcC "BadStep")), k_BadStep_BadMap := of_decide_eq_true (c0.t 2 (f := tKit "BadStep" "BadMap" false)), k_BadStep_BadOrder := of_decide_eq_true (c0.t 3 (f := tKit "BadStep" "BadOrder" false)), k_BadStep_NotAbove := of_decide_eq_true (c0.t 4 (f := tKit "BadStep" "NotAbove" false)), k_BadStep_TooLarge := of_decide_eq_true (c0.t 5 (f := tKit "BadStep" "TooLarge" false)), k_BadStep_StrikeError := of_decide_eq_true (c0.t 6 (f := tKit "BadStep" "StrikeError" true)), kt_BadStep_ValueError := of_decide_eq_true (c0.t 7 (f := tKitT "BadStep" "ValueError" true)), h_BadStep_BadStep := He.exm_ok (c.fact 49 (f := .exm "BadStep" "BadStep" true) rfl) }
  have e := hfa.symm.trans T.g_law
  cases e
  have b := FunD.bindsA (ps := ["script"]) T.F_law fun _ _ _ _ _ _ us hl => match us, hl with | [_], _ => rfl
  exact ⟨T.d_law, fun s v => b s [v] rfl, fun base _ _ => ok_law T⟩
end K13
set_option maxHeartbeats 1000000
namespace K13
open PySem PySem.Spec L2 CC
open PyProof.Rows hiding St
/-- a finite strict order on the points below n -/
structure Po (n : Nat) (r : Nat → Nat → Bool) : Prop where
  lo : ∀ x y, r x y = true → x < n ∧ y < n
  tr : ∀ x y z, r x y = true → r y z = true → r x z = true
  rk : ∃ f : Nat → Nat, ∀ x y, r x y = true → f x < f y
theorem Po.ir {n : Nat} {r : Nat → Nat → Bool} (h : Po n r) (x : Nat) : r x x = false := by
  obtain ⟨f, hf⟩ := h.rk
  cases e : r x x with
  | false => rfl
  | true => exact absurd (hf x x e) (Nat.lt_irrefl _)
/-- the pairs of such an order -/
structure Prs (n : Nat) (r : Nat → Nat → Bool) (ps : List (Int × Int)) : Prop where
  bd : ∀ p ∈ ps, ∃ x y : Nat, p = ((x : Int), (y : Int)) ∧ r x y = true
  mem : ∀ x y : Nat, r x y = true → ((x : Int), (y : Int)) ∈ ps
  asc : Asc ps
  len : ps.length ≤ 10000
theorem Prs.iff {n : Nat} {r : Nat → Nat → Bool} {ps : List (Int × Int)} (h : Prs n r ps) (x y : Nat) : ((x : Int), (y : Int)) ∈ ps ↔ r x y = true := by
  constructor
  · intro hm
    obtain ⟨a, b, e, hr⟩ := h.bd _ hm
    have e1 := (Prod.mk.inj e).1
    have e2 := (Prod.mk.inj e).2
    have : x = a := by omega
    have : y = b := by omega
    subst x y
    exact hr
  · exact h.mem x y
theorem points_ok {n m : Nat} (hn : n ≤ 1000) (hm : ∀ y, m.testBit y = true → y < n) : M_points_in ((m : Int), ()) = some (bitsL n m) := by
  unfold M_points_in
  refine Ok.eq_some (.bind (whileF_ok (P := fun s => s.2 = bitsL n m) (fun s => ∃ k : Nat, s.1 = (k : Int) ∧ (∀ y, k.testBit y = true → y < n) ∧ s.2 ++ bitsL n k = bitsL n m) (fun s => (bitsL n s.1.toNat).length) (fun s ⟨k, hk, hb, hs⟩ => ?_) ⟨m, rfl, hm, rfl⟩ ?_) fun s hs => .one hs)
  · have := bitsL_len n ((m : Int)).toNat
    show (bitsL n ((m : Int)).toNat).length < _
    omega
  · refine .one ⟨fun hb' => ?_, fun hb' => ?_⟩
    · have hpos : 0 < k := by
        rw [hk] at hb'
        simp only [bne_iff_ne, ne_eq] at hb'
        omega
      obtain ⟨j, a, e⟩ := low_form k hpos
      have hj : j < n := hb j (by rw [e, low_bit]; simp)
      have hl := bitsL_low (a := a) hj
      have hsl : s.2.length + (bitsL n k).length ≤ n := by
        rw [← List.length_append, hs]
        exact bitsL_len n m
      rw [hk, e, bAnd_low, bitLen_pow]
      rw [e, hl, List.length_cons] at hsl
      rw [appM_eq (by omega)]
      have e3 : ((2 ^ j * (2 * a + 1) : Nat) : Int) - ((2 ^ j : Nat) : Int) = ((2 ^ j * (2 * a + 1) - 2 ^ j : Nat) : Int) := by
        have : 2 ^ j ≤ 2 ^ j * (2 * a + 1) := Nat.le_mul_of_pos_right _ (by omega)
        omega
      rw [sb, e3]
      refine .one ⟨⟨_, rfl, fun y hy => hb y ?_, ?_⟩, ?_⟩
      · rw [e, low_bit]
        rw [low_rest, Bool.and_eq_true, decide_eq_true_eq] at hy
        simp [show j ≤ y by omega, hy.2]
      · rw [← hs, e, hl, List.append_assoc]
        congr 1
        show [((j : Int) + 1 - 1)] ++ _ = _
        rw [show ((j : Int) + 1 - 1) = j by omega]
        rfl
      · show (bitsL n ((2 ^ j * (2 * a + 1) - 2 ^ j : Nat) : Int).toNat).length < (bitsL n ((2 ^ j * (2 * a + 1) : Nat) : Int).toNat).length
        rw [Int.toNat_natCast, Int.toNat_natCast, hl, List.length_cons]
        exact Nat.lt_succ_self _
    · have : k = 0 := by
        rw [hk] at hb'
        have h0 : (k : Int) = 0 := by simpa using hb'
        omega
      subst this
      rw [bitsL_zero, List.append_nil] at hs
      exact hs
theorem high_ok {n : Nat} {ps : List (Int × Int)} {r : Nat → Nat → Bool} (hn : n ≤ 64) (hb : ∀ p ∈ ps, ∃ x y : Nat, p = ((x : Int), (y : Int)) ∧ x < n ∧ y < n) (hr : ∀ x y : Nat, ((x : Int), (y : Int)) ∈ ps ↔ r x y = true) : Ok (M_high_masks (((n : Int), ps), ())) fun L => Msk n L r := by
  unfold M_high_masks
  rw [show repM [(0 : Int)] ((((n : Int), ps), ()).1.1 : Int) = some (List.replicate n 0) from repM_one (by omega), sb, bind_id]
  refine (fold_ok (fun pre (L : List Int) => Msk n L fun x y => decide (((x : Int), (y : Int)) ∈ pre)) ?_ fun pre p L hp hL => ?_).mono fun L hL => hL.congr fun x y _ => ?_
  · exact (Msk.zero n).congr fun x y _ => by simp
  · obtain ⟨x, y, rfl, hx, hy⟩ := hb p hp
    obtain ⟨m, h1, h2⟩ := hL.look x hx
    simp only [h1, sb, shl_one (show y ≤ 1000000 by omega), bOr_nat, bind_id]
    obtain ⟨k1, k2⟩ := hL.set (m := m ||| 2 ^ y) hx
    refine .of_eq k1 (k2.congr fun i j _ => ?_)
    by_cases e : i = x
    · subst e
      rw [if_pos rfl, Nat.testBit_or, h2, Nat.testBit_two_pow]
      simp only [List.mem_append, List.mem_singleton, Prod.mk.injEq, true_and]
      by_cases q : y = j
      · subst q; simp
      · have : ¬ ((j : Int) = (y : Int)) := by omega
        simp [this, q]
    · rw [if_neg e]
      have : ¬ ((i : Int) = (x : Int)) := by omega
      simp [this]
  · have := hr x y
    cases e : r x y with
    | true => exact decide_eq_true (this.mpr e)
    | false => exact decide_eq_false fun h => by rw [this.mp h] at e; cases e
theorem low_ok {n : Nat} {ps : List (Int × Int)} {r : Nat → Nat → Bool} (hn : n ≤ 64) (hb : ∀ p ∈ ps, ∃ x y : Nat, p = ((x : Int), (y : Int)) ∧ x < n ∧ y < n) (hr : ∀ x y : Nat, ((x : Int), (y : Int)) ∈ ps ↔ r x y = true) : Ok (M_low_masks (((n : Int), ps), ())) fun L => Msk n L fun x y => r y x := by
  unfold M_low_masks
  rw [show repM [(0 : Int)] ((((n : Int), ps), ()).1.1 : Int) = some (List.replicate n 0) from repM_one (by omega), sb, bind_id]
  refine (fold_ok (fun pre (L : List Int) => Msk n L fun x y => decide (((y : Int), (x : Int)) ∈ pre)) ?_ fun pre p L hp hL => ?_).mono fun L hL => hL.congr fun x y _ => ?_
  · exact (Msk.zero n).congr fun x y _ => by simp
  · obtain ⟨x, y, rfl, hx, hy⟩ := hb p hp
    obtain ⟨m, h1, h2⟩ := hL.look y hy
    simp only [h1, sb, shl_one (show x ≤ 1000000 by omega), bOr_nat, bind_id]
    obtain ⟨k1, k2⟩ := hL.set (m := m ||| 2 ^ x) hy
    refine .of_eq k1 (k2.congr fun i j _ => ?_)
    by_cases e : i = y
    · subst e
      rw [if_pos rfl, Nat.testBit_or, h2, Nat.testBit_two_pow]
      simp only [List.mem_append, List.mem_singleton, Prod.mk.injEq, and_true]
      by_cases q : x = j
      · subst q; simp
      · have : ¬ ((j : Int) = (x : Int)) := by omega
        simp [this, q]
    · rw [if_neg e]
      have : ¬ ((i : Int) = (y : Int)) := by omega
      simp [this]
  · have := hr y x
    cases e : r y x with
    | true => exact decide_eq_true (this.mpr e)
    | false => exact decide_eq_false fun h => by rw [this.mp h] at e; cases e
theorem Prs.b {n : Nat} {r : Nat → Nat → Bool} {ps : List (Int × Int)} (h : Prs n r ps) (hp : Po n r) : ∀ p ∈ ps, ∃ x y : Nat, p = ((x : Int), (y : Int)) ∧ x < n ∧ y < n := fun p hm => by
  obtain ⟨x, y, e, hr⟩ := h.bd p hm
  exact ⟨x, y, e, hp.lo x y hr⟩
/-- y covers x -/
def cov (n : Nat) (r : Nat → Nat → Bool) (x y : Nat) : Bool := r x y && !(List.range n).any fun z => r x z && r z y
theorem cov_iff {n : Nat} {r : Nat → Nat → Bool} (hp : Po n r) {x y : Nat} : cov n r x y = true ↔ r x y = true ∧ ∀ z, ¬ (r x z = true ∧ r z y = true) := by
  unfold cov
  rw [Bool.and_eq_true, Bool.not_eq_true', List.any_eq_false]
  constructor
  · rintro ⟨h1, h2⟩
    exact ⟨h1, fun z ⟨z1, z2⟩ => h2 z (List.mem_range.mpr (hp.lo _ _ z1).2) (by rw [z1, z2]; rfl)⟩
  · rintro ⟨h1, h2⟩
    exact ⟨h1, fun z _ hz => h2 z (Bool.and_eq_true_iff.mp hz)⟩
theorem covers_ok {n : Nat} {ps : List (Int × Int)} {r : Nat → Nat → Bool} (hn : n ≤ 64) (h : Prs n r ps) (hp : Po n r) : Ok (M_covers (((n : Int), ps), ())) fun qs => (∀ p ∈ qs, ∃ x y : Nat, p = ((x : Int), (y : Int)) ∧ x < n ∧ y < n) ∧ ∀ x y : Nat, ((x : Int), (y : Int)) ∈ qs ↔ cov n r x y = true := by
  unfold M_covers
  simp only [bind_id]
  refine .bind (high_ok hn (h.b hp) h.iff) fun H hH => .bind (low_ok hn (h.b hp) h.iff) fun L hL => ?_
  have key : ∀ p ∈ ps, ((atI H p.1).bind fun x481 => (atI L p.2).bind fun x482 => some (bAnd x481 x482)).bind (fun x483 => some (decide (x483 = (0 : Int)))) = some (cov n r p.1.toNat p.2.toNat) := fun p hm => by
    obtain ⟨x, y, rfl, hr⟩ := h.bd p hm
    obtain ⟨hx, hy⟩ := hp.lo x y hr
    obtain ⟨a, a1, a2⟩ := hH.look x hx
    obtain ⟨b, b1, b2⟩ := hL.look y hy
    simp only [a1, b1, sb, bAnd_nat, Int.toNat_natCast]
    congr 1
    have e1 : (decide (((a &&& b : Nat) : Int) = 0)) = decide (a &&& b = 0) := decide_eq_decide.mpr (by omega)
    rw [e1]
    by_cases q : a &&& b = 0
    · rw [decide_eq_true q]
      refine ((cov_iff hp).mpr ⟨hr, fun z hz => ?_⟩).symm
      refine and_zero_iff.mp q z ?_
      rw [a2, b2]
      exact hz
    · rw [decide_eq_false q]
      cases e : cov n r x y with
      | false => rfl
      | true =>
        refine absurd (and_zero_iff.mpr fun z hz => ?_) q
        rw [a2, b2] at hz
        exact ((cov_iff hp).mp e).2 z hz
  refine .of_eq (compM_eq (p := fun p => cov n r p.1.toNat p.2.toNat) (g := fun p => (p.1, p.2)) (by have := h.len; show ps.length ≤ _; omega) key fun _ _ _ => rfl) ⟨fun p hm => ?_, fun x y => ?_⟩
  · obtain ⟨q, hq, rfl⟩ := List.mem_map.mp hm
    exact h.b hp q (List.mem_filter.mp hq).1
  · rw [List.mem_map]
    constructor
    · rintro ⟨q, hq, e⟩
      obtain ⟨q1, q2⟩ := List.mem_filter.mp hq
      have : q = ((x : Int), (y : Int)) := e
      rw [this, Int.toNat_natCast, Int.toNat_natCast] at q2
      exact q2
    · intro e
      exact ⟨_, List.mem_filter.mpr ⟨h.mem x y ((cov_iff hp).mp e).1, by rw [Int.toNat_natCast, Int.toNat_natCast]; exact e⟩, rfl⟩
/-- at most, point by point -/
def le (r : Nat → Nat → Bool) (x y : Nat) : Bool := decide (x = y) || r x y
theorem le_iff {r : Nat → Nat → Bool} {x y : Nat} : le r x y = true ↔ x = y ∨ r x y = true := by
  unfold le
  rw [Bool.or_eq_true, decide_eq_true_eq]
theorem rwv_set {n m : Nat} {row : List Int} (h : Rw n m row) {x w : Nat} (hx : x < n) (hw : w < m) : setAt row (x : Int) (w : Int) = some (row.set x (w : Int)) ∧ Rw n m (row.set x (w : Int)) ∧ ∀ y, rwv (row.set x (w : Int)) y = if y = x then w else rwv row y := by
  have hx' : x < row.length := by rw [h.len]; exact hx
  refine ⟨setAt_nat hx', ⟨by rw [List.length_set]; exact h.len, fun z hz => ?_⟩, fun y => ?_⟩
  · rcases List.mem_or_eq_of_mem_set hz with q | rfl
    · exact h.lo z q
    · omega
  · unfold rwv
    by_cases e : y = x
    · subst e
      rw [if_pos rfl, List.getElem?_set_self hx']
      rfl
    · rw [if_neg e, List.getElem?_set_ne fun q => e q.symm]
/-! ### the masks of the small steps -/
theorem bit_ok (a y : Nat) : (bAnd ((a / 2 ^ y : Nat) : Int) (1 : Int) != 0) = a.testBit y := by
  rw [show (1 : Int) = ((1 : Nat) : Int) from rfl, bAnd_nat]
  unfold Nat.testBit
  rw [Nat.shiftRight_eq_div_pow, Nat.and_comm 1]
  by_cases h : a / 2 ^ y &&& 1 = 0
  · rw [h]; rfl
  · have : ((a / 2 ^ y &&& 1 : Nat) : Int) ≠ 0 := by omega
    rw [show (((a / 2 ^ y &&& 1 : Nat) : Int) != 0) = true from bne_iff_ne.mpr this, show ((a / 2 ^ y &&& 1 : Nat) != 0) = true from bne_iff_ne.mpr h]
theorem leastM_ok {n : Nat} {ps : List (Int × Int)} {r : Nat → Nat → Bool} (hn : n ≤ 64) (h : Prs n r ps) (hp : Po n r) : Ok (M_at_least_masks (((n : Int), ps), ())) fun L => Msk n L fun x y => le r x y := by
  unfold M_at_least_masks
  simp only [bassoc, sb, bind_id]
  refine .bind (high_ok hn (h.b hp) h.iff) fun L hL => ?_
  refine (mapM_ok (P := fun (q : Int × Int) z => ∃ x : Nat, q.1 = (x : Int) ∧ ∃ m : Nat, z = (m : Int) ∧ ∀ y, m.testBit y = (decide (x = y) || r x y)) (by rw [enumL_len, hL.len]; omega) fun q hq => ?_).mono fun M hM => ?_
  · obtain ⟨i, hi⟩ := List.mem_iff_getElem?.mp hq
    rw [enumL_get, Nat.zero_add] at hi
    cases hx : L[i]? with
    | none => rw [hx] at hi; cases hi
    | some z =>
      rw [hx] at hi
      cases hi
      have hin : i < n := by
        have := (List.getElem?_eq_some_iff.mp hx).1
        rwa [hL.len] at this
      obtain ⟨m, h1, h2⟩ := hL.look i hin
      rw [atI_nat? hx] at h1
      cases h1
      simp only [shl_one (show i ≤ 1000000 by omega), sb, bOr_nat]
      refine .one ⟨i, rfl, _, rfl, fun y => ?_⟩
      rw [Nat.testBit_or, Nat.testBit_two_pow, h2, Bool.or_comm]
  · refine ⟨by rw [f2_len hM, enumL_len, hL.len], fun x hx => ?_⟩
    have hx' : x < M.length := by rw [f2_len hM, enumL_len, hL.len]; exact hx
    obtain ⟨q, q1, x', q2, m, q3, q4⟩ := f2_get hM (List.getElem?_eq_getElem hx')
    rw [enumL_get, Nat.zero_add, List.getElem?_eq_getElem (by rw [hL.len]; exact hx)] at q1
    have e := Option.some.inj q1
    have : x = x' := by
      rw [← e] at q2
      simp only at q2
      omega
    subst this
    exact ⟨m, by rw [atI_nat hx', q3], q4⟩
/-- covering or covered -/
def nb (n : Nat) (r : Nat → Nat → Bool) (x y : Nat) : Bool := cov n r x y || cov n r y x
theorem near_ok {n : Nat} {ps : List (Int × Int)} {r : Nat → Nat → Bool} (hn : n ≤ 64) (h : Prs n r ps) (hp : Po n r) : Ok (M_cover_neighbours (((n : Int), ps), ())) fun L => Msk n L (nb n r) := by
  unfold M_cover_neighbours
  simp only [bassoc, sb, bind_id]
  refine .bind (covers_ok hn h hp) fun qs hq => ?_
  refine .bind (high_ok hn hq.1 hq.2) fun H hH => .bind (low_ok hn hq.1 hq.2) fun L hL => ?_
  rw [rng_nat (n := n) (show n ≤ 1000000 by omega), sb]
  refine (mapR_ok (P := fun x z => ∃ m : Nat, z = (m : Int) ∧ ∀ y, m.testBit y = nb n r x y) (by omega) fun x hx => ?_).mono fun M hM => ⟨hM.1, fun x hx => ?_⟩
  · obtain ⟨a, a1, a2⟩ := hH.look x hx
    obtain ⟨b, b1, b2⟩ := hL.look x hx
    simp only [a1, b1, sb, bOr_nat]
    refine .one ⟨_, rfl, fun y => ?_⟩
    rw [Nat.testBit_or, a2, b2]
    rfl
  · have hx' : x < M.length := by rw [hM.1]; exact hx
    obtain ⟨m, m1, m2⟩ := hM.2 x _ (List.getElem?_eq_getElem hx')
    exact ⟨m, by rw [atI_nat hx', m1], m2⟩
/-- for each point the list of some others -/
structure Pts (n : Nat) (T : List (List Int)) (f : Nat → Nat → Bool) : Prop where
  look : ∀ x, x < n → ∃ l, atI T (x : Int) = some l ∧ ∀ z, z ∈ l ↔ ∃ k : Nat, k < n ∧ f x k = true ∧ z = (k : Int)
theorem pts_ok {n : Nat} {L : List Int} {f : Nat → Nat → Bool} (hn : n ≤ 64) (h : Msk n L f) (hf : ∀ x y, x < n → f x y = true → y < n) : Ok (M_points_of (L, ())) fun T => Pts n T f := by
  unfold M_points_of
  simp only [bind_id]
  refine (mapM_ok (P := fun z l => ∃ m : Nat, z = (m : Int) ∧ l = bitsL n m) (by have := h.len; show L.length ≤ _; omega) fun z hz => ?_).mono fun T hT => ⟨fun x hx => ?_⟩
  · obtain ⟨i, hi⟩ := List.mem_iff_getElem?.mp hz
    have hin : i < n := by
      have := (List.getElem?_eq_some_iff.mp hi).1
      have e := h.len
      have : i < L.length := this
      omega
    obtain ⟨m, m1, m2⟩ := h.look i hin
    rw [atI_nat? hi] at m1
    cases m1
    exact .of_eq (points_ok (by omega) fun y hy => hf i y hin (by rw [← m2]; exact hy)) ⟨m, rfl, rfl⟩
  · have hx' : x < T.length := by rw [f2_len hT]; show x < L.length; rw [h.len]; exact hx
    obtain ⟨z, z1, m, z2, z3⟩ := f2_get hT (List.getElem?_eq_getElem hx')
    obtain ⟨m', m1, m2⟩ := h.look x hx
    rw [atI_nat? z1, z2] at m1
    have em : m = m' := by have := Option.some.inj m1; omega
    subst em
    refine ⟨_, atI_nat hx', fun z => ?_⟩
    rw [z3, bitsL_mem]
    exact exists_congr fun k => by rw [m2]
theorem all_loop {α : Type} {f : α → Unit → Option (Out Unit Bool)} {p : α → Bool} : ∀ {l : List α}, (∀ x ∈ l, f x () = some (bif p x then .nx () else .rt false)) → loopGo f l () = some (bif l.all p then .nx () else .rt false)
  | [], _ => rfl
  | x :: l, h => by
    show (f x ()).bind _ = _
    rw [h x List.mem_cons_self, List.all_cons]
    cases p x with
    | true => exact all_loop fun y hy => h y (List.mem_cons_of_mem _ hy)
    | false => rfl
/-- the value v fits at x -/
def fitV (n : Nat) (rF rS : Nat → Nat → Bool) (row : List Int) (x v : Nat) : Bool := (List.range n).all fun y => (!rF x y || le rS v (rwv row y)) && (!rF y x || le rS (rwv row y) v)
theorem fitV_iff {n : Nat} {rF rS : Nat → Nat → Bool} {row : List Int} {x v : Nat} : fitV n rF rS row x v = true ↔ ∀ y, y < n → (rF x y = true → le rS v (rwv row y) = true) ∧ (rF y x = true → le rS (rwv row y) v = true) := by
  unfold fitV
  rw [List.all_eq_true]
  refine forall_congr' fun y => ?_
  rw [List.mem_range]
  refine forall_congr' fun _ => ?_
  cases rF x y <;> cases rF y x <;> cases le rS v (rwv row y) <;> cases le rS (rwv row y) v <;> simp
theorem fits_prog {n m : Nat} {rF rS : Nat → Nat → Bool} {row highs lows R : List Int} {x v : Nat} (hF : Po n rF) (hr : Rw n m row) (hx : x < n) (hv : v < m) (h1 : ∀ z, z ∈ highs ↔ ∃ k : Nat, k < n ∧ rF x k = true ∧ z = (k : Int)) (h2 : ∀ z, z ∈ lows ↔ ∃ k : Nat, k < n ∧ rF k x = true ∧ z = (k : Int)) (hR : Msk m R (le rS)) : M_fits (row.set x (v : Int), (x : Int), highs, lows, R, ()) = some (fitV n rF rS row x v) := by
  obtain ⟨_, s2, s3⟩ := rwv_set hr hx hv
  obtain ⟨a1, a2⟩ := s2.at hx
  rw [s3, if_pos rfl] at a1
  obtain ⟨b, b1, b2⟩ := hR.look v hv
  have ir := hF.ir x
  have other : ∀ k, k < n → k ≠ x → atI (row.set x (v : Int)) (k : Int) = some (rwv row k : Int) ∧ rwv row k < m := fun k hk e => by
    obtain ⟨c1, c2⟩ := s2.at hk
    rw [s3, if_neg e] at c1
    exact ⟨c1, (hr.at hk).2⟩
  unfold M_fits
  simp only [bassoc, sb, bind_id]
  rw [all_loop (p := fun y => le rS v (rwv row y.toNat)) fun z hz => ?_]
  · rw [all_loop (p := fun y => le rS (rwv row y.toNat) v) fun z hz => ?_]
    · have key : fitV n rF rS row x v = (highs.all (fun y => le rS v (rwv row y.toNat)) && lows.all fun y => le rS (rwv row y.toNat) v) := by
        refine Bool.eq_iff_iff.mpr ?_
        rw [fitV_iff, Bool.and_eq_true, List.all_eq_true, List.all_eq_true]
        constructor
        · intro h
          refine ⟨fun z hz => ?_, fun z hz => ?_⟩
          · obtain ⟨k, hk, e, rfl⟩ := (h1 z).mp hz
            rw [Int.toNat_natCast]
            exact (h k hk).1 e
          · obtain ⟨k, hk, e, rfl⟩ := (h2 z).mp hz
            rw [Int.toNat_natCast]
            exact (h k hk).2 e
        · rintro ⟨g1, g2⟩ y hy
          refine ⟨fun e => ?_, fun e => ?_⟩
          · have := g1 _ ((h1 _).mpr ⟨y, hy, e, rfl⟩)
            rwa [Int.toNat_natCast] at this
          · have := g2 _ ((h2 _).mpr ⟨y, hy, e, rfl⟩)
            rwa [Int.toNat_natCast] at this
      rw [key]
      cases highs.all (fun y => le rS v (rwv row y.toNat)) <;> cases lows.all (fun y => le rS (rwv row y.toNat) v) <;> rfl
    · obtain ⟨k, hk, e, rfl⟩ := (h2 z).mp hz
      have hkx : k ≠ x := fun q => by subst q; rw [ir] at e; cases e
      obtain ⟨c1, c2⟩ := other k hk hkx
      obtain ⟨d, d1, d2⟩ := hR.look _ c2
      simp only [a1, c1, d1, sb, shr_nat, bit_ok, d2, Int.toNat_natCast]
      cases le rS (rwv row k) v <;> rfl
  · obtain ⟨k, hk, e, rfl⟩ := (h1 z).mp hz
    have hkx : k ≠ x := fun q => by subst q; rw [ir] at e; cases e
    obtain ⟨c1, c2⟩ := other k hk hkx
    simp only [a1, b1, c1, sb, shr_nat, bit_ok, b2, Int.toNat_natCast]
    cases le rS v (rwv row k) <;> rfl
end K13
set_option maxHeartbeats 1000000
namespace K13
open PySem PySem.Spec L2 CC
open PyProof.Rows hiding St
/-- an allowed step -/
def good (n m : Nat) (rF rS : Nat → Nat → Bool) (row : List Int) (x v : Nat) : Bool := nb m rS (rwv row x) v && fitV n rF rS row x v
def ok1 (n m : Nat) (rF rS : Nat → Nat → Bool) (row : List Int) (q : Int × Int) : Bool := decide ((0 ≤ q.1 ∧ q.1 < (n : Int)) ∧ (0 ≤ q.2 ∧ q.2 < (m : Int))) && good n m rF rS row q.1.toNat q.2.toNat
/-- the steps one after the other, told with the index of the first wrong one -/
def goS (ok : List Int → Int × Int → Bool) : Nat → List (Int × Int) → List Int → Res Ex (List Int)
  | _, [], row => .ok row
  | k, q :: st, row => bif ok row q then goS ok (k + 1) st (row.set q.1.toNat q.2) else .er (.BadStep (k : Int))
theorem ok1_rw {n m : Nat} {rF rS : Nat → Nat → Bool} {row : List Int} {q : Int × Int} (hr : Rw n m row) (h : ok1 n m rF rS row q = true) : Rw n m (row.set q.1.toNat q.2) := by
  obtain ⟨h1, _⟩ := Bool.and_eq_true_iff.mp h
  obtain ⟨⟨a, b⟩, c, d⟩ := of_decide_eq_true h1
  obtain ⟨x, ex⟩ := Int.eq_ofNat_of_zero_le a
  obtain ⟨v, ev⟩ := Int.eq_ofNat_of_zero_le c
  obtain ⟨_, r, _⟩ := rwv_set hr (x := x) (w := v) (by omega) (by omega)
  rw [ex, ev, Int.toNat_natCast]
  exact r
theorem steps_loop {n m : Nat} {rF rS : Nat → Nat → Bool} {F : Int × (Int × Int) → List Int → Option (Out (List Int) (Res Ex (List Int)))} (hF : ∀ (k : Nat) q row, Rw n m row → F ((k : Int), q) row = some (bif ok1 n m rF rS row q then .nx (row.set q.1.toNat q.2) else .rt (.er (.BadStep (k : Int))))) : ∀ (st : List (Int × Int)) (k : Nat) (row : List Int), Rw n m row → loopGo F (enumL k st) row = some (match goS (ok1 n m rF rS) k st row with | .ok r => .nx r | .er e => .rt (.er e))
  | [], _, _, _ => rfl
  | q :: st, k, row, hr => by
    show (F ((k : Int), q) row).bind _ = _
    rw [hF k q row hr]
    unfold goS
    cases e : ok1 n m rF rS row q with
    | true => exact steps_loop hF st (k + 1) _ (ok1_rw hr e)
    | false => rfl
theorem apply_ok {n m : Nat} {ps qs : List (Int × Int)} {rF rS : Nat → Nat → Bool} {row : List Int} {st : List (Int × Int)} (hn : n ≤ 64) (hm : m ≤ 64) (hF : Po n rF) (hS : Po m rS) (hps : Prs n rF ps) (hqs : Prs m rS qs) (hr : Rw n m row) : M_apply_steps (((n : Int), ps), ((m : Int), qs), row, st, ()) = some (goS (ok1 n m rF rS) 0 st row) := by
  unfold M_apply_steps
  simp only [bassoc, sb, bind_id]
  refine Ok.eq_some (.bind (high_ok hn (hps.b hF) hps.iff) fun H hH => .bind (pts_ok hn hH fun x y _ e => (hF.lo x y e).2) fun A hA => .bind (low_ok hn (hps.b hF) hps.iff) fun L hL => .bind (pts_ok hn hL fun x y _ e => (hF.lo y x e).1) fun B hB => .bind (near_ok hm hqs hS) fun N hN => .bind (leastM_ok hm hqs hS) fun R hR => ?_)
  rw [steps_loop (n := n) (m := m) (rF := rF) (rS := rS) (fun k q row hr => ?_) st 0 row hr]
  · rw [sb]
    cases goS (ok1 n m rF rS) 0 st row <;> exact .one rfl
  · obtain ⟨x, v⟩ := q
    simp only
    by_cases h1 : 0 ≤ x ∧ x < (n : Int)
    · by_cases h2 : 0 ≤ v ∧ v < (m : Int)
      · obtain ⟨x, rfl⟩ := Int.eq_ofNat_of_zero_le h1.1
        obtain ⟨v, rfl⟩ := Int.eq_ofNat_of_zero_le h2.1
        have hx : x < n := by omega
        have hv : v < m := by omega
        obtain ⟨a1, a2⟩ := hr.at hx
        obtain ⟨b, b1, b2⟩ := hN.look _ a2
        obtain ⟨hi, i1, i2⟩ := hA.look x hx
        obtain ⟨lo, l1, l2⟩ := hB.look x hx
        obtain ⟨s1, _, _⟩ := rwv_set hr hx hv
        have e0 : ok1 n m rF rS row ((x : Int), (v : Int)) = (nb m rS (rwv row x) v && fitV n rF rS row x v) := by
          unfold ok1 good
          rw [decide_eq_true (show ((0 : Int) ≤ (x : Int) ∧ (x : Int) < (n : Int)) ∧ ((0 : Int) ≤ (v : Int) ∧ (v : Int) < (m : Int)) from ⟨h1, h2⟩), Bool.true_and, Int.toNat_natCast, Int.toNat_natCast]
        rw [e0, decide_eq_true h1.1, decide_eq_true h1.2, decide_eq_true h2.1, decide_eq_true h2.2]
        simp only [cond_true, cond_false, sb, Bool.not_true, a1, b1, shr_nat, bit_ok, b2, s1, i1, l1, fits_prog hF hr hx hv i2 l2 hR]
        cases nb m rS (rwv row x) v <;> cases fitV n rF rS row x v <;> rfl
      · have e0 : ok1 n m rF rS row (x, v) = false := by
          unfold ok1
          rw [decide_eq_false fun h => h2 h.2, Bool.false_and]
        rw [e0, decide_eq_true h1.1, decide_eq_true h1.2]
        by_cases h3 : 0 ≤ v
        · rw [decide_eq_true h3, decide_eq_false (show ¬ v < (m : Int) from fun h => h2 ⟨h3, h⟩)]
          rfl
        · rw [decide_eq_false h3]
          rfl
    · have e0 : ok1 n m rF rS row (x, v) = false := by
        unfold ok1
        rw [decide_eq_false fun h => h1 h.1, Bool.false_and]
      rw [e0]
      by_cases h3 : 0 ≤ x
      · rw [decide_eq_true h3, decide_eq_false (show ¬ x < (n : Int) from fun h => h1 ⟨h3, h⟩)]
        rfl
      · rw [decide_eq_false h3]
        rfl
/-- the map after steps that are all allowed -/
def runS (ok : List Int → Int × Int → Bool) : List (Int × Int) → List Int → Option (List Int)
  | [], row => some row
  | q :: st, row => bif ok row q then runS ok st (row.set q.1.toNat q.2) else none
theorem run_snoc {ok : List Int → Int × Int → Bool} {q : Int × Int} : ∀ {st : List (Int × Int)} {row r : List Int}, runS ok st row = some r → ok r q = true → runS ok (st ++ [q]) row = some (r.set q.1.toNat q.2)
  | [], row, r, h, e => by
    cases h
    show (bif ok row q then _ else _) = _
    rw [e]
    rfl
  | p :: st, row, r, h, e => by
    show (bif ok row p then _ else _) = _
    change (bif ok row p then _ else _) = _ at h
    cases hp : ok row p with
    | true =>
      rw [hp] at h
      exact run_snoc h e
    | false =>
      rw [hp] at h
      cases h
theorem go_run {ok : List Int → Int × Int → Bool} {rest : List (Int × Int)} : ∀ {st : List (Int × Int)} {k : Nat} {row r : List Int}, runS ok st row = some r → goS ok k (st ++ rest) row = goS ok (k + st.length) rest r
  | [], k, row, r, h => by
    cases h
    rfl
  | p :: st, k, row, r, h => by
    show (bif ok row p then _ else _) = _
    change (bif ok row p then _ else _) = _ at h
    cases hp : ok row p with
    | true =>
      rw [hp] at h
      have := go_run (rest := rest) (k := k + 1) h
      rw [show k + 1 + st.length = k + (p :: st).length by rw [List.length_cons]; omega] at this
      exact this
    | false =>
      rw [hp] at h
      cases h
theorem go_all {ok : List Int → Int × Int → Bool} {st : List (Int × Int)} {row r : List Int} (h : runS ok st row = some r) : goS ok 0 st row = .ok r := by
  have := go_run (rest := []) (k := 0) h
  rw [List.append_nil] at this
  rw [this]
  rfl
theorem go_bad {ok : List Int → Int × Int → Bool} {st rest : List (Int × Int)} {q : Int × Int} {row r : List Int} (h : runS ok st row = some r) (e : ok r q = false) : goS ok 0 (st ++ q :: rest) row = .er (.BadStep (st.length : Int)) := by
  rw [go_run (rest := q :: rest) (k := 0) h, Nat.zero_add]
  show (bif ok r q then _ else _) = _
  rw [e]
  rfl
theorem run_rw {n m : Nat} {rF rS : Nat → Nat → Bool} : ∀ {st : List (Int × Int)} {row r : List Int}, Rw n m row → runS (ok1 n m rF rS) st row = some r → Rw n m r
  | [], row, r, hr, h => by
    cases h
    exact hr
  | p :: st, row, r, hr, h => by
    change (bif ok1 n m rF rS row p then _ else _) = _ at h
    cases hp : ok1 n m rF rS row p with
    | true =>
      rw [hp] at h
      exact run_rw (ok1_rw hr hp) h
    | false =>
      rw [hp] at h
      cases h
end K13
set_option maxHeartbeats 1000000
namespace K13
open PySem PySem.Spec L2 CC
open PyProof.Rows hiding St
abbrev Lw := (Int × List (Int × Int)) × List (List Bool) × List Int × List (List Int)
/-- an order as the law keeps it -/
structure Lo (w : Lw) (n : Nat) (r : Nat → Nat → Bool) : Prop where
  n64 : n ≤ 64
  w1 : w.1.1 = (n : Int)
  po : Po n r
  prs : Prs n r w.1.2
  sq : Sq n w.2.1
  gt : ∀ x y, x < n → y < n → gt w.2.1 x y = r x y
  perm : w.2.2.1.Perm (rl n)
  line : ∀ (i j : Nat) (x y : Nat), w.2.2.1[i]? = some (x : Int) → w.2.2.1[j]? = some (y : Int) → r x y = true → i < j
  near : ∀ x : Nat, x < n → ∃ l, atI w.2.2.2 (x : Int) = some l ∧ (∀ y ∈ l, ∃ k : Nat, k < n ∧ y = (k : Int)) ∧ ∀ k : Nat, k < n → (r x k || r k x) = true → (k : Int) ∈ l
theorem Lo.look {w : Lw} {n : Nat} {r : Nat → Nat → Bool} (h : Lo w n r) {x : Nat} (hx : x < n) : ∃ row, atI w.2.1 (x : Int) = some row ∧ ∀ y : Nat, y < n → atI row (y : Int) = some (r x y) := by
  obtain ⟨q, q1, _, q2⟩ := h.sq.look hx
  exact ⟨q, q1, fun y hy => by rw [q2 y hy, h.gt x y hx hy]⟩
theorem lmost_ok {w : Lw} {n : Nat} {r : Nat → Nat → Bool} (h : Lo w n r) {x y : Nat} (hx : x < n) (hy : y < n) : M_law_at_most (w.2.1, (x : Int), (y : Int), ()) = some (le r x y) := by
  unfold M_law_at_most le
  obtain ⟨row, a1, a2⟩ := h.look hx
  simp only [a1, sb, a2 y hy]
  by_cases e : x = y
  · subst e; simp
  · rw [show decide ((x : Int) = (y : Int)) = false from decide_eq_false (by omega)]
    simp [e]
theorem filter_none {α : Type} {p : α → Bool} {l : List α} : decide (((l.filter p).length : Int) = 0) = !l.any p := by
  cases e : l.any p with
  | true =>
    obtain ⟨a, a1, a2⟩ := List.any_eq_true.mp e
    have : 0 < (l.filter p).length := List.length_pos_of_mem (List.mem_filter.mpr ⟨a1, a2⟩)
    exact decide_eq_false (by omega)
  | false =>
    have : l.filter p = [] := List.filter_eq_nil_iff.mpr fun a ha => List.any_eq_false.mp e a ha
    rw [this]
    rfl
theorem any_rl {n : Nat} {p : Nat → Bool} : ((rl n).any fun z => p z.toNat) = (List.range n).any p := by
  unfold rl
  rw [List.any_map]
  rfl
theorem lcov_ok {w : Lw} {n : Nat} {r : Nat → Nat → Bool} (h : Lo w n r) {x y : Nat} (hx : x < n) (hy : y < n) : M_law_covers (w.2.1, (x : Int), (y : Int), ()) = some (cov n r x y) := by
  unfold M_law_covers cov
  obtain ⟨row, a1, a2⟩ := h.look hx
  have hn := h.n64
  simp only [a1, sb, a2 y hy, h.sq.len, rng_nat (n := n) (show n ≤ 1000000 by omega)]
  rw [compM_eq (p := fun z => r x z.toNat && r z.toNat y) (g := fun z => z) (by rw [rl_len]; omega) (fun z hz => by
    obtain ⟨j, hj, rfl⟩ := rl_mem.mp hz
    obtain ⟨q, b1, b2⟩ := h.look hj
    rw [a2 j hj, sb, b1, sb, b2 y hy, Int.toNat_natCast]
    cases r x j <;> rfl) fun _ _ _ => rfl, sb, List.map_id', sb, filter_none, any_rl (p := fun z => r x z && r z y)]
  cases r x y <;> rfl
theorem same_int (d : Nat) (i : Int) : M_law_same (d + 1) (.int i, .int i, ()) = some true := by
  show N_law_same (M_law_same d) _ = _
  unfold N_law_same
  simp [pT, pL, pN, pS, pI, pB, eqA]
theorem same_bl (d : Nat) (i : Bool) : M_law_same (d + 1) (.bl i, .bl i, ()) = some true := by
  show N_law_same (M_law_same d) _ = _
  unfold N_law_same
  simp [pT, pL, pN, pS, pI, pB, eqA]
theorem same_str (d : Nat) (z : Str) : M_law_same (d + 1) (.str z, .str z, ()) = some true := by
  show N_law_same (M_law_same d) _ = _
  unfold N_law_same
  simp [pT, pL, pN, pS, pI, pB, eqA]
theorem same_tup {d : Nat} {xs : List PV} (hl : xs.length ≤ 1000000) (h : ∀ x ∈ xs, M_law_same d (x, x, ()) = some true) : M_law_same (d + 1) (.tup xs, .tup xs, ()) = some true := by
  show N_law_same (M_law_same d) _ = _
  unfold N_law_same
  simp only [pT, pL, cond_true, Bool.not_true, cond_false, lenA, bassoc, sb, decide_true, rng_nat (n := xs.length) hl]
  rw [loop_unit fun x hx => ?_]
  · rfl
  · obtain ⟨j, hj, rfl⟩ := rl_mem.mp hx
    simp only [ixA, atI_nat hj, sb, h _ (List.getElem_mem hj), Bool.not_true, cond_false]
theorem same_lst {d : Nat} {xs : List PV} (hl : xs.length ≤ 1000000) (h : ∀ x ∈ xs, M_law_same d (x, x, ()) = some true) : M_law_same (d + 1) (.lst xs, .lst xs, ()) = some true := by
  show N_law_same (M_law_same d) _ = _
  unfold N_law_same
  simp only [pT, pL, cond_true, Bool.not_true, cond_false, lenA, bassoc, sb, decide_true, rng_nat (n := xs.length) hl]
  rw [loop_unit fun x hx => ?_]
  · rfl
  · obtain ⟨j, hj, rfl⟩ := rl_mem.mp hx
    simp only [ixA, atI_nat hj, sb, h _ (List.getElem_mem hj), Bool.not_true, cond_false]
theorem lfits_ok {f s : Lw} {n m : Nat} {rF rS : Nat → Nat → Bool} (hF : Lo f n rF) (hS : Lo s m rS) {row : List Int} (hr : Rw n m row) {x v : Nat} (hx : x < n) (hv : v < m) : M_law_fits (f, s, row, (x : Int), (v : Int), ()) = some (fitV n rF rS row x v) := by
  unfold M_law_fits
  simp only [bassoc, sb, bind_id]
  obtain ⟨l, l1, l2, l3⟩ := hF.near x hx
  obtain ⟨qx, x1, x2⟩ := hF.look hx
  rw [l1, sb, all_loop (p := fun y => (!rF x y.toNat || le rS v (rwv row y.toNat)) && (!rF y.toNat x || le rS (rwv row y.toNat) v)) fun z hz => ?_]
  · have key : fitV n rF rS row x v = l.all fun y => (!rF x y.toNat || le rS v (rwv row y.toNat)) && (!rF y.toNat x || le rS (rwv row y.toNat) v) := by
      refine Bool.eq_iff_iff.mpr ?_
      unfold fitV
      rw [List.all_eq_true, List.all_eq_true]
      constructor
      · intro h z hz
        obtain ⟨k, hk, rfl⟩ := l2 z hz
        rw [Int.toNat_natCast]
        exact h k (List.mem_range.mpr hk)
      · intro h y hy
        have hy := List.mem_range.mp hy
        cases e : rF x y || rF y x with
        | true =>
          have := h _ (l3 y hy e)
          rwa [Int.toNat_natCast] at this
        | false =>
          obtain ⟨e1, e2⟩ := Bool.or_eq_false_iff.mp e
          rw [e1, e2]
          rfl
    rw [key]
    cases l.all _ <;> rfl
  · obtain ⟨y, hy, rfl⟩ := l2 z hz
    obtain ⟨qy, y1, y2⟩ := hF.look hy
    obtain ⟨r1, r2⟩ := hr.at hy
    simp only [x1, y1, sb, x2 y hy, y2 x hx, r1, lmost_ok hS r2 hv, lmost_ok hS hv r2, Int.toNat_natCast]
    cases rF y x <;> cases rF x y <;> cases le rS (rwv row y) v <;> cases le rS v (rwv row y) <;> rfl
theorem fits1_eq : M_law_fits_1 = M_law_fits := rfl
theorem kind1_eq : M_law_kind_1 = M_law_kind := by
  unfold M_law_kind_1 M_law_kind
  rw [fits1_eq]
/-- the name of a step -/
def knd (n m : Nat) (rF rS : Nat → Nat → Bool) (row : List Int) (x v : Nat) : Str :=
  bif decide (rwv row x = v) then Str.ofString "same"
  else bif nb m rS (rwv row x) v then bif fitV n rF rS row x v then Str.ofString "good" else Str.ofString "stuck"
  else bif fitV n rF rS row x v then bif rS (rwv row x) v || rS v (rwv row x) then Str.ofString "far" else Str.ofString "apart" else Str.ofString "rough"
theorem kind_ok {f s : Lw} {n m : Nat} {rF rS : Nat → Nat → Bool} (hF : Lo f n rF) (hS : Lo s m rS) {row : List Int} (hr : Rw n m row) {x v : Nat} (hx : x < n) (hv : v < m) : M_law_kind (f, s, row, (x : Int), (v : Int), ()) = some (knd n m rF rS row x v) := by
  unfold M_law_kind knd nb
  simp only [bassoc, sb, bind_id]
  obtain ⟨a1, a2⟩ := hr.at hx
  obtain ⟨w, w1, w2⟩ := hS.look a2
  obtain ⟨u, u1, u2⟩ := hS.look hv
  simp only [a1, sb, lfits_ok hF hS hr hx hv, lcov_ok hS a2 hv, lcov_ok hS hv a2, w1, w2 v hv, u1, u2 _ a2]
  rw [show decide ((rwv row x : Int) = (v : Int)) = decide (rwv row x = v) from decide_eq_decide.mpr (by omega)]
  cases decide (rwv row x = v) <;> cases cov m rS (rwv row x) v <;> cases cov m rS v (rwv row x) <;> cases fitV n rF rS row x v <;> cases rS (rwv row x) v <;> cases rS v (rwv row x) <;> rfl
theorem good_iff {n m : Nat} {rF rS : Nat → Nat → Bool} (hS : Po m rS) {row : List Int} {x v : Nat} : decide (knd n m rF rS row x v = Str.ofString "good") = good n m rF rS row x v := by
  unfold knd good
  by_cases e : rwv row x = v
  · have : nb m rS (rwv row x) v = false := by
      unfold nb
      rw [e]
      have : cov m rS v v = false := by
        unfold cov
        rw [hS.ir v]
        rfl
      rw [this]
      rfl
    rw [this, decide_eq_true e]
    exact (by decide +kernel : decide (Str.ofString "same" = Str.ofString "good") = false)
  · rw [decide_eq_false e]
    cases nb m rS (rwv row x) v <;> cases fitV n rF rS row x v <;> cases rS (rwv row x) v || rS v (rwv row x) <;> decide +kernel
/-- the steps of one kind -/
theorem steps_of_ok {f s : Lw} {n m : Nat} {rF rS : Nat → Nat → Bool} (hF : Lo f n rF) (hS : Lo s m rS) {row : List Int} (hr : Rw n m row) (kind : Str) : Ok (M_law_steps_of (f, s, row, kind, ())) fun l => l.length ≤ 4096 ∧ ∀ q ∈ l, ∃ x v : Nat, x < n ∧ v < m ∧ q = ((x : Int), (v : Int)) ∧ knd n m rF rS row x v = kind := by
  have hn := hF.n64
  have hm := hS.n64
  unfold M_law_steps_of
  simp only [bassoc, sb, bind_id, hS.sq.len, hr.len, rng_nat (n := n) (show n ≤ 1000000 by omega), rng_nat (n := m) (show m ≤ 1000000 by omega), kind1_eq]
  refine (foldR_ok (fun k (l : List (Int × Int)) => l.length ≤ k * 64 ∧ ∀ q ∈ l, ∃ x v : Nat, x < n ∧ v < m ∧ q = ((x : Int), (v : Int)) ∧ knd n m rF rS row x v = kind) ⟨by simp, by simp⟩ fun k l hk hl => ?_).mono fun l hl => ⟨by have := hl.1; omega, hl.2⟩
  rw [compM_eq (p := fun v : Int => decide (knd n m rF rS row k v.toNat = kind)) (g := fun v => ((k : Int), v)) (by rw [rl_len]; omega) (fun z hz => by
    obtain ⟨j, hj, rfl⟩ := rl_mem.mp hz
    rw [kind_ok hF hS hr hk hj, sb, Int.toNat_natCast]) fun _ _ _ => rfl, sb]
  have hl2 : ((rl m).filter fun v : Int => decide (knd n m rF rS row k v.toNat = kind)).length ≤ 64 := by
    refine Nat.le_trans (List.length_filter_le _ _) ?_
    rw [rl_len]
    exact hm
  have hl1 := hl.1
  rw [catM_eq (by rw [List.length_map]; omega)]
  refine .one ⟨by rw [List.length_append, List.length_map]; omega, fun q hq => ?_⟩
  rcases List.mem_append.mp hq with hq | hq
  · exact hl.2 q hq
  · obtain ⟨v, hv, rfl⟩ := List.mem_map.mp hq
    obtain ⟨v1, v2⟩ := List.mem_filter.mp hv
    obtain ⟨j, hj, rfl⟩ := rl_mem.mp v1
    rw [Int.toNat_natCast] at v2
    exact ⟨k, j, hk, hj, rfl, of_decide_eq_true v2⟩
/-- one asking -/
theorem asked_ok {f s : Lw} {n m : Nat} {rF rS : Nat → Nat → Bool} (hF : Lo f n rF) (hS : Lo s m rS) {row : List Int} (hr : Rw n m row) (st : List (Int × Int)) (b : Bool) : M_law_asked (f, s, row, st, b, ()) = some (match goS (ok1 n m rF rS) 0 st row with | .ok r => .tup [.str (Str.ofString "told"), .tup (r.map .int)] | .er (.BadStep k) => .lst [.str (Str.ofString "step"), .int k, .bl true]) := by
  have e := apply_ok (st := st) hF.n64 hS.n64 hF.po hS.po hF.prs hS.prs hr
  rw [← hF.w1, ← hS.w1] at e
  have e1 : M_apply_steps (f.1, s.1, row, st, ()) = some (goS (ok1 n m rF rS) 0 st row) := e
  unfold M_law_asked
  simp only [e1, sb]
  cases goS (ok1 n m rF rS) 0 st row with
  | ok r => cases b <;> rfl
  | er x => cases x; cases b <;> rfl
theorem same_told {ps : List Int} (hl : ps.length ≤ 100000) (z : Str) : M_law_same 6 (.tup [.str z, .tup (ps.map .int)], .tup [.str z, .tup (ps.map .int)], ()) = some true := by
  refine same_tup (by simp) fun x hx => ?_
  simp only [List.mem_cons, List.not_mem_nil, or_false] at hx
  rcases hx with rfl | rfl
  · exact same_str 4 z
  · refine same_tup (by rw [List.length_map]; omega) fun x hx => ?_
    obtain ⟨r, hr, rfl⟩ := List.mem_map.mp hx
    exact same_int 3 _
theorem same_step (z : Str) (k : Int) (b : Bool) : M_law_same 6 (.lst [.str z, .int k, .bl b], .lst [.str z, .int k, .bl b], ()) = some true := by
  refine same_lst (by simp) fun x hx => ?_
  simp only [List.mem_cons, List.not_mem_nil, or_false] at hx
  rcases hx with rfl | rfl | rfl
  · exact same_str 4 z
  · exact same_int 4 _
  · exact same_bl 4 _
theorem ask_told {f s : Lw} {n m : Nat} {rF rS : Nat → Nat → Bool} (hF : Lo f n rF) (hS : Lo s m rS) {row r : List Int} (hr : Rw n m row) {st : List (Int × Int)} (b : Bool) (h : runS (ok1 n m rF rS) st row = some r) : ∃ v, M_law_asked (f, s, row, st, b, ()) = some v ∧ M_law_same 6 (v, .tup [.str (Str.ofString "told"), .tup (r.map .int)], ()) = some true := by
  refine ⟨_, asked_ok hF hS hr st b, ?_⟩
  rw [go_all h]
  have := (run_rw hr h).len
  have := hF.n64
  exact same_told (by omega) _
theorem ask_bad {f s : Lw} {n m : Nat} {rF rS : Nat → Nat → Bool} (hF : Lo f n rF) (hS : Lo s m rS) {row r : List Int} (hr : Rw n m row) {st rest : List (Int × Int)} {q : Int × Int} (b : Bool) (h : runS (ok1 n m rF rS) st row = some r) (e : ok1 n m rF rS r q = false) : ∃ v, M_law_asked (f, s, row, st ++ q :: rest, b, ()) = some v ∧ M_law_same 6 (v, .lst [.str (Str.ofString "step"), .int (st.length : Int), .bl true], ()) = some true := by
  refine ⟨_, asked_ok hF hS hr _ b, ?_⟩
  rw [go_bad h e]
  exact same_step _ _ _
end K13
set_option maxHeartbeats 1000000
namespace K13
open PySem PySem.Spec L2 CC
open PyProof.Rows hiding St
abbrev Rd := (List Int) × Int × Int × Int × Int × (List Int)
def RI (s : Rd) : Prop := 0 ≤ s.2.1 ∧ s.2.2.2.2.2.length = s.1.length
theorem mixed_ok (c t : Int) : Ok (M_law_mixed (c, t, ())) fun _ => True := by
  unfold M_law_mixed
  simp only [bassoc, sb, bind_id]
  rw [mulO_r (by omega) (by omega), sb, mulO_r (by omega) (by omega), sb, modO_eq (by omega), sb]
  generalize hx : (c * 48271 + t * 69621 + 12345) % 2147483647 = x
  have h1 : 0 ≤ x := hx ▸ mod_lo _ (by omega)
  have h2 : x < 2147483647 := hx ▸ mod_hi _ (by omega)
  rw [mulO_r (by omega) (by omega), sb, mulO_r (by omega) (by omega), sb, divO_eq (by omega) (by omega), sb, modO_eq (by omega), sb, mulO_r (by omega) (by omega), sb, divO_eq (by omega) (by omega), sb, modO_eq (by omega)]
  exact .one trivial
theorem draw_ok {m : Int} {s : Rd} (hm : 0 < m) (h2 : m < 1073741824) (h : RI s) : Ok (M_law_draw (m, ()) s) fun r => (0 ≤ r.1 ∧ r.1 < m) ∧ RI r.2 := by
  obtain ⟨hp, hl⟩ := h
  unfold M_law_draw
  refine Ok.bind (P := fun o => (∃ r, o = .rt r ∧ (0 ≤ r.1 ∧ r.1 < m) ∧ RI r.2) ∨ ∃ s', o = .nx s' ∧ RI s') ?_ fun o ho => ?_
  · refine Ok.bind (P := fun _ => True) (.bif (fun _ => .one trivial) fun _ => .one trivial) fun b _ => .bif (fun _ => .bif (fun e => ?_) fun e => ?_) fun _ => .one (.inr ⟨_, rfl, hp, hl⟩)
    · simp only [bassoc, sb]
      refine .bind (P := fun _ => True) (.bif (fun e2 => ?_) fun _ => .one trivial) fun z _ => ?_
      · have e2' := of_decide_eq_true e2
        rw [modO_eq e2', sb]
        exact .bind (atI_mem (mod_lo _ e2') (mod_hi _ e2')) fun _ _ => .one trivial
      · refine .bind (mixed_ok _ _) fun q _ => ?_
        rw [modO_eq hm]
        exact .one (.inl ⟨_, rfl, ⟨mod_lo _ hm, mod_hi _ hm⟩, hp, hl⟩)
    · have e' : s.2.1 < (s.1.length : Int) := by have := of_decide_eq_false e; omega
      refine .bind (atI_mem hp e') fun c _ => ?_
      refine .bind (P := fun _ => True) (.bif (fun _ => .one trivial) fun _ => ?_) fun b _ => .bif (fun _ => ?_) fun _ => ?_
      · rw [modO_eq (by omega)]
        exact .one trivial
      · simp only [bassoc, sb]
        rw [show s.2.1 + 1 - 1 = s.2.1 by omega]
        refine .bind (atI_mem hp (by rw [hl]; exact e')) fun c2 _ => .bind (mixed_ok _ _) fun q _ => ?_
        rw [modO_eq hm]
        exact .one (.inl ⟨_, rfl, ⟨mod_lo _ hm, mod_hi _ hm⟩, by simp only; omega, hl⟩)
      · rw [divO_eq (by omega) (by omega)]
        exact .one (.inr ⟨_, rfl, by simp only; omega, hl⟩)
  · rcases ho with ⟨r, rfl, hr⟩ | ⟨s', rfl, hs⟩
    · exact .one hr
    · show Ok ((modO s'.2.2.1 m).bind _) _
      rw [modO_eq hm, sb, divO_eq hm h2]
      exact .one ⟨⟨mod_lo _ hm, mod_hi _ hm⟩, hs⟩
/-- a drawn place of a list -/
theorem pick_ok {α : Type} {xs : List α} {s : Rd} (h0 : 0 < xs.length) (h1 : xs.length ≤ 1000000) (h : RI s) : Ok ((M_law_draw ((xs.length : Int), ()) s).bind fun q => (atI xs q.1).bind fun z => some (z, q.2)) fun r => r.1 ∈ xs ∧ RI r.2 := by
  refine .bind (draw_ok (by omega) (by omega) h) fun q hq => .bind (atI_mem hq.1.1 hq.1.2) fun z hz => .one ⟨hz, hq.2⟩
theorem compGoE_ok {α β τ : Type} {t : α → τ → Option (Bool × τ)} {f : α → τ → Option (β × τ)} {I : τ → Prop} {P : β → Prop} : ∀ (xs : List α) {s : τ}, I s → (∀ x ∈ xs, ∀ s, I s → Ok (t x s) fun b => I b.2) → (∀ x ∈ xs, ∀ s, I s → Ok (f x s) fun r => P r.1 ∧ I r.2) → Ok (compGoE t f xs s) fun r => (∀ y ∈ r.1, P y) ∧ I r.2
  | [], s, h, _, _ => .one ⟨by simp, h⟩
  | x :: xs, s, h, ht, hf => by
    have ht' : ∀ y ∈ xs, ∀ s, I s → Ok (t y s) fun b => I b.2 := fun y hy => ht y (List.mem_cons_of_mem _ hy)
    have hf' : ∀ y ∈ xs, ∀ s, I s → Ok (f y s) fun r => P r.1 ∧ I r.2 := fun y hy => hf y (List.mem_cons_of_mem _ hy)
    refine .bind (ht x List.mem_cons_self s h) fun b hb => .bif (fun _ => .bind (hf x List.mem_cons_self _ hb) fun r hr => .bind (compGoE_ok xs hr.2 ht' hf') fun q hq => .one ⟨fun y hy => ?_, hq.2⟩) fun _ => compGoE_ok xs hb ht' hf'
    rcases List.mem_cons.mp hy with rfl | hy
    · exact hr.1
    · exact hq.1 y hy
theorem compME_ok {α β τ : Type} {t : α → τ → Option (Bool × τ)} {f : α → τ → Option (β × τ)} (I : τ → Prop) (P : β → Prop) {xs : List α} {s : τ} (hl : xs.length ≤ 1000000) (h : I s) (ht : ∀ x ∈ xs, ∀ s, I s → Ok (t x s) fun b => I b.2) (hf : ∀ x ∈ xs, ∀ s, I s → Ok (f x s) fun r => P r.1 ∧ I r.2) : Ok (compME t f xs s) fun r => (∀ y ∈ r.1, P y) ∧ I r.2 := by
  unfold compME
  rw [if_pos (show xs.length ≤ LIM from hl)]
  exact compGoE_ok xs h ht hf
theorem cut_sub {α : Type} {xs : List α} {a b : Option Int} : ∀ x ∈ cutL xs a b, x ∈ xs := fun x hx => List.mem_of_mem_drop (List.mem_of_mem_take hx)
theorem cut_len {α : Type} {xs : List α} {a b : Option Int} : (cutL xs a b).length ≤ xs.length := by
  unfold cutL
  rw [List.length_take, List.length_drop]
  omega
theorem cut_take {α : Type} {xs : List α} {k : Nat} (h : k ≤ xs.length) : cutL xs none (some (k : Int)) = xs.take k := by
  unfold cutL
  rw [HT.sIx_none, HT.sIx_nat, List.drop_zero, Nat.sub_zero, Nat.min_eq_left h]
theorem rep_sub {α : Type} {x : α} {b : Bool} {l : List α} (h : repM [x] (CC.b2i b) = some l) : ∀ y ∈ l, y = x := by
  cases b with
  | false =>
    cases h
    simp
  | true =>
    cases h
    simp
theorem lows_ok {e : List Int} {k : Nat} {s : Rd} (hl : e.length ≤ 1000) (hk : k ≤ 5) (h : RI s) : Ok (M_law_lows (e, (k : Int), ()) s) fun r => (∀ x ∈ r.1, x ∈ e) ∧ RI r.2 := by
  unfold M_law_lows
  simp only [bassoc, sb, bind_id, bind_eta]
  refine .bif (fun _ => .one ⟨by simp, h⟩) fun e0 => ?_
  have e0 := of_decide_eq_false e0
  refine .bind (draw_ok (by omega) (by omega) h) fun q hq => .bind (atI_mem hq.1.1 hq.1.2) fun z hz => .bif (fun ek => ?_) fun ek => .bif (fun e2 => ?_) fun e2 => .bif (fun e3 => ?_) fun e3 => ?_
  · have ek := of_decide_eq_true ek
    refine .bind (draw_ok (by omega) (by omega) hq.2) fun d hd => .bind (atI_mem (by omega) (by simp only [List.length_cons, List.length_nil]; omega)) fun c _ => ?_
    obtain ⟨l, e1⟩ : ∃ l, repM [z] (CC.b2i (decide (c ≤ d.1))) = some l := by
      cases decide (c ≤ d.1) <;> exact ⟨_, rfl⟩
    rw [e1]
    exact .one ⟨fun x hx => by rw [rep_sub e1 x hx]; exact hz, hd.2⟩
  · refine (compME_ok RI (fun x => x ∈ e) (Nat.le_trans cut_len (by omega)) hq.2 (fun x _ s hs => .bind (draw_ok (by omega) (by omega) hs) fun r hr => .one hr.2) fun x hx s hs => .one ⟨cut_sub x hx, hs⟩)
  · exact .one ⟨fun x hx => cut_sub x hx, hq.2⟩
  · have e2 := of_decide_eq_false e2
    have e3 := of_decide_eq_false e3
    have ek := of_decide_eq_false ek
    refine .bind (draw_ok (by omega) (by omega) hq.2) fun d hd => ?_
    have hd1 := hd.1
    rw [rng_int (by omega) (by omega), sb]
    refine .bind (mapRE_ok (fun _ s => RI s) (fun _ x => x ∈ e) (by omega) hd.2 fun i s hi hs => .bind (draw_ok (by omega) (by omega) hs) fun r hr => .bind (atI_mem hr.1.1 hr.1.2) fun y hy => .one ⟨hy, hr.2⟩) fun l hll => ?_
    rw [catM_eq (by rw [List.length_singleton]; have := hll.1; omega)]
    refine .one ⟨fun x hx => ?_, hll.2.2⟩
    rcases List.mem_append.mp hx with hx | hx
    · rw [List.mem_singleton.mp hx]; exact hz
    · obtain ⟨j, hj⟩ := List.mem_iff_getElem?.mp hx
      exact hll.2.1 j x hj
end K13
set_option maxHeartbeats 1000000
namespace K13
open PySem PySem.Spec L2 CC
open PyProof.Rows hiding St
theorem sq_lo {n : Nat} {t : List (List Bool)} (h : Sq n t) {x y : Nat} (e : gt t x y = true) : x < n ∧ y < n := by
  by_cases hx : x < n
  · refine ⟨hx, ?_⟩
    obtain ⟨q, q1, q2⟩ := h.rowk hx
    unfold gt at e
    rw [q1] at e
    simp only [Option.getD_some] at e
    by_cases hy : y < q.length
    · omega
    · rw [List.getElem?_eq_none (by omega)] at e
      cases e
  · unfold gt at e
    rw [show t[x]? = none from List.getElem?_eq_none (by rw [h.len]; omega)] at e
    cases e
theorem borrow_set {n : Nat} {t : List (List Bool)} (h : Sq n t) {x y : Nat} (b : Bool) (hx : x < n) (hy : y < n) : ∃ t', ((ixN t.length (x : Int)).bind fun k => (t[k]?).bind fun r => (setAt r (y : Int) b).bind fun r' => some (t.set k r')) = some t' ∧ Sq n t' ∧ ∀ i j, gt t' i j = if i = x ∧ j = y then b else gt t i j := by
  obtain ⟨t', h1, h2⟩ := h.set2 b hx hy
  refine ⟨t', ?_, h2⟩
  rw [← h1]
  obtain ⟨r, r1, r2⟩ := h.rowk hx
  have hx' : x < t.length := by rw [h.len]; exact hx
  rw [ixN_nat hx', sb, r1, sb]
  unfold setAt2
  rw [atI_nat? r1, sb]
  cases e : setAt r (y : Int) b with
  | none => rfl
  | some r' => rw [sb, sb, setAt_nat hx']
/-- the place of a value in a row -/
def ix (r : List Int) (v : Int) : Int := (r.idxOf v : Nat)
theorem ix_at {n : Nat} {r : List Int} (h : r.Perm (rl n)) {k : Nat} (hk : k < n) : atI r (k : Int) = some (rwv r k : Int) ∧ rwv r k < n ∧ r.idxOf (rwv r k : Int) = k := by
  obtain ⟨a1, a2⟩ := (Rw.perm h).at hk
  refine ⟨a1, a2, ?_⟩
  have hk' : k < r.length := by rw [h.length_eq, rl_len]; exact hk
  have e := a1
  rw [atI_nat hk'] at e
  rw [← Option.some.inj e]
  rw [(h.nodup_iff.mpr (rl_nodup n)).idxOf_getElem]
theorem ins_ok {n k : Nat} {xs : List Int} {i : Int} (h : xs.Perm (rl k)) (hk : k < 1000000) (h0 : 0 ≤ i) (h1 : i < 1000000000) : Ok (insM xs i (k : Int)) fun l => l.Perm (rl (k + 1)) := by
  unfold insM
  rw [if_pos ⟨by rw [h.length_eq, rl_len]; exact hk, h0, h1⟩]
  refine .one ?_
  rw [rl_succ]
  have p1 : (xs.take i.toNat ++ [(k : Int)] ++ xs.drop i.toNat).Perm ((k : Int) :: (xs.take i.toNat ++ xs.drop i.toNat)) := by
    rw [List.append_assoc]
    exact List.perm_middle
  rw [List.take_append_drop] at p1
  refine p1.trans ((List.Perm.cons _ h).trans ?_)
  exact (List.perm_append_singleton (k : Int) (rl k)).symm
/-- the table while it is filled -/
structure TI (n k : Nat) (pos : Nat → Nat) (t : List (List Bool)) : Prop where
  sq : Sq n t
  up : ∀ x z, gt t x z = true → pos x < pos z ∧ pos z < k
  tr : ∀ x z w, gt t x z = true → gt t z w = true → gt t x w = true
structure TV (n k y : Nat) (pos : Nat → Nat) (t0 t : List (List Bool)) : Prop where
  sq : Sq n t
  old : ∀ x z, z ≠ y → gt t x z = gt t0 x z
  up : ∀ x, gt t x y = true → pos x < k
  tr : ∀ x z, gt t x y = true → gt t0 z x = true → gt t z y = true
theorem gt_new {n : Nat} (n1 : n ≤ 1000000) : Ok (mapM (fun _ : Int => repM [false] (n : Int)) (rl n)) fun t => Sq n t ∧ ∀ x y, gt t x y = false := by
  refine (mapR_ok (P := fun _ r => r = List.replicate n false) n1 fun k hk => .of_eq (repM_one (n := n) n1) rfl).mono fun t ht => ?_
  have hs : Sq n t := ⟨ht.1, fun r hr => by
    obtain ⟨k, hk⟩ := List.mem_iff_getElem?.mp hr
    rw [ht.2 k r hk, List.length_replicate]⟩
  refine ⟨hs, fun x y => ?_⟩
  cases e : gt t x y with
  | false => rfl
  | true =>
    obtain ⟨hx, hy⟩ := sq_lo hs e
    obtain ⟨r, r1, r2⟩ := hs.rowk hx
    have := ht.2 x r r1
    unfold gt at e
    rw [r1] at e
    simp only [Option.getD_some] at e
    rw [this, List.getElem?_replicate, if_pos hy] at e
    cases e
theorem rl_asc (n : Nat) : (rl n).Pairwise fun x y => x < y := by
  unfold rl
  rw [List.pairwise_map]
  exact List.pairwise_lt_range.imp fun h => by omega
/-- the pairs of a table -/
def prF (n : Nat) (t : List (List Bool)) (x : Int) : List (Int × Int) := ((rl n).filter fun y => gt t x.toNat y.toNat).map fun y => (x, y)
theorem prF_len {n : Nat} {t : List (List Bool)} {x : Int} : (prF n t x).length ≤ n := by
  unfold prF
  rw [List.length_map]
  refine Nat.le_trans (List.length_filter_le _ _) ?_
  rw [rl_len]
  exact Nat.le_refl _
theorem flat_len' {α β : Type} {f : α → List β} {c : Nat} : ∀ {l : List α}, (∀ x ∈ l, (f x).length ≤ c) → (l.flatMap f).length ≤ l.length * c
  | [], _ => Nat.zero_le _
  | a :: l, h => by
    have := flat_len' (f := f) (c := c) (l := l) fun x hx => h x (List.mem_cons_of_mem _ hx)
    have := h a List.mem_cons_self
    rw [List.flatMap_cons, List.length_append, List.length_cons, Nat.succ_mul]
    omega
theorem prs_of {n : Nat} {t : List (List Bool)} (hn : n ≤ 64) (hs : Sq n t) : Prs n (gt t) ((rl n).flatMap (prF n t)) := by
  refine ⟨fun p hp => ?_, fun x y e => ?_, ?_, ?_⟩
  · obtain ⟨x, hx, hp⟩ := List.mem_flatMap.mp hp
    obtain ⟨y, hy, rfl⟩ := List.mem_map.mp hp
    obtain ⟨hy1, hy2⟩ := List.mem_filter.mp hy
    obtain ⟨i, hi, rfl⟩ := rl_mem.mp hx
    obtain ⟨j, hj, rfl⟩ := rl_mem.mp hy1
    exact ⟨i, j, rfl, hy2⟩
  · obtain ⟨hx, hy⟩ := sq_lo hs e
    exact List.mem_flatMap.mpr ⟨_, rl_mem.mpr ⟨x, hx, rfl⟩, List.mem_map.mpr ⟨_, List.mem_filter.mpr ⟨rl_mem.mpr ⟨y, hy, rfl⟩, e⟩, rfl⟩⟩
  · refine List.pairwise_flatMap.mpr ⟨fun x _ => ?_, (rl_asc n).imp fun {a b} h p hp q hq => ?_⟩
    · unfold prF
      rw [List.pairwise_map]
      refine ((rl_asc n).filter _).imp fun h => ?_
      unfold ltPI
      simp only [if_true, decide_eq_true_eq]
      exact h
    · obtain ⟨y, _, rfl⟩ := List.mem_map.mp hp
      obtain ⟨z, _, rfl⟩ := List.mem_map.mp hq
      unfold ltPI
      rw [if_neg (show ¬ a = b by omega), decide_eq_true_eq]
      exact h
  · have := flat_len' (f := prF n t) (c := n) (l := rl n) fun x _ => prF_len
    rw [rl_len] at this
    have : n * n ≤ 64 * 64 := Nat.mul_le_mul hn hn
    omega
theorem order_ok {n : Nat} (hn : n ≤ 64) {ks : List Int} (hks : ∀ z ∈ ks, 0 ≤ z ∧ z ≤ 5) (hk0 : 0 < ks.length) (hk1 : ks.length ≤ 1000) {s : Rd} (h : RI s) : Ok (M_law_order ((n : Int), ks, ()) s) fun r => (∃ rel, Lo r.1 n rel) ∧ RI r.2 := by
  have hr := rng_nat (n := n) (show n ≤ 1000000 by omega)
  unfold M_law_order
  simp only [bassoc, sb, bind_id, bind_eta, hr]
  refine .bind (foldR_ok (fun k s => RI s.1 ∧ s.2.Perm (rl k)) ⟨h, .refl _⟩ fun k s hk hs => ?_) fun q hq => ?_
  · refine .bind (draw_ok (by omega) (by omega) hs.1) fun d hd => .bind (ins_ok (n := n) hs.2 (by omega) hd.1.1 (by have := hd.1.2; omega)) fun l hl => .one ⟨hd.2, hl⟩
  obtain ⟨hq1, hq2⟩ := hq
  have hlen : q.2.length = n := by rw [hq2.length_eq, rl_len]
  refine .bind (draw_ok (by omega) (by omega) hq1) fun d hd => ?_
  refine .bind (P := fun z => ∃ k : Nat, z = (k : Int) ∧ k ≤ 5) ((atI_mem hd.1.1 hd.1.2).mono fun z hz => ?_) fun z hz => ?_
  · have := hks z hz
    exact ⟨z.toNat, by omega, by omega⟩
  obtain ⟨kind, rfl, hkind⟩ := hz
  refine .bind (gt_new (by omega)) fun t0 ht0 => ?_
  let pos : Nat → Nat := fun z => q.2.idxOf (z : Int)
  refine .bind (P := fun s : Rd × List (List Bool) => RI s.1 ∧ TI n n pos s.2) (foldR_ok (fun k (s : Rd × List (List Bool)) => RI s.1 ∧ TI n k pos s.2) ⟨hd.2, ht0.1, fun x z e => (by rw [ht0.2] at e; cases e), fun x z w e => (by rw [ht0.2] at e; cases e)⟩ fun k s hk hs => ?_) fun u hu => ?_
  · obtain ⟨y1, y2, y3⟩ := ix_at hq2 hk
    generalize hy : rwv q.2 k = y at y1 y2 y3
    have y3 : pos y = k := y3
    obtain ⟨hs1, hs2⟩ := hs
    rw [y1, sb, cut_take (by omega)]
    refine .bind (lows_ok (by rw [List.length_take]; omega) hkind hs1) fun l hl => ?_
    refine Ok.mono (P := fun s' : Rd × List (List Bool) => RI s'.1 ∧ TV n k y pos s.2 s'.2) (fold_ok (s := (l.2, s.2)) (fun _ (s' : Rd × List (List Bool)) => RI s'.1 ∧ TV n k y pos s.2 s'.2) ⟨hl.2, hs2.sq, fun _ _ _ => rfl, fun x e => by have := hs2.up x y e; omega, fun x z e1 e2 => hs2.tr _ _ _ e2 e1⟩ fun pre a s' ha hs' => ?_) fun s' hs' => ?_
    · obtain ⟨i, hi⟩ := List.mem_iff_getElem?.mp (hl.1 a ha)
      rw [List.getElem?_take] at hi
      have hik : i < k := by
        by_cases q : i < k
        · exact q
        · rw [if_neg q] at hi; cases hi
      rw [if_pos hik] at hi
      obtain ⟨a1, a2, a3⟩ := ix_at hq2 (k := i) (by omega)
      rw [atI_nat? hi] at a1
      have ea := Option.some.inj a1
      generalize hb : rwv q.2 i = b at a2 a3 ea
      have a3 : pos b = i := a3
      subst ea
      obtain ⟨g1, g2⟩ := hs'
      refine .bind (foldR_ok (fun i (t : List (List Bool)) => Sq n t ∧ (∀ x z, z ≠ y → gt t x z = gt s.2 x z) ∧ ∀ x, gt t x y = (gt s'.2 x y || (decide (x < i) && (decide (x = b) || gt s.2 x b)))) ⟨g2.sq, g2.old, fun x => by simp⟩ fun x t hx ht => ?_) fun t ht => .one ⟨g1, ?_⟩
      · obtain ⟨t1, t2, t3⟩ := ht
        have hby : b ≠ y := fun e => by rw [e] at a3; omega
        obtain ⟨row, r1, _, r2⟩ := t1.look hx
        simp only [r1, sb, r2 b a2]
        have ec : (bif decide ((x : Int) = (b : Int)) then some true else some (gt t x b)) = some (decide (x = b) || gt s.2 x b) := by
          rw [t2 x b hby]
          by_cases e : x = b
          · subst e; simp
          · rw [show decide ((x : Int) = (b : Int)) = false from decide_eq_false (by omega)]
            simp [e]
        rw [ec, sb]
        refine .bif (fun e => ?_) fun e => .one ⟨t1, t2, fun x' => ?_⟩
        · obtain ⟨t', b1, b2, b3⟩ := borrow_set t1 (x := x) (y := y) true hx y2
          refine .of_eq b1 ⟨b2, fun x' z hz => ?_, fun x' => ?_⟩
          · rw [b3, if_neg fun e => hz e.2, t2 x' z hz]
          · rw [b3]
            by_cases ex : x' = x
            · subst ex
              rw [if_pos ⟨rfl, rfl⟩, e]
              simp
            · rw [if_neg fun e => ex e.1, t3]
              simp [show (x' < x + 1) ↔ x' < x by omega]
        · rw [t3]
          by_cases ex : x' = x
          · subst ex
            rw [e]
            simp
          · simp [show (x' < x + 1) ↔ x' < x by omega]
      · obtain ⟨t1, t2, t3⟩ := ht
        refine ⟨t1, t2, fun x e => ?_, fun x z e1 e2 => ?_⟩
        · rw [t3, Bool.or_eq_true, Bool.and_eq_true, Bool.or_eq_true, decide_eq_true_eq, decide_eq_true_eq] at e
          rcases e with e | ⟨_, e | e⟩
          · exact g2.up x e
          · subst e; omega
          · have := hs2.up x b e
            omega
        · have hz := (sq_lo hs2.sq e2).1
          rw [t3, Bool.or_eq_true, Bool.and_eq_true, Bool.or_eq_true, decide_eq_true_eq, decide_eq_true_eq] at e1 ⊢
          rcases e1 with e | ⟨_, e | e⟩
          · exact .inl (g2.tr x z e e2)
          · subst e
            exact .inr ⟨hz, .inr e2⟩
          · exact .inr ⟨hz, .inr (hs2.tr _ _ _ e2 e)⟩
    · obtain ⟨g1, g2⟩ := hs'
      refine ⟨g1, g2.sq, fun x z e => ?_, fun x z w e1 e2 => ?_⟩
      · by_cases ez : z = y
        · subst ez
          have := g2.up x e
          omega
        · rw [g2.old x z ez] at e
          have := hs2.up x z e
          omega
      · by_cases ew : w = y
        · subst ew
          have hz := g2.up z e2
          have ezy : z ≠ w := fun e => by subst e; omega
          rw [g2.old x z ezy] at e1
          exact g2.tr z x e2 e1
        · rw [g2.old z w ew] at e2
          have hz := hs2.up z w e2
          have ezy : z ≠ y := fun e => by subst e; omega
          rw [g2.old x z ezy] at e1
          rw [g2.old x w ew]
          exact hs2.tr _ _ _ e1 e2
  · obtain ⟨u1, u2⟩ := hu
    refine .bind (foldR_ok (fun k (s : List (Int × Int)) => s = (rl k).flatMap (prF n u.2)) rfl fun k s hk hs => ?_) fun ps hps => ?_
    · obtain ⟨row, r1, _, r2⟩ := u2.sq.look hk
      rw [compM_eq (p := fun y => gt u.2 k y.toNat) (g := fun y => ((k : Int), y)) (by rw [rl_len]; omega) (fun y hy => by
        obtain ⟨j, hj, rfl⟩ := rl_mem.mp hy
        rw [r1, sb, r2 j hj, Int.toNat_natCast]) fun _ _ _ => rfl, sb]
      have hl := flat_len' (f := prF n u.2) (c := n) (l := rl k) fun x _ => prF_len
      have hl2 := prF_len (n := n) (t := u.2) (x := (k : Int))
      rw [rl_len] at hl
      have hkn : k * n ≤ 64 * 64 := Nat.mul_le_mul (by omega) hn
      unfold prF at hl2
      simp only [Int.toNat_natCast] at hl2
      rw [hs, catM_eq (by omega)]
      refine .one ?_
      rw [rl_succ, List.flatMap_append, List.flatMap_cons, List.flatMap_nil, List.append_nil]
      unfold prF
      simp only [Int.toNat_natCast]
    · refine .bind (mapR_ok (P := fun x (l : List Int) => (∀ y ∈ l, ∃ k : Nat, k < n ∧ y = (k : Int)) ∧ ∀ k : Nat, k < n → (gt u.2 x k || gt u.2 k x) = true → (k : Int) ∈ l) (by omega) fun k hk => ?_) fun near hnear => .one ⟨⟨gt u.2, ?_⟩, u1⟩
      · obtain ⟨row, r1, _, r2⟩ := u2.sq.look hk
        refine .of_eq (compM_eq (p := fun y => gt u.2 k y.toNat || gt u.2 y.toNat k) (g := fun y => y) (by rw [rl_len]; omega) (fun y hy => by
          obtain ⟨j, hj, rfl⟩ := rl_mem.mp hy
          obtain ⟨row', w1, _, w2⟩ := u2.sq.look hj
          simp only [r1, w1, sb, r2 j hj, w2 k hk, Int.toNat_natCast]
          cases gt u.2 k j <;> rfl) fun _ _ _ => rfl) ⟨fun y hy => ?_, fun j hj e => ?_⟩
        · rw [List.map_id'] at hy
          exact rl_mem.mp (List.mem_filter.mp hy).1
        · rw [List.map_id']
          exact List.mem_filter.mpr ⟨rl_mem.mpr ⟨j, hj, rfl⟩, by rw [Int.toNat_natCast]; exact e⟩
      · refine ⟨hn, rfl, ⟨fun x y e => sq_lo u2.sq e, u2.tr, pos, fun x y e => (u2.up x y e).1⟩, by rw [hps]; exact prs_of hn u2.sq, u2.sq, fun _ _ _ _ => rfl, hq2, fun i j x y h1 h2 e => ?_, fun x hx => ?_⟩
        · have nd : q.2.Nodup := hq2.nodup_iff.mpr (rl_nodup n)
          have hp := (u2.up x y e).1
          obtain ⟨i1, i2⟩ := List.getElem?_eq_some_iff.mp h1
          obtain ⟨j1, j2⟩ := List.getElem?_eq_some_iff.mp h2
          have hi : q.2.idxOf (x : Int) = i := by rw [← i2]; exact nd.idxOf_getElem i i1
          have hj : q.2.idxOf (y : Int) = j := by rw [← j2]; exact nd.idxOf_getElem j j1
          have hp' : q.2.idxOf (x : Int) < q.2.idxOf (y : Int) := hp
          omega
        · have hx' : x < near.length := by rw [hnear.1]; exact hx
          exact ⟨near[x], atI_nat hx', hnear.2 x _ (List.getElem?_eq_getElem hx')⟩
end K13
set_option maxHeartbeats 1000000
namespace K13
open PySem PySem.Spec L2 CC
open PyProof.Rows hiding St
theorem loopG_ok {α τ ρ : Type} {f : α → τ → Option (Out τ ρ)} {Inv : Nat → τ → Prop} {R : ρ → Prop} : ∀ (xs : List α) (j : Nat) {s : τ}, Inv j s → (∀ k x s, xs[k]? = some x → Inv (j + k) s → Ok (f x s) fun o => (∃ s', o = .nx s' ∧ Inv (j + k + 1) s') ∨ ∃ r, o = .rt r ∧ R r) → Ok (loopGo f xs s) fun o => (∃ s', o = .nx s' ∧ Inv (j + xs.length) s') ∨ ∃ r, o = .rt r ∧ R r
  | [], j, s, h, _ => .one (.inl ⟨s, rfl, h⟩)
  | x :: xs, j, s, h, hs => by
    refine .bind (hs 0 x s rfl h) fun o ho => ?_
    rcases ho with ⟨s', rfl, h'⟩ | ⟨r, rfl, hr⟩
    · have := loopG_ok (R := R) xs (j + 1) h' fun k y s e hy => by
        have := hs (k + 1) y s (by simpa using e) (by rwa [show j + (k + 1) = j + 1 + k by omega])
        rwa [show j + (k + 1) = j + 1 + k by omega] at this
      rw [show j + 1 + xs.length = j + (x :: xs).length by rw [List.length_cons]; omega] at this
      exact this
    · exact .one (.inr ⟨r, rfl, hr⟩)
/-! ### points in line -/
def pos (w : Lw) (x : Nat) : Nat := w.2.2.1.idxOf (x : Int)
section
variable {w : Lw} {n : Nat} {r : Nat → Nat → Bool}
theorem Lo.llen (h : Lo w n r) : w.2.2.1.length = n := by rw [h.perm.length_eq, rl_len]
theorem Lo.at (h : Lo w n r) {k : Nat} {z : Int} (e : w.2.2.1[k]? = some z) : ∃ x : Nat, z = (x : Int) ∧ x < n ∧ pos w x = k ∧ k < n := by
  obtain ⟨k1, k2⟩ := List.getElem?_eq_some_iff.mp e
  obtain ⟨x, hx, rfl⟩ := rl_mem.mp (h.perm.mem_iff.mp (List.mem_of_getElem? e))
  have nd : w.2.2.1.Nodup := h.perm.nodup_iff.mpr (rl_nodup n)
  refine ⟨x, rfl, hx, ?_, by rw [h.llen] at k1; exact k1⟩
  unfold pos
  rw [← k2]
  exact nd.idxOf_getElem k k1
theorem Lo.pos_get (h : Lo w n r) {x : Nat} (hx : x < n) : w.2.2.1[pos w x]? = some (x : Int) ∧ pos w x < n := by
  obtain ⟨k, hk⟩ := List.mem_iff_getElem?.mp (h.perm.mem_iff.mpr (rl_mem.mpr ⟨x, hx, rfl⟩))
  obtain ⟨x', e, _, e2, e3⟩ := h.at hk
  have : x = x' := by omega
  subst this
  rw [e2]
  exact ⟨hk, e3⟩
theorem Lo.up (h : Lo w n r) {x y : Nat} (e : r x y = true) : pos w x < pos w y := by
  obtain ⟨hx, hy⟩ := h.po.lo x y e
  exact h.line _ _ x y (h.pos_get hx).1 (h.pos_get hy).1 e
theorem Lo.inj (h : Lo w n r) {x y : Nat} (hx : x < n) (hy : y < n) (e : pos w x = pos w y) : x = y := by
  have h1 := (h.pos_get hx).1
  rw [e, (h.pos_get hy).1] at h1
  have := Option.some.inj h1
  omega
end
theorem le_refl {r : Nat → Nat → Bool} {x : Nat} : le r x x = true := le_iff.mpr (.inl rfl)
theorem le_trans {n : Nat} {r : Nat → Nat → Bool} (h : Po n r) {x y z : Nat} (a : le r x y = true) (b : le r y z = true) : le r x z = true := by
  rcases le_iff.mp a with rfl | a
  · exact b
  · rcases le_iff.mp b with rfl | b
    · exact le_iff.mpr (.inr a)
    · exact le_iff.mpr (.inr (h.tr _ _ _ a b))
/-- a rising map -/
def Rs (rF rS : Nat → Nat → Bool) (row : List Int) : Prop := ∀ x y, rF x y = true → le rS (rwv row x) (rwv row y) = true
/-- the values at some points -/
def vals (n : Nat) (p : Nat → Bool) (row : List Int) : List Int := ((rl n).filter fun y => p y.toNat).map fun y => (rwv row y.toNat : Int)
theorem vals_mem {n : Nat} {p : Nat → Bool} {row : List Int} {z : Int} (h : z ∈ vals n p row) : ∃ y : Nat, y < n ∧ p y = true ∧ z = (rwv row y : Int) := by
  obtain ⟨y, hy, rfl⟩ := List.mem_map.mp h
  obtain ⟨h1, h2⟩ := List.mem_filter.mp hy
  obtain ⟨j, hj, rfl⟩ := rl_mem.mp h1
  exact ⟨j, hj, h2, rfl⟩
theorem mem_vals {n : Nat} {p : Nat → Bool} {row : List Int} {y : Nat} (hy : y < n) (h : p y = true) : (rwv row y : Int) ∈ vals n p row :=
  List.mem_map.mpr ⟨(y : Int), List.mem_filter.mpr ⟨rl_mem.mpr ⟨y, hy, rfl⟩, h⟩, rfl⟩
theorem vals_len {n : Nat} {p : Nat → Bool} {row : List Int} : (vals n p row).length ≤ n := by
  unfold vals
  rw [List.length_map]
  refine Nat.le_trans (List.length_filter_le _ _) ?_
  rw [rl_len]
  exact Nat.le_refl _
theorem lows_eq {f : Lw} {n m : Nat} {rF : Nat → Nat → Bool} {row : List Int} (hF : Lo f n rF) (hr : Rw n m row) {x : Nat} (hx : x < n) : compM (fun y => (atI f.2.1 y).bind fun q => atI q (x : Int)) (fun y => atI row y) (rl n) = some (vals n (fun y => rF y x) row) := by
  have hn := hF.n64
  exact compM_eq (p := fun y : Int => rF y.toNat x) (g := fun y : Int => (rwv row y.toNat : Int)) (by rw [rl_len]; omega) (fun y hy => by
    obtain ⟨j, hj, rfl⟩ := rl_mem.mp hy
    obtain ⟨q, q1, q2⟩ := hF.look hj
    rw [q1, sb, q2 x hx, Int.toNat_natCast]) fun y hy _ => by
    obtain ⟨j, hj, rfl⟩ := rl_mem.mp hy
    rw [(hr.at hj).1, Int.toNat_natCast]
theorem highs_eq {f : Lw} {n m : Nat} {rF : Nat → Nat → Bool} {row : List Int} (hF : Lo f n rF) (hr : Rw n m row) {x : Nat} (hx : x < n) : compM (fun y => (atI f.2.1 (x : Int)).bind fun q => atI q y) (fun y => atI row y) (rl n) = some (vals n (fun y => rF x y) row) := by
  have hn := hF.n64
  obtain ⟨q, q1, q2⟩ := hF.look hx
  exact compM_eq (p := fun y : Int => rF x y.toNat) (g := fun y : Int => (rwv row y.toNat : Int)) (by rw [rl_len]; omega) (fun y hy => by
    obtain ⟨j, hj, rfl⟩ := rl_mem.mp hy
    rw [q1, sb, q2 j hj, Int.toNat_natCast]) fun y hy _ => by
    obtain ⟨j, hj, rfl⟩ := rl_mem.mp hy
    rw [(hr.at hj).1, Int.toNat_natCast]
/-- values that are below m -/
def In (m : Nat) (l : List Int) : Prop := ∀ z ∈ l, ∃ k : Nat, k < m ∧ z = (k : Int)
theorem vals_in {n m : Nat} {p : Nat → Bool} {row : List Int} (hr : Rw n m row) : In m (vals n p row) := fun z hz => by
  obtain ⟨y, hy, _, rfl⟩ := vals_mem hz
  exact ⟨_, (hr.at hy).2, rfl⟩
theorem rl_in (n : Nat) : In n (rl n) := fun z hz => by
  obtain ⟨k, hk, e⟩ := rl_mem.mp hz
  exact ⟨k, hk, e⟩
theorem In.filter {m : Nat} {l : List Int} (h : In m l) (p : Int → Bool) : In m (l.filter p) := fun z hz => h z (List.mem_filter.mp hz).1
def upF (r : Nat → Nat → Bool) (lows : List Int) (v : Int) : Bool := !lows.any fun a => !le r a.toNat v.toNat
def dnF (r : Nat → Nat → Bool) (highs : List Int) (v : Int) : Bool := !highs.any fun a => !le r v.toNat a.toNat
theorem upF_iff {r : Nat → Nat → Bool} {lows : List Int} {v : Int} : upF r lows v = true ↔ ∀ a ∈ lows, le r a.toNat v.toNat = true := by
  unfold upF
  rw [Bool.not_eq_true', List.any_eq_false]
  exact forall_congr' fun a => forall_congr' fun _ => by cases le r a.toNat v.toNat <;> simp
theorem dnF_iff {r : Nat → Nat → Bool} {lows : List Int} {v : Int} : dnF r lows v = true ↔ ∀ a ∈ lows, le r v.toNat a.toNat = true := by
  unfold dnF
  rw [Bool.not_eq_true', List.any_eq_false]
  exact forall_congr' fun a => forall_congr' fun _ => by cases le r v.toNat a.toNat <;> simp
theorem fits_eq {s : Lw} {m : Nat} {rS : Nat → Nat → Bool} (hS : Lo s m rS) {lows vs : List Int} (h1 : In m lows) (h2 : lows.length ≤ 1000) (h3 : In m vs) (h4 : vs.length ≤ 1000) : compM (fun v => (compM (fun a => (M_law_at_most (s.2.1, a, v, ())).bind fun b => some (!b)) (fun a => some a) lows).bind fun l => some (decide ((l.length : Int) = 0))) (fun v => some v) vs = some (vs.filter (upF rS lows)) := by
  rw [compM_eq (p := upF rS lows) (g := fun z => z) (by omega) (fun v hv => by
    obtain ⟨j, hj, rfl⟩ := h3 v hv
    rw [compM_eq (p := fun a : Int => !le rS a.toNat j) (g := fun z => z) (by omega) (fun a ha => by
      obtain ⟨i, hi, rfl⟩ := h1 a ha
      rw [lmost_ok hS hi hj, sb, Int.toNat_natCast]) fun _ _ _ => rfl, sb, List.map_id', filter_none]
    unfold upF
    rw [Int.toNat_natCast]) fun _ _ _ => rfl, List.map_id']
theorem fits_eq' {s : Lw} {m : Nat} {rS : Nat → Nat → Bool} (hS : Lo s m rS) {lows vs : List Int} (h1 : In m lows) (h2 : lows.length ≤ 1000) (h3 : In m vs) (h4 : vs.length ≤ 1000) : compM (fun v => (compM (fun a => (M_law_at_most (s.2.1, v, a, ())).bind fun b => some (!b)) (fun a => some a) lows).bind fun l => some (decide ((l.length : Int) = 0))) (fun v => some v) vs = some (vs.filter (dnF rS lows)) := by
  rw [compM_eq (p := dnF rS lows) (g := fun z => z) (by omega) (fun v hv => by
    obtain ⟨j, hj, rfl⟩ := h3 v hv
    rw [compM_eq (p := fun a : Int => !le rS j a.toNat) (g := fun z => z) (by omega) (fun a ha => by
      obtain ⟨i, hi, rfl⟩ := h1 a ha
      rw [lmost_ok hS hj hi, sb, Int.toNat_natCast]) fun _ _ _ => rfl, sb, List.map_id', filter_none]
    unfold dnF
    rw [Int.toNat_natCast]) fun _ _ _ => rfl, List.map_id']
theorem rep_rw {n m v : Nat} (h : 0 < n → v < m) : Rw n m (List.replicate n (v : Int)) := ⟨List.length_replicate, fun z hz => by
  obtain ⟨h1, h2⟩ := List.mem_replicate.mp hz
  have := h (by omega)
  omega⟩
theorem rep_rwv {n v x : Nat} (hx : x < n) : rwv (List.replicate n (v : Int)) x = v := by
  unfold rwv
  rw [List.getElem?_replicate, if_pos hx]
  rfl
theorem map_ok {f s : Lw} {n m : Nat} {rF rS : Nat → Nat → Bool} (hF : Lo f n rF) (hS : Lo s m rS) (hnm : 0 < n → 0 < m) {st : Rd} (h : RI st) : Ok (M_law_map (f, s, ()) st) fun r => (Rw n m r.1 ∧ Rs rF rS r.1) ∧ RI r.2 := by
  have hn := hF.n64
  have hm := hS.n64
  unfold M_law_map
  simp only [bassoc, sb, bind_id, bind_eta, hF.sq.len, hS.sq.len, rng_nat (n := n) (show n ≤ 1000000 by omega), rng_nat (n := m) (show m ≤ 1000000 by omega), repM_one (n := n) (show n ≤ 1000000 by omega)]
  refine .bind (loopG_ok (Inv := fun i (q : Rd × List Int) => RI q.1 ∧ Rw n m q.2 ∧ ∀ x y, rF x y = true → pos f y < i → le rS (rwv q.2 x) (rwv q.2 y) = true) (R := fun r => (Rw n m r.1 ∧ Rs rF rS r.1) ∧ RI r.2) _ 0 ⟨h, rep_rw (v := 0) hnm, fun _ _ _ e => absurd e (Nat.not_lt_zero _)⟩ fun i z q hz hq => ?_) fun o ho => ?_
  · obtain ⟨x, rfl, hx, hpx, hi⟩ := hF.at hz
    rw [Nat.zero_add] at hq ⊢
    obtain ⟨q1, q2, q3⟩ := hq
    rw [lows_eq hF q2 hx, sb, fits_eq hS (vals_in q2) (Nat.le_trans vals_len (by omega)) (rl_in m) (by rw [rl_len]; omega), sb]
    have hfl : ((rl m).filter (upF rS (vals n (fun y => rF y x) q.2))).length ≤ m := by
      refine Nat.le_trans (List.length_filter_le _ _) ?_
      rw [rl_len]
      exact Nat.le_refl _
    refine .bif (fun _ => ?_) fun e => ?_
    · refine .bind (draw_ok (by omega) (by omega) q1) fun d hd => ?_
      obtain ⟨v, hv⟩ := Int.eq_ofNat_of_zero_le hd.1.1
      have hvm : v < m := by have := hd.1.2; omega
      rw [hv]
      refine .one (.inr ⟨_, rfl, ⟨rep_rw fun _ => hvm, fun a b hab => ?_⟩, hd.2⟩)
      obtain ⟨ha, hb⟩ := hF.po.lo a b hab
      rw [rep_rwv ha, rep_rwv hb]
      exact le_refl
    · have e := of_decide_eq_false e
      refine .bind (draw_ok (by omega) (by omega) q1) fun d hd => .bind (atI_mem hd.1.1 hd.1.2) fun v hv => ?_
      obtain ⟨v1, v2⟩ := List.mem_filter.mp hv
      obtain ⟨v, hvm, rfl⟩ := rl_mem.mp v1
      obtain ⟨a1, a2, a3⟩ := rwv_set q2 hx hvm
      rw [a1]
      refine .one (.inl ⟨_, rfl, hd.2, a2, fun a b hab hp => ?_⟩)
      have hup := hF.up hab
      obtain ⟨ha, hb⟩ := hF.po.lo a b hab
      by_cases ebx : b = x
      · subst ebx
        have : a ≠ b := fun e => by subst e; omega
        rw [a3, if_neg this, a3, if_pos rfl]
        have := upF_iff.mp v2 _ (mem_vals ha hab)
        rwa [Int.toNat_natCast, Int.toNat_natCast] at this
      · have hbx : pos f b ≠ i := fun e => ebx (hF.inj hb hx (by omega))
        have hax : a ≠ x := fun e => by subst e; omega
        rw [a3, if_neg hax, a3, if_neg ebx]
        exact q3 a b hab (by omega)
  · rcases ho with ⟨q, rfl, q1, q2, q3⟩ | ⟨r, rfl, hr⟩
    · refine .one ⟨⟨q2, fun x y hxy => q3 x y hxy ?_⟩, q1⟩
      rw [Nat.zero_add, hF.llen]
      exact (hF.pos_get (hF.po.lo x y hxy).2).2
    · exact .one hr
end K13
set_option maxHeartbeats 1000000
namespace K13
open PySem PySem.Spec L2 CC
open PyProof.Rows hiding St
theorem size_ok {s : Rd} (h : RI s) : Ok (M_law_size () s) fun r => (∃ n : Nat, r.1 = (n : Int) ∧ 0 < n ∧ n ≤ 64) ∧ RI r.2 := by
  unfold M_law_size
  simp only [bassoc, sb, bind_id, bind_eta]
  refine .bind (draw_ok (by omega) (by omega) h) fun d hd => .bif (fun _ => ?_) fun _ => ?_
  · exact .bind (draw_ok (by omega) (by omega) hd.2) fun r hr => .one ⟨⟨(1 + r.1).toNat, by have := hr.1; simp only; omega, by have := hr.1; omega, by have := hr.1; omega⟩, hr.2⟩
  · exact .bind (draw_ok (by omega) (by omega) hd.2) fun r hr => .one ⟨⟨(13 + r.1).toNat, by have := hr.1; simp only; omega, by have := hr.1; omega, by have := hr.1; omega⟩, hr.2⟩
theorem orders_ok {s : Rd} (h : RI s) : Ok (M_law_orders () s) fun r => (∃ n m rF rS, Lo r.1.1 n rF ∧ Lo r.1.2 m rS ∧ (0 < n → 0 < m)) ∧ RI r.2 := by
  unfold M_law_orders
  simp only [bassoc, sb, bind_id, bind_eta]
  refine .bind (draw_ok (by omega) (by omega) h) fun k hk => .bind (draw_ok (by omega) (by omega) hk.2) fun a ha => .bind (draw_ok (by omega) (by omega) ha.2) fun b hb => ?_
  let I : Rd × Int × Int → Prop := fun z => RI z.1 ∧ 0 ≤ z.2.1 ∧ z.2.1 ≤ 64 ∧ 0 ≤ z.2.2 ∧ z.2.2 ≤ 64 ∧ (0 < z.2.1 → 0 < z.2.2)
  have ha1 := ha.1
  have hb1 := hb.1
  refine .bind (P := I) (.bif (fun _ => ?_) fun _ => .one ⟨hb.2, by simp only; omega, by simp only; omega, by simp only; omega, by simp only; omega, by simp only; omega⟩) fun z hz => ?_
  · refine .bind (draw_ok (by omega) (by omega) hb.2) fun c hc => .bind (draw_ok (by omega) (by omega) hc.2) fun e he => ?_
    have hc1 := hc.1
    have he1 := he.1
    exact .one ⟨he.2, by simp only; omega, by simp only; omega, by simp only; omega, by simp only; omega, by simp only; omega⟩
  refine .bind (P := I) (.bif (fun _ => ?_) fun _ => .one hz) fun z hz => ?_
  · refine .bind (draw_ok (by omega) (by omega) hz.1) fun c hc => .bind (draw_ok (by omega) (by omega) hc.2) fun e he => ?_
    have hc1 := hc.1
    have he1 := he.1
    exact .one ⟨he.2, by simp only; omega, by simp only; omega, by simp only; omega, by simp only; omega, by simp only; omega⟩
  refine .bind (P := I) (.bif (fun _ => ?_) fun _ => .one hz) fun z hz => ?_
  · refine .bind (draw_ok (by omega) (by omega) hz.1) fun c hc => ?_
    have hc1 := hc.1
    exact .one ⟨hc.2, by simp only; omega, by simp only; omega, by simp only; omega, by simp only; omega, by simp only; omega⟩
  obtain ⟨s1, n, m⟩ := z
  obtain ⟨h1, h2, h3, h4, h5, h6⟩ := hz
  simp only at h1 h2 h3 h4 h5 h6
  obtain ⟨n, rfl⟩ := Int.eq_ofNat_of_zero_le h2
  obtain ⟨m, rfl⟩ := Int.eq_ofNat_of_zero_le h4
  refine .bif (fun _ => ?_) fun _ => ?_
  · refine .bind (draw_ok (by omega) (by omega) h1) fun c hc => ?_
    obtain ⟨n', en⟩ := Int.eq_ofNat_of_zero_le hc.1.1
    have hc1 := hc.1
    rw [en]
    refine .bind (order_ok (by omega) (by simp) (by simp) (by simp) hc.2) fun f hf => .bind (draw_ok (by omega) (by omega) hf.2) fun e he => ?_
    have he1 := he.1
    obtain ⟨m', em⟩ := Int.eq_ofNat_of_zero_le (a := 1 + e.1) (by omega)
    rw [em]
    refine .bind (order_ok (by omega) (by simp) (by simp) (by simp) he.2) fun g hg => ?_
    obtain ⟨rF, hF⟩ := hf.1
    obtain ⟨rS, hS⟩ := hg.1
    exact .one ⟨⟨n', m', rF, rS, hF, hS, by omega⟩, hg.2⟩
  refine .bind (order_ok (by omega) (by simp) (by simp) (by simp) h1) fun f hf => .bind (order_ok (by omega) (by simp) (by simp) (by simp) hf.2) fun g hg => ?_
  obtain ⟨rF, hF⟩ := hf.1
  obtain ⟨rS, hS⟩ := hg.1
  exact .one ⟨⟨n, m, rF, rS, hF, hS, by omega⟩, hg.2⟩
/-- values that cover it, or that it covers -/
def Cv (m : Nat) (c : Nat → Bool) (l : List Int) : Prop := l.length ≤ m ∧ ∀ z ∈ l, ∃ v : Nat, v < m ∧ z = (v : Int) ∧ c v = true
theorem over_ok {s : Lw} {m : Nat} {rS : Nat → Nat → Bool} (hS : Lo s m rS) {v : Nat} (hv : v < m) : Ok (M_law_over (s.2.1, (v : Int), ())) (Cv m fun w => cov m rS v w) := by
  have hm := hS.n64
  unfold M_law_over
  simp only [bassoc, sb, bind_id, bind_eta, hS.sq.len, rng_nat (n := m) (show m ≤ 1000000 by omega)]
  obtain ⟨q, q1, q2⟩ := hS.look hv
  rw [compM_eq (p := fun z : Int => rS v z.toNat) (g := fun z => z) (by rw [rl_len]; omega) (fun z hz => by
    obtain ⟨j, hj, rfl⟩ := rl_mem.mp hz
    rw [q1, sb, q2 j hj, Int.toNat_natCast]) fun _ _ _ => rfl, sb, List.map_id']
  have hi : ∀ z, z ∈ ((rl m).filter fun z => rS v z.toNat) ↔ ∃ k : Nat, k < m ∧ z = (k : Int) ∧ rS v k = true := fun z => by
    rw [List.mem_filter, rl_mem]
    constructor
    · rintro ⟨⟨k, hk, rfl⟩, e⟩
      exact ⟨k, hk, rfl, by rwa [Int.toNat_natCast] at e⟩
    · rintro ⟨k, hk, rfl, e⟩
      exact ⟨⟨k, hk, rfl⟩, by rwa [Int.toNat_natCast]⟩
  have hl : ((rl m).filter fun z => rS v z.toNat).length ≤ m := by
    refine Nat.le_trans (List.length_filter_le _ _) ?_
    rw [rl_len]
    exact Nat.le_refl _
  generalize (rl m).filter (fun z => rS v z.toNat) = ups at hi hl
  refine .of_eq (compM_eq (p := fun z : Int => !ups.any fun y => rS y.toNat z.toNat) (g := fun z => z) (by omega) (fun z hz => ?_) fun _ _ _ => rfl) ?_
  · obtain ⟨j, hj, rfl, _⟩ := (hi z).mp hz
    rw [compM_eq (p := fun y : Int => rS y.toNat j) (g := fun z => z) (by omega) (fun y hy => by
      obtain ⟨i, hi, rfl, _⟩ := (hi y).mp hy
      obtain ⟨w, w1, w2⟩ := hS.look hi
      rw [w1, sb, w2 j hj, Int.toNat_natCast]) fun _ _ _ => rfl, sb, List.map_id', filter_none, Int.toNat_natCast]
  · rw [List.map_id']
    refine ⟨Nat.le_trans (List.length_filter_le _ _) hl, fun z hz => ?_⟩
    obtain ⟨z1, z2⟩ := List.mem_filter.mp hz
    obtain ⟨j, hj, rfl, e⟩ := (hi z).mp z1
    rw [Bool.not_eq_true', List.any_eq_false] at z2
    refine ⟨j, hj, rfl, (cov_iff hS.po).mpr ⟨e, fun k ⟨k1, k2⟩ => ?_⟩⟩
    have := z2 _ ((hi _).mpr ⟨k, (hS.po.lo _ _ k1).2, rfl, k1⟩)
    rw [Int.toNat_natCast, Int.toNat_natCast] at this
    exact this k2
theorem under_ok {s : Lw} {m : Nat} {rS : Nat → Nat → Bool} (hS : Lo s m rS) {v : Nat} (hv : v < m) : Ok (M_law_under (s.2.1, (v : Int), ())) (Cv m fun w => cov m rS w v) := by
  have hm := hS.n64
  unfold M_law_under
  simp only [bassoc, sb, bind_id, bind_eta, hS.sq.len, rng_nat (n := m) (show m ≤ 1000000 by omega)]
  rw [compM_eq (p := fun z : Int => rS z.toNat v) (g := fun z => z) (by rw [rl_len]; omega) (fun z hz => by
    obtain ⟨j, hj, rfl⟩ := rl_mem.mp hz
    obtain ⟨q, q1, q2⟩ := hS.look hj
    rw [q1, sb, q2 v hv, Int.toNat_natCast]) fun _ _ _ => rfl, sb, List.map_id']
  have hi : ∀ z, z ∈ ((rl m).filter fun z => rS z.toNat v) ↔ ∃ k : Nat, k < m ∧ z = (k : Int) ∧ rS k v = true := fun z => by
    rw [List.mem_filter, rl_mem]
    constructor
    · rintro ⟨⟨k, hk, rfl⟩, e⟩
      exact ⟨k, hk, rfl, by rwa [Int.toNat_natCast] at e⟩
    · rintro ⟨k, hk, rfl, e⟩
      exact ⟨⟨k, hk, rfl⟩, by rwa [Int.toNat_natCast]⟩
  have hl : ((rl m).filter fun z => rS z.toNat v).length ≤ m := by
    refine Nat.le_trans (List.length_filter_le _ _) ?_
    rw [rl_len]
    exact Nat.le_refl _
  generalize (rl m).filter (fun z => rS z.toNat v) = ups at hi hl
  refine .of_eq (compM_eq (p := fun z : Int => !ups.any fun y => rS z.toNat y.toNat) (g := fun z => z) (by omega) (fun z hz => ?_) fun _ _ _ => rfl) ?_
  · obtain ⟨j, hj, rfl, _⟩ := (hi z).mp hz
    obtain ⟨w, w1, w2⟩ := hS.look hj
    rw [compM_eq (p := fun y : Int => rS j y.toNat) (g := fun z => z) (by omega) (fun y hy => by
      obtain ⟨i, hi, rfl, _⟩ := (hi y).mp hy
      rw [w1, sb, w2 i hi, Int.toNat_natCast]) fun _ _ _ => rfl, sb, List.map_id', filter_none, Int.toNat_natCast]
  · rw [List.map_id']
    refine ⟨Nat.le_trans (List.length_filter_le _ _) hl, fun z hz => ?_⟩
    obtain ⟨z1, z2⟩ := List.mem_filter.mp hz
    obtain ⟨j, hj, rfl, e⟩ := (hi z).mp z1
    rw [Bool.not_eq_true', List.any_eq_false] at z2
    refine ⟨j, hj, rfl, (cov_iff hS.po).mpr ⟨e, fun k ⟨k1, k2⟩ => ?_⟩⟩
    have := z2 _ ((hi _).mpr ⟨k, (hS.po.lo _ _ k1).2, rfl, k2⟩)
    rw [Int.toNat_natCast, Int.toNat_natCast] at this
    exact this k1
theorem compM_ex {α : Type} {t : α → Option Bool} {xs : List α} (hl : xs.length ≤ 1000000) (h : ∀ x ∈ xs, ∃ b, t x = some b) : ∃ p : α → Bool, compM t (fun x => some x) xs = some (xs.filter p) := by
  refine ⟨fun x => (t x).getD false, ?_⟩
  rw [compM_eq (p := fun x => (t x).getD false) (g := fun z => z) hl (fun x hx => by
    obtain ⟨b, e⟩ := h x hx
    rw [e]; rfl) fun _ _ _ => rfl, List.map_id']
theorem steep_ok {f s : Lw} {n m : Nat} {rF rS : Nat → Nat → Bool} (hF : Lo f n rF) (hS : Lo s m rS) (hm0 : 0 < m) {st : Rd} (h : RI st) : Ok (M_law_steep (f, s, ()) st) fun r => Rw n m r.1 ∧ RI r.2 := by
  have hn := hF.n64
  have hm := hS.n64
  unfold M_law_steep
  simp only [bassoc, sb, bind_id, bind_eta, hF.sq.len, hS.sq.len, rng_nat (n := m) (show m ≤ 1000000 by omega), repM_one (n := n) (show n ≤ 1000000 by omega)]
  refine .bind (draw_ok (by omega) (by omega) h) fun d hd => ?_
  rw [show (9 : Int) = ((9 : Nat) : Int) from rfl, rng_nat (n := 9) (show 9 ≤ 1000000 by omega), sb]
  refine .bind (foldR_ok (fun k (q : Rd × List Int) => RI q.1 ∧ In m q.2 ∧ 0 < q.2.length ∧ q.2.length ≤ k + 1) ⟨hd.2, fun z hz => ?_, by simp, by simp⟩ fun k q hk hq => ?_) fun c hc => ?_
  · rw [List.mem_singleton.mp hz]
    exact ⟨d.1.toNat, by have := hd.1; omega, by have := hd.1; omega⟩
  · obtain ⟨q1, q2, q3, q4⟩ := hq
    obtain ⟨z, hz, hzq⟩ : ∃ z, atI q.2 ((q.2.length : Int) - 1) = some z ∧ z ∈ q.2 := by
      obtain ⟨z, e, hz⟩ := atI_mem (xs := q.2) (z := (q.2.length : Int) - 1) (by omega) (by omega)
      exact ⟨z, e, hz⟩
    obtain ⟨v, hv, rfl⟩ := q2 z hzq
    obtain ⟨w, w1, w2⟩ := hS.look hv
    rw [hz]
    simp only [sb, w1]
    obtain ⟨p, hp⟩ := compM_ex (t := fun y => atI w y) (xs := rl m) (by rw [rl_len]; omega) fun y hy => by
      obtain ⟨j, hj, rfl⟩ := rl_mem.mp hy
      exact ⟨_, w2 j hj⟩
    rw [hp, sb]
    have hlen := List.length_filter_le p (rl m)
    rw [rl_len] at hlen
    refine .bif (fun e => ?_) fun _ => .one ⟨q1, q2, q3, Nat.le_succ_of_le q4⟩
    have e := of_decide_eq_true e
    refine .bind (draw_ok (by omega) (by omega) q1) fun c hc => .bind (atI_mem hc.1.1 hc.1.2) fun v hv => ?_
    rw [appM_eq (by omega)]
    refine .one ⟨hc.2, fun z hz => ?_, by rw [List.length_append, List.length_singleton]; omega, by rw [List.length_append, List.length_singleton]; omega⟩
    rcases List.mem_append.mp hz with hz | hz
    · exact q2 z hz
    · rw [List.mem_singleton.mp hz]
      exact (rl_in m).filter p v hv
  obtain ⟨c1, c2, c3, c4⟩ := hc
  refine .bind (foldG_ok (Inv := fun _ (q : Rd × List Int) => RI q.1 ∧ Rw n c.2.length q.2) _ 0 ⟨c1, rep_rw (v := 0) fun _ => c3⟩ fun i z q hz hq => ?_) fun q hq => ?_
  · obtain ⟨x, rfl, hx, _, _⟩ := hF.at hz
    obtain ⟨q1, q2⟩ := hq
    obtain ⟨l, l1, l2, _⟩ := hF.near x hx
    rw [l1, sb]
    refine .bind (P := fun b : Int => 0 ≤ b ∧ b < (c.2.length : Int)) (fold_ok (fun _ (b : Int) => 0 ≤ b ∧ b < (c.2.length : Int)) ⟨by omega, by omega⟩ fun pre y b hy hb => ?_) fun b hb => ?_
    · obtain ⟨y, hyn, rfl⟩ := l2 y hy
      obtain ⟨w, w1, w2⟩ := hF.look hyn
      obtain ⟨r1, r2⟩ := q2.at hyn
      simp only [w1, sb, w2 x hx, r1]
      refine .bind (P := fun _ => True) (.bif (fun _ => .one trivial) fun _ => .one trivial) fun _ _ => .bif (fun _ => .one ⟨by omega, by omega⟩) fun _ => .one hb
    · refine .bind (draw_ok (by omega) (by omega) q1) fun d hd => ?_
      have hd1 := hd.1
      refine .bind (P := fun v : Int => 0 ≤ v ∧ v < (c.2.length : Int)) (.bif (fun e => .one ?_) fun e => .one ?_) fun v hv => ?_
      · have e := of_decide_eq_true e
        omega
      · have e := of_decide_eq_false e
        omega
      · obtain ⟨v, rfl⟩ := Int.eq_ofNat_of_zero_le hv.1
        obtain ⟨a1, a2, _⟩ := rwv_set q2 hx (w := v) (by omega)
        rw [a1]
        exact .one ⟨hd.2, a2⟩
  · obtain ⟨q1, q2⟩ := hq
    refine .bind (mapM_ok (P := fun _ (z : Int) => ∃ k : Nat, k < m ∧ z = (k : Int)) (by have := q2.len; omega) fun x hx => ?_) fun r hr => .one ⟨⟨by rw [f2_len hr, q2.len], fun z hz => ?_⟩, q1⟩
    · obtain ⟨h1, h2⟩ := q2.lo x hx
      exact (atI_mem h1 h2).mono fun z hz => c2 z hz
    · obtain ⟨_, _, k, hk, e⟩ := f2_mem hr hz
      omega
theorem ok1_off {n m : Nat} {rF rS : Nat → Nat → Bool} {row : List Int} {q : Int × Int} (h : ¬ ((0 ≤ q.1 ∧ q.1 < (n : Int)) ∧ (0 ≤ q.2 ∧ q.2 < (m : Int)))) : ok1 n m rF rS row q = false := by
  unfold ok1
  rw [decide_eq_false h, Bool.false_and]
theorem ok1_good {n m : Nat} {rF rS : Nat → Nat → Bool} {row : List Int} {x v : Nat} (hx : x < n) (hv : v < m) : ok1 n m rF rS row ((x : Int), (v : Int)) = good n m rF rS row x v := by
  unfold ok1
  rw [decide_eq_true (show ((0 : Int) ≤ (x : Int) ∧ (x : Int) < (n : Int)) ∧ ((0 : Int) ≤ (v : Int) ∧ (v : Int) < (m : Int)) by omega), Bool.true_and, Int.toNat_natCast, Int.toNat_natCast]
theorem pow_ok : powO (10 : Int) (59 : Int) = some 100000000000000000000000000000000000000000000000000000000000 := by decide +kernel
theorem wrong_ok {f s : Lw} {n m : Nat} {rF rS : Nat → Nat → Bool} (hF : Lo f n rF) (hS : Lo s m rS) {row : List Int} (hr : Rw n m row) {st : Rd} (h : RI st) : Ok (M_law_wrong (f, s, row, ()) st) fun r => ok1 n m rF rS row r.1 = false ∧ RI r.2 := by
  have hn := hF.n64
  have hm := hS.n64
  unfold M_law_wrong
  simp only [bassoc, sb, bind_id, bind_eta, pow_ok, hr.len, hS.sq.len]
  refine .bind (draw_ok (by omega) (by omega) h) fun d hd => .bind (atI_mem hd.1.1 (by have := hd.1.2; simp only [List.length_cons, List.length_nil]; omega)) fun kind hk => ?_
  have hng : kind ≠ Str.ofString "good" := (by decide +kernel : ∀ z ∈ [(Str.ofString "same"), (Str.ofString "far"), (Str.ofString "apart"), (Str.ofString "stuck"), (Str.ofString "rough"), (Str.ofString "point"), (Str.ofString "value")], z ≠ Str.ofString "good") kind hk
  refine .bind (P := fun _ => True) (.bif (fun _ => .one trivial) fun _ => .one trivial) fun b _ => .bif (fun _ => ?_) fun _ => ?_
  · refine .bind (steps_of_ok hF hS hr _) fun l hl => ?_
    have hl1 := hl.1
    rw [catM_eq (by rw [List.length_singleton]; omega), sb]
    have hll : (l ++ [((0 : Int), (0 : Int))]).length = l.length + 1 := by rw [List.length_append, List.length_singleton]
    refine .bind (draw_ok (by split <;> omega) (by split <;> omega) hd.2) fun e he => .bind (atI_mem he.1.1 (by have := he.1.2; split at this <;> omega)) fun q hq => ?_
    have hb : (0 ≤ q.1 ∧ (q.1 < (n : Int) ∨ q.1 = 0)) ∧ (0 ≤ q.2 ∧ (q.2 < (m : Int) ∨ q.2 = 0)) := by
      rcases List.mem_append.mp hq with hq | hq
      · obtain ⟨x, v, hx, hv, rfl, _⟩ := hl.2 q hq
        simp only
        omega
      · rw [List.mem_singleton.mp hq]
        simp
    obtain ⟨⟨b1, b2⟩, b3, b4⟩ := hb
    refine .bif (fun _ => ?_) fun _ => ?_
    · refine .bind (draw_ok (by omega) (by omega) he.2) fun c hc => .bind (atI_mem hc.1.1 (by have := hc.1.2; simp only [List.length_cons, List.length_nil]; omega)) fun z hz => .one ⟨ok1_off fun hh => ?_, hc.2⟩
      simp only [List.mem_cons, List.not_mem_nil, or_false] at hz
      simp only at hh
      omega
    · refine .bind (draw_ok (by omega) (by omega) he.2) fun c hc => .bind (atI_mem hc.1.1 (by have := hc.1.2; simp only [List.length_cons, List.length_nil]; omega)) fun z hz => .one ⟨ok1_off fun hh => ?_, hc.2⟩
      simp only [List.mem_cons, List.not_mem_nil, or_false] at hz
      simp only at hh
      omega
  · refine .bind (steps_of_ok hF hS hr _) fun l hl => .bif (fun _ => .one ⟨ok1_off fun hh => ?_, hd.2⟩) fun e0 => ?_
    · simp only at hh
      omega
    · have e0 := of_decide_eq_false e0
      have hl1 := hl.1
      refine .bind (draw_ok (by omega) (by omega) hd.2) fun e he => .bind (atI_mem he.1.1 he.1.2) fun q hq => .one ⟨?_, he.2⟩
      obtain ⟨x, v, hx, hv, rfl, ek⟩ := hl.2 q hq
      rw [ok1_good hx hv, ← good_iff hS.po, ek]
      exact decide_eq_false hng
end K13
set_option maxHeartbeats 1000000
namespace K13
open PySem PySem.Spec L2 CC
open PyProof.Rows hiding St
theorem large_ok {s : Rd} (h : RI s) : Ok (M_law_large_right () s) fun r => r.1 = true := by
  unfold M_law_large_right
  simp only [bassoc, sb, bind_id, bind_eta]
  refine .bind (size_ok h) fun a ha => ?_
  obtain ⟨⟨n, en, n0, hn⟩, ha2⟩ := ha
  rw [en]
  refine .bind (order_ok hn (by simp) (by simp) (by simp) ha2) fun f hf => ?_
  obtain ⟨⟨rF, hF⟩, hf2⟩ := hf
  refine .bind (size_ok hf2) fun b hb => ?_
  obtain ⟨⟨m, em, m0, hm⟩, hb2⟩ := hb
  rw [em]
  refine .bind (order_ok hm (by simp) (by simp) (by simp) hb2) fun g hg => ?_
  obtain ⟨⟨rS, hS⟩, hg2⟩ := hg
  refine .bind (steep_ok hF hS m0 hg2) fun w hw => ?_
  obtain ⟨hr, hw2⟩ := hw
  refine .bind (draw_ok (by omega) (by omega) hw2) fun d hd => ?_
  have hd1 := hd.1
  rw [rng_int (by omega) (by omega), sb]
  refine .bind (foldR_ok (fun k (q : Rd × List Int × List (Int × Int)) => RI q.1 ∧ runS (ok1 n m rF rS) q.2.2 w.1 = some q.2.1 ∧ q.2.2.length ≤ k) ⟨hd.2, rfl, Nat.le_refl _⟩ fun k q hk hq => ?_) fun q hq => ?_
  · obtain ⟨q1, q2, q3⟩ := hq
    have q4 := run_rw hr q2
    rw [hr.len]
    refine .bind (draw_ok (by omega) (by omega) q1) fun e he => ?_
    obtain ⟨x, ex⟩ := Int.eq_ofNat_of_zero_le he.1.1
    have hx : x < n := by have := he.1.2; omega
    obtain ⟨b1, b2⟩ := q4.at hx
    rw [ex]
    simp only [b1, sb]
    refine .bind (over_ok hS b2) fun u hu => .bind (under_ok hS b2) fun v hv => ?_
    have hu1 := hu.1
    have hv1 := hv.1
    rw [catM_eq (by omega), sb]
    have hnear : ∀ z ∈ u ++ v, ∃ k : Nat, k < m ∧ z = (k : Int) ∧ nb m rS (rwv q.2.1 x) k = true := fun z hz => by
      rcases List.mem_append.mp hz with hz | hz
      · obtain ⟨k, k1, k2, k3⟩ := hu.2 z hz
        exact ⟨k, k1, k2, by unfold nb; rw [show cov m rS (rwv q.2.1 x) k = true from k3]; rfl⟩
      · obtain ⟨k, k1, k2, k3⟩ := hv.2 z hz
        exact ⟨k, k1, k2, by unfold nb; rw [show cov m rS k (rwv q.2.1 x) = true from k3, Bool.or_true]⟩
    have hlen : (u ++ v).length ≤ 128 := by rw [List.length_append]; omega
    rw [compM_eq (p := fun z : Int => fitV n rF rS q.2.1 x z.toNat) (g := fun z => z) (by omega) (fun z hz => by
      obtain ⟨j, hj, rfl, _⟩ := hnear z hz
      rw [lfits_ok hF hS q4 hx hj, Int.toNat_natCast]) fun _ _ _ => rfl, sb, List.map_id']
    have hfl := List.length_filter_le (fun z : Int => fitV n rF rS q.2.1 x z.toNat) (u ++ v)
    refine .bif (fun e0 => ?_) fun _ => .one ⟨he.2, q2, Nat.le_succ_of_le q3⟩
    have e0 := of_decide_eq_true e0
    refine .bind (draw_ok (by omega) (by omega) he.2) fun c hc => .bind (atI_mem hc.1.1 hc.1.2) fun z hz => ?_
    obtain ⟨z1, z2⟩ := List.mem_filter.mp hz
    obtain ⟨j, hj, rfl, z3⟩ := hnear z z1
    rw [Int.toNat_natCast] at z2
    obtain ⟨s1, s2, s3⟩ := rwv_set q4 hx hj
    have s4 := (s2.at hx).1
    rw [s3, if_pos rfl] at s4
    simp only [s1, sb, s4]
    rw [appM_eq (by omega)]
    refine .one ⟨hc.2, ?_, by rw [List.length_append, List.length_singleton]; omega⟩
    have := run_snoc q2 (q := ((x : Int), (j : Int))) (by rw [ok1_good hx hj]; unfold good; rw [z3, z2]; rfl)
    rwa [Int.toNat_natCast] at this
  obtain ⟨q1, q2, q3⟩ := hq
  have q4 := run_rw hr q2
  obtain ⟨v, v1, v2⟩ := ask_told hF hS hr false q2
  simp only [v1, v2, sb, Bool.not_true, cond_false]
  refine .bind (draw_ok (by omega) (by omega) q1) fun e he => ?_
  have he1 := he.1
  rw [rng_int (by omega) (by omega), sb]
  refine .bind (foldR_ok (fun _ (p : Rd × Int × Int) => RI p.1 ∧ ok1 n m rF rS q.2.1 p.2 = false) ⟨he.2, ok1_off fun hh => ?_⟩ fun k p hk hp => ?_) fun p hp => ?_
  · have := hr.len
    simp only at hh
    omega
  · rw [hr.len, hS.sq.len]
    refine .bind (draw_ok (by omega) (by omega) hp.1) fun a ha => .bind (draw_ok (by omega) (by omega) ha.2) fun b hb => ?_
    obtain ⟨x, ex⟩ := Int.eq_ofNat_of_zero_le ha.1.1
    obtain ⟨y, ey⟩ := Int.eq_ofNat_of_zero_le hb.1.1
    have hx : x < n := by have := ha.1.2; omega
    have hy : y < m := by have := hb.1.2; omega
    rw [ex, ey, kind_ok hF hS q4 hx hy, sb]
    refine .bind (P := fun z => ok1 n m rF rS q.2.1 z = false) (.bif (fun e0 => .one ?_) fun _ => .one hp.2) fun z hz => .one ⟨hb.2, hz⟩
    rw [ok1_good hx hy, ← good_iff hS.po]
    exact (Bool.not_eq_true' _).mp e0
  · rw [catM_eq (by simp only [List.length_cons, List.length_nil]; omega), sb]
    obtain ⟨v, v1, v2⟩ := ask_bad (rest := [((0 : Int), (0 : Int))]) hF hS hr true q2 hp.2
    simp only [v1, v2, sb]
    exact .one rfl
theorem cut_drop {α : Type} {xs : List α} {k : Nat} (h : k ≤ xs.length) : cutL xs (some (k : Int)) none = xs.drop k := by
  unfold cutL
  rw [HT.sIx_none, HT.sIx_nat]
  rw [Nat.min_eq_left h]
  exact List.take_of_length_le (by rw [List.length_drop]; exact Nat.le_refl _)
theorem set_cut {xs : List Int} {k : Nat} {z : Int} (h : k < xs.length) : cutL xs none (some (k : Int)) ++ [z] ++ cutL xs (some ((k : Int) + 1)) none = xs.set k z := by
  rw [cut_take (by omega), show ((k : Int) + 1) = ((k + 1 : Nat) : Int) by omega, cut_drop (by omega), List.set_eq_take_append_cons_drop, if_pos h, List.append_assoc]
  rfl
/-- maps and the steps between them -/
structure Pth (ok : List Int → Int × Int → Bool) (row : List Int) (rows : List (List Int)) (st : List (Int × Int)) : Prop where
  len : rows.length = st.length + 1
  nth : ∀ i r, rows[i]? = some r → runS ok (st.take i) row = some r
theorem Pth.get {ok : List Int → Int × Int → Bool} {row : List Int} {rows : List (List Int)} {st : List (Int × Int)} (h : Pth ok row rows st) {i : Nat} (hi : i ≤ st.length) : ∃ r, atI rows (i : Int) = some r ∧ runS ok (st.take i) row = some r := by
  have hi' : i < rows.length := by rw [h.len]; omega
  exact ⟨_, atI_nat hi', h.nth i _ (List.getElem?_eq_getElem hi')⟩
theorem Pth.snoc {ok : List Int → Int × Int → Bool} {row r : List Int} {rows : List (List Int)} {st : List (Int × Int)} {q : Int × Int} (h : Pth ok row rows st) (e : runS ok st row = some r) (hq : ok r q = true) : Pth ok row (rows ++ [r.set q.1.toNat q.2]) (st ++ [q]) := by
  refine ⟨by rw [List.length_append, List.length_append, h.len]; rfl, fun i w hw => ?_⟩
  have hl := h.len
  by_cases hi : i < rows.length
  · rw [List.getElem?_append_left hi] at hw
    rw [List.take_append_of_le_length (by omega)]
    exact h.nth i w hw
  · rw [List.getElem?_append_right (by omega)] at hw
    have hi2 : i - rows.length < [r.set q.1.toNat q.2].length := (List.getElem?_eq_some_iff.mp hw).1
    rw [List.length_singleton] at hi2
    rw [show i - rows.length = 0 by omega] at hw
    have := Option.some.inj hw
    subst this
    rw [List.take_of_length_le (by rw [List.length_append, List.length_singleton]; omega)]
    exact run_snoc e hq
theorem law_ok (ns : List Int) (h : ns.length ≤ 63) : M_law (ns, ()) = some true := by
  refine Ok.eq_some ?_
  unfold M_law M_law_start
  simp only [bassoc, sb, bind_id, bind_eta]
  rw [mapM_is (g := fun x => x) (by omega) fun _ _ => rfl, sb, List.map_id', mapM_is (g := fun x => x % 2147483629) (by omega) fun x _ => modO_eq (by omega), sb]
  refine .bind (draw_ok (by omega) (by omega) ⟨by simp only; omega, by simp only [List.length_map]⟩) fun d hd => .bif (fun _ => .bind (large_ok hd.2) fun r hr => .one hr) fun _ => ?_
  refine .bind (orders_ok hd.2) fun w hw => ?_
  obtain ⟨⟨n, m, rF, rS, hF, hS, hnm⟩, hw2⟩ := hw
  have hn := hF.n64
  have hm := hS.n64
  refine .bind (map_ok hF hS hnm hw2) fun row hrow => ?_
  obtain ⟨⟨hr, _⟩, hw3⟩ := hrow
  refine .bind (P := fun z : Int => z = 6 ∨ z = 2) (by cases decide ((12 : Int) < (row.1.length : Int)); exact .one (.inl rfl); exact .one (.inr rfl)) fun c hc => ?_
  refine .bind (draw_ok (by omega) (by omega) hw3) fun e he => ?_
  have he1 := he.1
  rw [rng_int (by omega) (by omega), sb]
  refine .bind (foldR_ok (fun k (q : Rd × List (List Int) × List (Int × Int)) => RI q.1 ∧ Pth (ok1 n m rF rS) row.1 q.2.1 q.2.2 ∧ q.2.2.length ≤ k) ⟨he.2, ⟨rfl, fun i r hir => ?_⟩, Nat.le_refl _⟩ fun k q hk hq => ?_) fun q hq => ?_
  · match i, hir with
    | 0, hir => cases hir; rfl
  · obtain ⟨q1, q2, q3⟩ := hq
    obtain ⟨r, r1, r2⟩ := q2.get (Nat.le_refl _)
    rw [List.take_length] at r2
    have r3 := run_rw hr r2
    simp only [r1, sb]
    refine .bind (steps_of_ok hF hS r3 _) fun l hl => ?_
    have hl1 := hl.1
    refine .bif (fun e0 => ?_) fun _ => .one ⟨q1, q2, Nat.le_succ_of_le q3⟩
    have e0 := of_decide_eq_true e0
    refine .bind (draw_ok (by omega) (by omega) q1) fun c hc => .bind (atI_mem hc.1.1 hc.1.2) fun p hp => ?_
    obtain ⟨x, v, hx, hv, rfl, hk2⟩ := hl.2 p hp
    have hxl : x < r.length := by rw [r3.len]; exact hx
    have hql := q2.len
    simp only
    rw [catM_eq (by rw [List.length_singleton]; have := cut_len (xs := r) (a := none) (b := some (x : Int)); have := r3.len; omega), sb, catM_eq (by rw [List.length_append, List.length_singleton]; have := cut_len (xs := r) (a := none) (b := some (x : Int)); have := cut_len (xs := r) (a := some ((x : Int) + 1)) (b := none); have := r3.len; omega), sb, set_cut hxl, appM_eq (by omega), sb, appM_eq (by omega)]
    refine .one ⟨hc.2, ?_, by rw [List.length_append, List.length_singleton]; omega⟩
    have := q2.snoc r2 (q := ((x : Int), (v : Int))) (by rw [ok1_good hx hv, ← good_iff hS.po, hk2]; exact decide_eq_true rfl)
    rwa [Int.toNat_natCast] at this
  obtain ⟨q1, q2, q3⟩ := hq
  obtain ⟨r, r1, r2⟩ := q2.get (Nat.le_refl _)
  rw [List.take_length] at r2
  obtain ⟨v, v1, v2⟩ := ask_told hF hS hr false r2
  simp only [v1, r1, v2, sb, Bool.not_true, cond_false]
  have hst : q.2.2.length ≤ 6 := by omega
  refine .bind (draw_ok (by omega) (by omega) q1) fun p hp => ?_
  obtain ⟨part, ep⟩ := Int.eq_ofNat_of_zero_le hp.1.1
  have hpl : part ≤ q.2.2.length := by have := hp.1.2; omega
  obtain ⟨r', r1', r2'⟩ := q2.get hpl
  obtain ⟨v, v1, v2⟩ := ask_told hF hS hr true r2'
  rw [ep, cut_take hpl]
  simp only [v1, r1', v2, sb, Bool.not_true, cond_false]
  refine .bind (P := fun z : Int => z = 3 ∨ z = 1) (by cases decide ((12 : Int) < (row.1.length : Int)); exact .one (.inl rfl); exact .one (.inr rfl)) fun c hc => ?_
  rw [rng_int (by omega) (by omega), sb]
  refine .bind (loopG_ok (Inv := fun _ (s : Rd) => RI s) (R := fun _ => False) _ 0 hp.2 fun k x s _ hs => ?_) fun o ho => ?_
  · refine .bind (draw_ok (by omega) (by omega) hs) fun a ha => ?_
    obtain ⟨i, ei⟩ := Int.eq_ofNat_of_zero_le ha.1.1
    have hi : i ≤ q.2.2.length := by have := ha.1.2; omega
    obtain ⟨r, r1, r2⟩ := q2.get hi
    rw [ei, r1, sb]
    refine .bind (wrong_ok hF hS (run_rw hr r2) ha.2) fun b hb => ?_
    rw [cut_take hi, cut_drop hi, catM_eq (by rw [List.length_take, List.length_singleton]; omega), sb, catM_eq (by rw [List.length_append, List.length_take, List.length_singleton, List.length_drop]; omega), sb]
    refine .bind (draw_ok (by omega) (by omega) hb.2) fun c hc => ?_
    refine .bind (P := fun z : Rd × List (Int × Int) => RI z.1 ∧ ∃ rest, z.2 = q.2.2.take i ++ b.1 :: rest) (.bif (fun _ => ?_) fun _ => .one ⟨hc.2, _, by rw [List.append_assoc]; rfl⟩) fun z hz => ?_
    · rw [appM_eq (by rw [List.length_append, List.length_append, List.length_take, List.length_singleton, List.length_drop]; omega)]
      exact .one ⟨hc.2, _, by rw [List.append_assoc, List.append_assoc]; rfl⟩
    · obtain ⟨z1, rest, z2⟩ := hz
      obtain ⟨v, v1, v2⟩ := ask_bad (rest := rest) hF hS hr (decide (x = 1)) r2 hb.1
      rw [List.length_take, Nat.min_eq_left hi] at v2
      rw [z2, v1]
      simp only [v2, sb, Bool.not_true, cond_false]
      exact .one (.inl ⟨_, rfl, z1⟩)
  · rcases ho with ⟨u, rfl, _⟩ | ⟨r, rfl, hr⟩
    · exact .one rfl
    · exact hr.elim
end K13
open PySem PySem.W PySem.Calls PyProof.Rows in
set_option maxHeartbeats 0 in
theorem PySem.Challenge.cw_chaincore_k13_small_steps_holds : PySem.Challenge.rw_chaincore_k13_small_steps.Holds := by
  w_on; o_law
  refine HandSHeadRun.head_any (r := OpenLaw.row PySem.Challenge.rw_chaincore_k13_small_steps) (q := view (OpenLaw.row PySem.Challenge.rw_chaincore_k13_small_steps).prog [40]) (H := K13.hk) (ob := K13.ob) (M := 3960) (loose := K13.loose) (d := HandSHeadRun.topDef (OpenLaw.row PySem.Challenge.rw_chaincore_k13_small_steps).prog 40) (kwd := []) K13.ob_eq
    (by kernel_rfl) (fun s => by kernel_rfl) K13.run (by kernel_rfl) (by kernel_rfl) (by kernel_rfl) (by rfl) (by first | assumption | decide +kernel) (by decide +kernel) ⟨rfl, rfl, rfl, rfl, rfl, by decide +kernel⟩ ?hw ?hc
  case hw => w_witness2
  case hc =>
    refine L2.walk_ofE (l := PySem.Challenge.rw_chaincore_k13_small_steps) (n := 63) (k := 9) (x := "script") (CX := L2.CX0) rfl (by decide) (by kernel_rfl) ⟨rfl, by decide, by decide⟩ ?F (fun _ _ _ _ z => z)
    intro w mg fa h Y G hmg0
    obtain ⟨K, KX, c⟩ := Y
    have hmg : mg ("law" : PySem.Str) = some (.ref fa) := by
      have e : (HandSHeadRun.topDef (OpenLaw.row PySem.Challenge.rw_chaincore_k13_small_steps).prog 40).name = ("law" : PySem.Str) := by kernel_rfl
      rw [← e]
      exact hmg0
    obtain ⟨fd, hb, hF⟩ := K13.facts (P := (PySem.Challenge.rw_chaincore_k13_small_steps).prog) (w := w) KX G hmg ⟨by decide +kernel, by decide +kernel⟩ c
    exact ⟨K, fd, _, KX, hb, fun H a ns hl _ hS => CC.law_in hS (K13.law_ok ns hl), hF⟩
