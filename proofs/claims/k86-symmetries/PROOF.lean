import PyProof.Rows.All
import Wide.All
import OpenK.AllK
import Wide.FinOn
import HandS.ForMost
import HandS.Wide
import HandS.Exc
import HandS.ExcOwn
import HandS.TryOnly
import HandS.Dict
import HandS.IsInst
import HandS.SortRule
import HandS.Conv
import HandS.Style
import HandS.Defaults
import HandS.Small
import HandS.HeadHook1
import HandS.TupAny
import HandS.WordsDict
import HandS.MakeKwOnly
import HandS.SortInts
import HandS.HeadHook2
import HandS.Head2
import HandS.HeadEnd
import HandS.ExcIs
import PySem.Challenge.RW_chaincore_k86_symmetries
set_option Elab.async false
set_option linter.all false
set_option maxRecDepth 100000
set_option maxHeartbeats 4000000
/-! A logic over the hand layer: worlds, what is shared, what is owned, and how a piece of Python follows its mirror. -/
namespace CC
open PySem PySem.Spec L2
open PyProof.Rows hiding St
/-! ### worlds -/
/-- the tracked heap, and the part of it that nobody changes any more -/
structure Wd where
  H : Hp
  B : Hp
def Ex (H H' : Hp) : Prop := ∀ a o, H a = some o → H' a = some o
theorem Ex.refl (H : Hp) : Ex H H := fun _ _ h => h
theorem Ex.trans {H H1 H2 : Hp} (a : Ex H H1) (b : Ex H1 H2) : Ex H H2 := fun x o h => b x o (a x o h)
theorem Ex.new {H : Hp} {p : Addr} {o : HO} (h : H p = none) : Ex H (upd H p o) := fun a u e => by
  rw [upd_ne (ne_of_none e h)]
  exact e
theorem Ex.ne {H H' : Hp} {a : Addr} (e : Ex H H') (h : H a ≠ none) : H' a ≠ none := by
  cases q : H a with
  | none => exact absurd q h
  | some o =>
    rw [e a o q]
    exact fun z => nomatch z
theorem Ex.eq {H H' : Hp} {a : Addr} (e : Ex H H') (h : H a ≠ none) : H' a = H a := by
  cases q : H a with
  | none => exact absurd q h
  | some o => exact e a o q
theorem Ex.back {H H' : Hp} {p : Addr} (e : Ex H H') (h : H' p = none) : H p = none := by
  cases h1 : H p with
  | none => rfl
  | some o =>
    rw [e p o h1] at h
    cases h
/-- things are added, nothing changes -/
structure Ext (W W' : Wd) : Prop where
  ok : Ex W'.B W'.H
  h : Ex W.H W'.H
  b : Ex W.B W'.B
  fr : ∀ a, W.H a ≠ none → W.B a = none → W'.B a = none
theorem Ext.refl {W : Wd} (ok : Ex W.B W.H) : Ext W W := ⟨ok, Ex.refl _, Ex.refl _, fun _ _ h => h⟩
theorem Ext.trans {W W1 W2 : Wd} (a : Ext W W1) (b : Ext W1 W2) : Ext W W2 :=
  ⟨b.ok, a.h.trans b.h, a.b.trans b.b, fun x h1 h2 => b.fr x (a.h.ne h1) (a.fr x h1 h2)⟩
/-- a new object, owned -/
theorem Ext.new {W : Wd} (ok : Ex W.B W.H) {p : Addr} {o : HO} (h : W.H p = none) : Ext W ⟨upd W.H p o, W.B⟩ :=
  ⟨ok.trans (Ex.new h), Ex.new h, Ex.refl _, fun _ _ h => h⟩
/-- a new object, shared -/
theorem Ext.newB {W : Wd} (ok : Ex W.B W.H) {p : Addr} {o : HO} (h : W.H p = none) : Ext W ⟨upd W.H p o, upd W.B p o⟩ := by
  refine ⟨fun a u e => ?_, Ex.new h, Ex.new (ok.back h), fun a h1 h2 => ?_⟩
  · by_cases z : a = p
    · subst z
      have e1 : upd W.B a o a = some u := e
      show upd W.H a o a = some u
      rw [upd_same] at e1 ⊢
      exact e1
    · have e' : W.B a = some u := by rw [← e]; exact (upd_ne z).symm
      show upd W.H p o a = some u
      rw [upd_ne z]
      exact ok a u e'
  · have z : a ≠ p := fun z => h1 (z ▸ h)
    show upd W.B p o a = none
    rw [upd_ne z]
    exact h2
/-- what is owned at F may change; F' is owned behind -/
structure Stp (W : Wd) (F : List Addr) (W' : Wd) (F' : List Addr) : Prop where
  ok : Ex W'.B W'.H
  b : Ex W.B W'.B
  h : ∀ a o, W.H a = some o → a ∉ F → W'.H a = some o
  al : ∀ a, W.H a ≠ none → W'.H a ≠ none
  fr : ∀ a, W.H a ≠ none → W.B a = none → a ∉ F → W'.B a = none
  fp : ∀ a ∈ F', a ∈ F ∨ W.H a = none
theorem Stp.refl {W : Wd} {F : List Addr} (ok : Ex W.B W.H) : Stp W F W F :=
  ⟨ok, Ex.refl _, fun _ _ h _ => h, fun _ h => h, fun _ _ h _ => h, fun _ h => .inl h⟩
theorem Stp.trans {W W1 W2 : Wd} {F F1 F2 : List Addr} (a : Stp W F W1 F1) (b : Stp W1 F1 W2 F2) : Stp W F W2 F2 where
  ok := b.ok
  b := a.b.trans b.b
  h := fun x o h n => b.h x o (a.h x o h n) fun z => by
    rcases a.fp x z with z | z
    · exact n z
    · rw [h] at z; cases z
  al := fun x h => b.al x (a.al x h)
  fr := fun x h1 h2 n => b.fr x (a.al x h1) (a.fr x h1 h2 n) fun z => by
    rcases a.fp x z with z | z
    · exact n z
    · exact h1 z
  fp := fun x hx => by
    rcases b.fp x hx with z | z
    · exact a.fp x z
    · refine .inr ?_
      cases q : W.H x with
      | none => rfl
      | some o => exact absurd z (a.al x (by rw [q]; exact fun z => nomatch z))
theorem Stp.perm {W W1 : Wd} {F F1 F2 : List Addr} (a : Stp W F W1 F1) (p : ∀ x ∈ F2, x ∈ F1) : Stp W F W1 F2 :=
  ⟨a.ok, a.b, a.h, a.al, a.fr, fun x h => a.fp x (p x h)⟩
theorem Stp.permL {W W1 : Wd} {F F0 F1 : List Addr} (a : Stp W F W1 F1) (p : ∀ x ∈ F, x ∈ F0) : Stp W F0 W1 F1 :=
  ⟨a.ok, a.b, fun x o h n => a.h x o h fun z => n (p x z), a.al, fun x h1 h2 n => a.fr x h1 h2 fun z => n (p x z), fun x h => (a.fp x h).imp (p x) id⟩
theorem Ext.stp {W W' : Wd} {F Fv : List Addr} (e : Ext W W') (fresh : ∀ a ∈ Fv, W.H a = none) : Stp W F W' (F ++ Fv) :=
  ⟨e.ok, e.b, fun x o h _ => e.h x o h, fun x h => e.h.ne h, fun x h1 h2 _ => e.fr x h1 h2, fun x hx => (List.mem_append.mp hx).imp id (fresh x)⟩
/-- with nothing owned a step only adds -/
theorem Stp.ext {W W' : Wd} {F' : List Addr} (s : Stp W [] W' F') : Ext W W' ∧ ∀ a ∈ F', W.H a = none :=
  ⟨⟨s.ok, fun a o h => s.h a o h (by simp), s.b, fun a h1 h2 => s.fr a h1 h2 (by simp)⟩, fun a ha => (s.fp a ha).resolve_left (by simp)⟩
/-! ### footprints -/
structure FpOk (W : Wd) (F : List Addr) : Prop where
  nd : F.Nodup
  al : ∀ a ∈ F, W.H a ≠ none
  fr : ∀ a ∈ F, W.B a = none
theorem FpOk.nil {W : Wd} : FpOk W [] := ⟨List.nodup_nil, fun _ h => (List.not_mem_nil h).elim, fun _ h => (List.not_mem_nil h).elim⟩
theorem FpOk.perm {W : Wd} {F F' : List Addr} (f : FpOk W F) (p : F.Perm F') : FpOk W F' :=
  ⟨p.nodup_iff.mp f.nd, fun a h => f.al a (p.mem_iff.mpr h), fun a h => f.fr a (p.mem_iff.mpr h)⟩
theorem FpOk.ext {W W' : Wd} {F : List Addr} (f : FpOk W F) (e : Ext W W') : FpOk W' F :=
  ⟨f.nd, fun a h => e.h.ne (f.al a h), fun a h => e.fr a (f.al a h) (f.fr a h)⟩
theorem FpOk.left {W : Wd} {F F' : List Addr} (f : FpOk W (F ++ F')) : FpOk W F :=
  ⟨(List.nodup_append.mp f.nd).1, fun a h => f.al a (List.mem_append_left _ h), fun a h => f.fr a (List.mem_append_left _ h)⟩
theorem FpOk.right {W : Wd} {F F' : List Addr} (f : FpOk W (F ++ F')) : FpOk W F' :=
  ⟨(List.nodup_append.mp f.nd).2.1, fun a h => f.al a (List.mem_append_right _ h), fun a h => f.fr a (List.mem_append_right _ h)⟩
theorem FpOk.disj {W : Wd} {F F' : List Addr} (f : FpOk W (F ++ F')) : ∀ a ∈ F, a ∉ F' := fun a h h' =>
  (List.nodup_append.mp f.nd).2.2 a h a h' rfl
theorem FpOk.app {W : Wd} {F F' : List Addr} (f : FpOk W F) (f' : FpOk W F') (d : ∀ a ∈ F, a ∉ F') : FpOk W (F ++ F') :=
  ⟨List.nodup_append.mpr ⟨f.nd, f'.nd, fun a h b h' e => d a h (e ▸ h')⟩, fun a h => (List.mem_append.mp h).elim (f.al a) (f'.al a), fun a h => (List.mem_append.mp h).elim (f.fr a) (f'.fr a)⟩
/-- an extension's new owned things stand apart from the old -/
theorem FpOk.fresh {W W' : Wd} {F Fv : List Addr} (f : FpOk W F) (e : Ext W W') (fv : FpOk W' Fv) (n : ∀ a ∈ Fv, W.H a = none) : FpOk W' (F ++ Fv) :=
  (f.ext e).app fv fun a h h' => f.al a h (n a h')
/-! ### descriptions -/
/-- a shared thing, described over the part that stands still -/
structure SP where
  P : Hp → V → Prop
  mono : ∀ {B B' v}, P B v → Ex B B' → P B' v
/-- a thing with what is owned of it -/
structure OP where
  C : Wd → V → List Addr → Prop
  loc : ∀ {W W' v F}, C W v F → Ex W.B W'.B → (∀ a ∈ F, W'.H a = W.H a) → C W' v F
def sh (p : SP) : OP := ⟨fun W v F => F = [] ∧ p.P W.B v, fun h e _ => ⟨h.1, p.mono h.2 e⟩⟩
theorem OP.ext (o : OP) {W W' : Wd} {v : V} {F : List Addr} (h : o.C W v F) (e : Ext W W') (f : FpOk W F) : o.C W' v F := o.loc h e.b fun a ha => e.h.eq (f.al a ha)
def intS (i : Int) : SP := ⟨fun _ v => v = .int i, fun h _ => h⟩
def boolS (b : Bool) : SP := ⟨fun _ v => v = .bl b, fun h _ => h⟩
def strS (z : Str) : SP := ⟨fun _ v => v = .str z, fun h _ => h⟩
def nonS : SP := ⟨fun _ v => v = .non, fun h _ => h⟩
def valS (x : V) : SP := ⟨fun _ v => v = x, fun h _ => h⟩
def optS {α : Type} (E : α → SP) : Option α → SP
  | none => nonS
  | some x => E x
/-- values one by one -/
def Each {α : Type} (E : α → SP) (B : Hp) : List V → List α → Prop
  | [], [] => True
  | v :: vs, x :: xs => (E x).P B v ∧ Each E B vs xs
  | _, _ => False
theorem Each.mono {α : Type} {E : α → SP} {B B' : Hp} (e : Ex B B') : ∀ {vs : List V} {xs : List α}, Each E B vs xs → Each E B' vs xs
  | [], [], _ => trivial
  | _ :: _, _ :: _, h => ⟨SP.mono _ h.1 e, Each.mono e h.2⟩
  | [], _ :: _, h => h.elim
  | _ :: _, [], h => h.elim
theorem Each.len {α : Type} {E : α → SP} {B : Hp} : ∀ {vs : List V} {xs : List α}, Each E B vs xs → vs.length = xs.length
  | [], [], _ => rfl
  | _ :: _, _ :: _, h => by rw [List.length_cons, List.length_cons, Each.len h.2]
  | [], _ :: _, h => h.elim
  | _ :: _, [], h => h.elim
theorem Each.get {α : Type} {E : α → SP} {B : Hp} : ∀ {vs : List V} {xs : List α} {i : Nat} {x : α}, Each E B vs xs → xs[i]? = some x → ∃ v, vs[i]? = some v ∧ (E x).P B v
  | [], [], i, x, _, e => by simp at e
  | v :: vs, y :: xs, 0, x, h, e => by
    have : y = x := by simpa using e
    subst this
    exact ⟨v, rfl, h.1⟩
  | v :: vs, y :: xs, i + 1, x, h, e => by
    obtain ⟨u, h1, h2⟩ := Each.get (i := i) h.2 (by simpa using e)
    exact ⟨u, by simpa using h1, h2⟩
  | [], _ :: _, _, _, h, _ => h.elim
  | _ :: _, [], _, _, h, _ => h.elim
theorem Each.app {α : Type} {E : α → SP} {B : Hp} : ∀ {vs us : List V} {xs ys : List α}, Each E B vs xs → Each E B us ys → Each E B (vs ++ us) (xs ++ ys)
  | [], _, [], _, _, k => k
  | _ :: _, _, _ :: _, _, h, k => ⟨h.1, Each.app h.2 k⟩
  | [], _, _ :: _, _, h, _ => h.elim
  | _ :: _, _, [], _, h, _ => h.elim
theorem Each.take {α : Type} {E : α → SP} {B : Hp} : ∀ {vs : List V} {xs : List α} (n : Nat), Each E B vs xs → Each E B (vs.take n) (xs.take n)
  | [], [], _, _ => by simp [Each]
  | _ :: _, _ :: _, 0, _ => trivial
  | _ :: _, _ :: _, n + 1, h => ⟨h.1, Each.take n h.2⟩
  | [], _ :: _, _, h => h.elim
  | _ :: _, [], _, h => h.elim
theorem Each.drop {α : Type} {E : α → SP} {B : Hp} : ∀ {vs : List V} {xs : List α} (n : Nat), Each E B vs xs → Each E B (vs.drop n) (xs.drop n)
  | [], [], _, _ => by simp [Each]
  | _ :: _, _ :: _, 0, h => h
  | _ :: _, _ :: _, n + 1, h => Each.drop n h.2
  | [], _ :: _, _, h => h.elim
  | _ :: _, [], _, h => h.elim
theorem Each.set {α : Type} {E : α → SP} {B : Hp} {v : V} {x : α} (hv : (E x).P B v) : ∀ {vs : List V} {xs : List α} (i : Nat), Each E B vs xs → Each E B (vs.set i v) (xs.set i x)
  | [], [], _, _ => by simp [Each]
  | _ :: _, _ :: _, 0, h => ⟨hv, h.2⟩
  | _ :: _, _ :: _, n + 1, h => ⟨h.1, Each.set hv n h.2⟩
  | [], _ :: _, _, h => h.elim
  | _ :: _, [], _, h => h.elim
theorem Each.eraseIdx {α : Type} {E : α → SP} {B : Hp} : ∀ {vs : List V} {xs : List α} (i : Nat), Each E B vs xs → Each E B (vs.eraseIdx i) (xs.eraseIdx i)
  | [], [], _, _ => by simp [Each]
  | _ :: _, _ :: _, 0, h => h.2
  | _ :: _, _ :: _, n + 1, h => ⟨h.1, Each.eraseIdx n h.2⟩
  | [], _ :: _, _, h => h.elim
  | _ :: _, [], _, h => h.elim
theorem Each.rev {α : Type} {E : α → SP} {B : Hp} : ∀ {vs : List V} {xs : List α}, Each E B vs xs → Each E B vs.reverse xs.reverse
  | [], [], _ => by simp [Each]
  | v :: vs, x :: xs, h => by
    rw [List.reverse_cons, List.reverse_cons]
    exact Each.app (Each.rev h.2) ⟨h.1, trivial⟩
  | [], _ :: _, h => h.elim
  | _ :: _, [], h => h.elim
theorem Each.imp {α β : Type} {E : α → SP} {G : β → SP} {B : Hp} (f : α → β) (hf : ∀ x v, (E x).P B v → (G (f x)).P B v) : ∀ {vs : List V} {xs : List α}, Each E B vs xs → Each G B vs (xs.map f)
  | [], [], _ => trivial
  | _ :: _, _ :: _, h => ⟨hf _ _ h.1, Each.imp f hf h.2⟩
  | [], _ :: _, h => h.elim
  | _ :: _, [], h => h.elim
/-- a list, a tuple that stand still -/
def lstS {α : Type} (E : α → SP) (xs : List α) : SP := ⟨fun B v => ∃ a vs, v = .ref a ∧ B a = some (.lst vs) ∧ Each E B vs xs, fun h e => by
  obtain ⟨a, vs, h1, h2, h3⟩ := h
  exact ⟨a, vs, h1, e a _ h2, h3.mono e⟩⟩
def tupS {α : Type} (E : α → SP) (xs : List α) : SP := ⟨fun B v => ∃ a vs, v = .ref a ∧ B a = some (.tup vs) ∧ Each E B vs xs, fun h e => by
  obtain ⟨a, vs, h1, h2, h3⟩ := h
  exact ⟨a, vs, h1, e a _ h2, h3.mono e⟩⟩
/-- the script -/
def scrS (K : PySem.W.Frag) (ns : List Int) : SP := ⟨fun B v => ∃ a, v = .ref a ∧ SqL K B a (ns.map V.int), fun h e => by
  obtain ⟨a, h1, h2⟩ := h
  refine ⟨a, h1, ?_⟩
  rcases h2 with (h | ⟨o, h⟩) | h
  · exact .inl (.inl (e _ _ h))
  · exact .inl (.inr ⟨o, e _ _ h⟩)
  · exact .inr h⟩
/-- things of several kinds, one by one -/
def Hets (B : Hp) : List V → List SP → Prop
  | [], [] => True
  | v :: vs, p :: ps => p.P B v ∧ Hets B vs ps
  | _, _ => False
theorem Hets.mono {B B' : Hp} (e : Ex B B') : ∀ {vs : List V} {ps : List SP}, Hets B vs ps → Hets B' vs ps
  | [], [], _ => trivial
  | _ :: _, _ :: _, h => ⟨SP.mono _ h.1 e, Hets.mono e h.2⟩
  | [], _ :: _, h => h.elim
  | _ :: _, [], h => h.elim
theorem Hets.len {B : Hp} : ∀ {vs : List V} {ps : List SP}, Hets B vs ps → vs.length = ps.length
  | [], [], _ => rfl
  | _ :: _, _ :: _, h => by rw [List.length_cons, List.length_cons, Hets.len h.2]
  | [], _ :: _, h => h.elim
  | _ :: _, [], h => h.elim
theorem Hets.get {B : Hp} : ∀ {vs : List V} {ps : List SP} {i : Nat} {p : SP}, Hets B vs ps → ps[i]? = some p → ∃ v, vs[i]? = some v ∧ p.P B v
  | [], [], i, x, _, e => by simp at e
  | v :: vs, y :: xs, 0, x, h, e => by
    have : y = x := by simpa using e
    subst this
    exact ⟨v, rfl, h.1⟩
  | v :: vs, y :: xs, i + 1, x, h, e => by
    obtain ⟨u, h1, h2⟩ := Hets.get (i := i) h.2 (by simpa using e)
    exact ⟨u, by simpa using h1, h2⟩
  | [], _ :: _, _, _, h, _ => h.elim
  | _ :: _, [], _, _, h, _ => h.elim
theorem Hets.set {B : Hp} {v : V} {p : SP} (hv : p.P B v) : ∀ {vs : List V} {ps : List SP} (i : Nat), Hets B vs ps → Hets B (vs.set i v) (ps.set i p)
  | [], [], _, _ => by simp [Hets]
  | _ :: _, _ :: _, 0, h => ⟨hv, h.2⟩
  | _ :: _, _ :: _, n + 1, h => ⟨h.1, Hets.set hv n h.2⟩
  | [], _ :: _, _, h => h.elim
  | _ :: _, [], _, h => h.elim
def htupS (ps : List SP) : SP := ⟨fun B v => ∃ a vs, v = .ref a ∧ B a = some (.tup vs) ∧ Hets B vs ps, fun h e => by
  obtain ⟨a, vs, h1, h2, h3⟩ := h
  exact ⟨a, vs, h1, e a _ h2, h3.mono e⟩⟩
def hlstS (ps : List SP) : SP := ⟨fun B v => ∃ a vs, v = .ref a ∧ B a = some (.lst vs) ∧ Hets B vs ps, fun h e => by
  obtain ⟨a, vs, h1, h2, h3⟩ := h
  exact ⟨a, vs, h1, e a _ h2, h3.mono e⟩⟩
/-- a pair -/
def prS {α β : Type} (E : α → SP) (G : β → SP) (p : α × β) : SP := htupS [E p.1, G p.2]
/-! ### owned things, one by one -/
def Owns {α : Type} (E : α → OP) (W : Wd) : List V → List α → List Addr → Prop
  | [], [], F => F = []
  | v :: vs, x :: xs, F => ∃ F1 F2, F = F1 ++ F2 ∧ (E x).C W v F1 ∧ Owns E W vs xs F2
  | _, _, _ => False
theorem Owns.loc {α : Type} {E : α → OP} {W W' : Wd} (e : Ex W.B W'.B) : ∀ {vs : List V} {xs : List α} {F : List Addr}, Owns E W vs xs F → (∀ a ∈ F, W'.H a = W.H a) → Owns E W' vs xs F
  | [], [], _, h, _ => h
  | _ :: _, _ :: _, _, ⟨F1, F2, h1, h2, h3⟩, k => by
    subst h1
    exact ⟨F1, F2, rfl, OP.loc _ h2 e fun a ha => k a (List.mem_append_left _ ha), Owns.loc e h3 fun a ha => k a (List.mem_append_right _ ha)⟩
  | [], _ :: _, _, h, _ => h.elim
  | _ :: _, [], _, h, _ => h.elim
theorem Owns.len {α : Type} {E : α → OP} {W : Wd} : ∀ {vs : List V} {xs : List α} {F : List Addr}, Owns E W vs xs F → vs.length = xs.length
  | [], [], _, _ => rfl
  | _ :: _, _ :: _, _, ⟨_, _, _, _, h⟩ => by rw [List.length_cons, List.length_cons, Owns.len h]
  | [], _ :: _, _, h => h.elim
  | _ :: _, [], _, h => h.elim
theorem Owns.app {α : Type} {E : α → OP} {W : Wd} : ∀ {vs us : List V} {xs ys : List α} {F G : List Addr}, Owns E W vs xs F → Owns E W us ys G → Owns E W (vs ++ us) (xs ++ ys) (F ++ G)
  | [], _, [], _, _, _, h, k => by
    subst h
    exact k
  | _ :: _, _, _ :: _, _, _, _, ⟨F1, F2, h1, h2, h3⟩, k => by
    subst h1
    exact ⟨F1, F2 ++ _, List.append_assoc _ _ _, h2, Owns.app h3 k⟩
  | [], _, _ :: _, _, _, _, h, _ => h.elim
  | _ :: _, _, [], _, _, _, h, _ => h.elim
/-- the item at a place, and what may stand there instead -/
theorem Owns.at {α : Type} {E : α → OP} {W : Wd} : ∀ {vs : List V} {xs : List α} {F : List Addr} {i : Nat} {x : α}, Owns E W vs xs F → xs[i]? = some x →
    ∃ v F1 F2, vs[i]? = some v ∧ (E x).C W v F1 ∧ F.Perm (F1 ++ F2) ∧ ∀ (W' : Wd) (x' : α) (v' : V) (F1' : List Addr), Ex W.B W'.B → (∀ a ∈ F2, W'.H a = W.H a) → (E x').C W' v' F1' →
      ∃ F', Owns E W' (vs.set i v') (xs.set i x') F' ∧ F'.Perm (F1' ++ F2)
  | [], [], _, _, _, _, e => by simp at e
  | v :: vs, y :: xs, _, 0, x, ⟨F1, F2, h1, h2, h3⟩, e => by
    have : y = x := by simpa using e
    subst this h1
    refine ⟨v, F1, F2, rfl, h2, .refl _, fun W' x' v' F1' eb hk hc => ⟨F1' ++ F2, ⟨F1', F2, rfl, hc, h3.loc eb hk⟩, .refl _⟩⟩
  | v :: vs, y :: xs, _, i + 1, x, ⟨F1, F2, h1, h2, h3⟩, e => by
    subst h1
    obtain ⟨u, G1, G2, a1, a2, a3, a4⟩ := Owns.at (i := i) h3 (by simpa using e)
    refine ⟨u, G1, F1 ++ G2, by simpa using a1, a2, ?_, fun W' x' v' F1' eb hk hc => ?_⟩
    · refine (List.Perm.append_left F1 a3).trans ?_
      rw [← List.append_assoc, ← List.append_assoc]
      exact List.Perm.append_right G2 List.perm_append_comm
    · obtain ⟨F', b1, b2⟩ := a4 W' x' v' F1' eb (fun a ha => hk a (List.mem_append_right _ ha)) hc
      refine ⟨F1 ++ F', ⟨F1, F', rfl, OP.loc _ h2 eb fun a ha => hk a (List.mem_append_left _ ha), b1⟩, ?_⟩
      refine (List.Perm.append_left F1 b2).trans ?_
      rw [← List.append_assoc, ← List.append_assoc]
      exact List.Perm.append_right G2 List.perm_append_comm
  | [], _ :: _, _, _, _, h, _ => h.elim
  | _ :: _, [], _, _, _, h, _ => h.elim
theorem Owns.of_each {α : Type} {E : α → SP} {W : Wd} : ∀ {vs : List V} {xs : List α}, Each E W.B vs xs → Owns (fun x => sh (E x)) W vs xs []
  | [], [], _ => rfl
  | _ :: _, _ :: _, h => ⟨[], [], rfl, ⟨rfl, h.1⟩, Owns.of_each h.2⟩
  | [], _ :: _, h => h.elim
  | _ :: _, [], h => h.elim
theorem Owns.each {α : Type} {E : α → SP} {W : Wd} : ∀ {vs : List V} {xs : List α} {F : List Addr}, Owns (fun x => sh (E x)) W vs xs F → F = [] ∧ Each E W.B vs xs
  | [], [], _, h => ⟨h, trivial⟩
  | _ :: _, _ :: _, _, ⟨F1, F2, h1, ⟨h2, h2'⟩, h3⟩ => by
    obtain ⟨e, h4⟩ := Owns.each h3
    subst e h2
    exact ⟨h1, h2', h4⟩
  | [], _ :: _, _, h => h.elim
  | _ :: _, [], _, h => h.elim
/-- a list of one's own -/
def lstO {α : Type} (E : α → OP) (xs : List α) : OP := ⟨fun W v F => ∃ a vs F2, v = .ref a ∧ W.H a = some (.lst vs) ∧ F = a :: F2 ∧ Owns E W vs xs F2, fun h e k => by
  obtain ⟨a, vs, F2, h1, h2, h3, h4⟩ := h
  subst h3
  exact ⟨a, vs, F2, h1, (k a List.mem_cons_self).trans h2, rfl, h4.loc e fun b hb => k b (List.mem_cons_of_mem _ hb)⟩⟩
/-- owned things of several kinds -/
def HetO (W : Wd) : List V → List OP → List Addr → Prop
  | [], [], F => F = []
  | v :: vs, p :: ps, F => ∃ F1 F2, F = F1 ++ F2 ∧ p.C W v F1 ∧ HetO W vs ps F2
  | _, _, _ => False
theorem HetO.loc {W W' : Wd} (e : Ex W.B W'.B) : ∀ {vs : List V} {xs : List OP} {F : List Addr}, HetO W vs xs F → (∀ a ∈ F, W'.H a = W.H a) → HetO W' vs xs F
  | [], [], _, h, _ => h
  | _ :: _, _ :: _, _, ⟨F1, F2, h1, h2, h3⟩, k => by
    subst h1
    exact ⟨F1, F2, rfl, OP.loc _ h2 e fun a ha => k a (List.mem_append_left _ ha), HetO.loc e h3 fun a ha => k a (List.mem_append_right _ ha)⟩
  | [], _ :: _, _, h, _ => h.elim
  | _ :: _, [], _, h, _ => h.elim
theorem HetO.len {W : Wd} : ∀ {vs : List V} {xs : List OP} {F : List Addr}, HetO W vs xs F → vs.length = xs.length
  | [], [], _, _ => rfl
  | _ :: _, _ :: _, _, ⟨_, _, _, _, h⟩ => by rw [List.length_cons, List.length_cons, HetO.len h]
  | [], _ :: _, _, h => h.elim
  | _ :: _, [], _, h => h.elim
theorem HetO.at {W : Wd} : ∀ {vs : List V} {xs : List OP} {F : List Addr} {i : Nat} {x : OP}, HetO W vs xs F → xs[i]? = some x →
    ∃ v F1 F2, vs[i]? = some v ∧ x.C W v F1 ∧ F.Perm (F1 ++ F2) ∧ ∀ (W' : Wd) (x' : OP) (v' : V) (F1' : List Addr), Ex W.B W'.B → (∀ a ∈ F2, W'.H a = W.H a) → x'.C W' v' F1' →
      ∃ F', HetO W' (vs.set i v') (xs.set i x') F' ∧ F'.Perm (F1' ++ F2)
  | [], [], _, _, _, _, e => by simp at e
  | v :: vs, y :: xs, _, 0, x, ⟨F1, F2, h1, h2, h3⟩, e => by
    have : y = x := by simpa using e
    subst this h1
    refine ⟨v, F1, F2, rfl, h2, .refl _, fun W' x' v' F1' eb hk hc => ⟨F1' ++ F2, ⟨F1', F2, rfl, hc, h3.loc eb hk⟩, .refl _⟩⟩
  | v :: vs, y :: xs, _, i + 1, x, ⟨F1, F2, h1, h2, h3⟩, e => by
    subst h1
    obtain ⟨u, G1, G2, a1, a2, a3, a4⟩ := HetO.at (i := i) h3 (by simpa using e)
    refine ⟨u, G1, F1 ++ G2, by simpa using a1, a2, ?_, fun W' x' v' F1' eb hk hc => ?_⟩
    · refine (List.Perm.append_left F1 a3).trans ?_
      rw [← List.append_assoc, ← List.append_assoc]
      exact List.Perm.append_right G2 List.perm_append_comm
    · obtain ⟨F', b1, b2⟩ := a4 W' x' v' F1' eb (fun a ha => hk a (List.mem_append_right _ ha)) hc
      refine ⟨F1 ++ F', ⟨F1, F', rfl, OP.loc _ h2 eb fun a ha => hk a (List.mem_append_left _ ha), b1⟩, ?_⟩
      refine (List.Perm.append_left F1 b2).trans ?_
      rw [← List.append_assoc, ← List.append_assoc]
      exact List.Perm.append_right G2 List.perm_append_comm
  | [], _ :: _, _, _, _, h, _ => h.elim
  | _ :: _, [], _, _, _, h, _ => h.elim
def hetO (ps : List OP) : OP := ⟨fun W v F => ∃ a vs F2, v = .ref a ∧ W.H a = some (.lst vs) ∧ F = a :: F2 ∧ HetO W vs ps F2, fun h e k => by
  obtain ⟨a, vs, F2, h1, h2, h3, h4⟩ := h
  subst h3
  exact ⟨a, vs, F2, h1, (k a List.mem_cons_self).trans h2, rfl, h4.loc e fun b hb => k b (List.mem_cons_of_mem _ hb)⟩⟩
/-! ### the slots -/
abbrev Ctx := List (Option OP)
def Holds : Ctx → St → Wd → List Addr → Prop
  | [], _, _, F => F = []
  | none :: Γ, σ, W, F => Holds Γ σ.tail W F
  | some o :: Γ, σ, W, F => ∃ v F1 F2, σ.head? = some (some v) ∧ F = F1 ++ F2 ∧ o.C W v F1 ∧ Holds Γ σ.tail W F2
theorem Holds.loc {W W' : Wd} (e : Ex W.B W'.B) : ∀ {Γ : Ctx} {σ : St} {F : List Addr}, Holds Γ σ W F → (∀ a ∈ F, W'.H a = W.H a) → Holds Γ σ W' F
  | [], _, _, h, _ => h
  | none :: Γ, σ, F, h, k => Holds.loc e (Γ := Γ) (σ := σ.tail) (F := F) h k
  | some o :: Γ, σ, _, ⟨v, F1, F2, h1, h2, h3, h4⟩, k => by
    subst h2
    exact ⟨v, F1, F2, h1, rfl, o.loc h3 e fun a ha => k a (List.mem_append_left _ ha), Holds.loc e (Γ := Γ) h4 fun a ha => k a (List.mem_append_right _ ha)⟩
/-- the entry at a place, and what may stand there instead -/
theorem Holds.at {W : Wd} : ∀ {Γ : Ctx} {σ : St} {F : List Addr} {i : Nat} {o : OP}, Holds Γ σ W F → Γ[i]? = some (some o) →
    ∃ v F1 F2, σ[i]? = some (some v) ∧ o.C W v F1 ∧ F.Perm (F1 ++ F2) ∧ ∀ (W' : Wd) (o' : OP) (v' : V) (F1' : List Addr), Ex W.B W'.B → (∀ a ∈ F2, W'.H a = W.H a) → o'.C W' v' F1' →
      ∃ F', Holds (Γ.set i (some o')) (σ.set i (some v')) W' F' ∧ F'.Perm (F1' ++ F2)
  | [], _, _, _, _, _, e => by simp at e
  | none :: Γ, σ, F, 0, o, h, e => by simp at e
  | none :: Γ, [], F, i + 1, o, h, e => by
    obtain ⟨u, G1, G2, a1, _⟩ := Holds.at (i := i) (Γ := Γ) (σ := []) h (by simpa using e)
    simp at a1
  | none :: Γ, s :: σ, F, i + 1, o, h, e => by
    obtain ⟨u, G1, G2, a1, a2, a3, a4⟩ := Holds.at (i := i) (Γ := Γ) (σ := σ) h (by simpa using e)
    exact ⟨u, G1, G2, by simpa using a1, a2, a3, fun W' o' v' F1' eb hk hc => a4 W' o' v' F1' eb hk hc⟩
  | some p :: Γ, [], F, i, o, ⟨v, F1, F2, h1, h2, h3, h4⟩, e => by simp at h1
  | some p :: Γ, s :: σ, F, 0, o, ⟨v, F1, F2, h1, h2, h3, h4⟩, e => by
    have : p = o := by simpa using e
    subst this h2
    refine ⟨v, F1, F2, by simpa using h1, h3, .refl _, fun W' o' v' F1' eb hk hc => ⟨F1' ++ F2, ⟨v', F1', F2, rfl, rfl, hc, Holds.loc eb (Γ := Γ) h4 hk⟩, .refl _⟩⟩
  | some p :: Γ, s :: σ, F, i + 1, o, ⟨v, F1, F2, h1, h2, h3, h4⟩, e => by
    subst h2
    obtain ⟨u, G1, G2, a1, a2, a3, a4⟩ := Holds.at (i := i) (Γ := Γ) (σ := σ) h4 (by simpa using e)
    refine ⟨u, G1, F1 ++ G2, by simpa using a1, a2, ?_, fun W' x' v' F1' eb hk hc => ?_⟩
    · refine (List.Perm.append_left F1 a3).trans ?_
      rw [← List.append_assoc, ← List.append_assoc]
      exact List.Perm.append_right G2 List.perm_append_comm
    · obtain ⟨F', b1, b2⟩ := a4 W' x' v' F1' eb (fun a ha => hk a (List.mem_append_right _ ha)) hc
      refine ⟨F1 ++ F', ⟨v, F1, F', h1, rfl, OP.loc _ h3 eb fun a ha => hk a (List.mem_append_left _ ha), b1⟩, ?_⟩
      refine (List.Perm.append_left F1 b2).trans ?_
      rw [← List.append_assoc, ← List.append_assoc]
      exact List.Perm.append_right G2 List.perm_append_comm
/-- a slot is stored anew -/
theorem Holds.put {W : Wd} {o : OP} {v : V} {F1 : List Addr} (hc : o.C W v F1) : ∀ {Γ : Ctx} {σ : St} {F : List Addr} {i : Nat}, Holds Γ σ W F → i < Γ.length → i < σ.length →
    ∃ F' G, Holds (Γ.set i (some o)) (σ.set i (some v)) W F' ∧ F'.Perm (F1 ++ G) ∧ ∃ G', F.Perm (G ++ G')
  | [], _, _, _, _, h, _ => by simp at h
  | _ :: _, [], _, _, _, _, h => by simp at h
  | none :: Γ, s :: σ, F, 0, h, _, _ => ⟨F1 ++ F, F, ⟨v, F1, F, rfl, rfl, hc, h⟩, .refl _, [], by rw [List.append_nil]⟩
  | some p :: Γ, s :: σ, F, 0, ⟨u, G1, G2, h1, h2, h3, h4⟩, _, _ => ⟨F1 ++ G2, G2, ⟨v, F1, G2, rfl, rfl, hc, h4⟩, .refl _, G1, by subst h2; exact List.perm_append_comm⟩
  | none :: Γ, s :: σ, F, i + 1, h, l1, l2 => by
    obtain ⟨F', G, a1, a2, a3⟩ := Holds.put hc (i := i) (Γ := Γ) (σ := σ) h (by simpa using l1) (by simpa using l2)
    exact ⟨F', G, a1, a2, a3⟩
  | some p :: Γ, s :: σ, F, i + 1, ⟨u, G1, G2, h1, h2, h3, h4⟩, l1, l2 => by
    obtain ⟨F', G, a1, a2, G', a3⟩ := Holds.put hc (i := i) (Γ := Γ) (σ := σ) h4 (by simpa using l1) (by simpa using l2)
    subst h2
    refine ⟨G1 ++ F', G1 ++ G, ⟨u, G1, F', h1, rfl, h3, a1⟩, ?_, G', ?_⟩
    · refine (List.Perm.append_left G1 a2).trans ?_
      rw [← List.append_assoc, ← List.append_assoc]
      exact List.Perm.append_right G List.perm_append_comm
    · rw [List.append_assoc]
      exact List.Perm.append_left G1 a3
/-- less is known -/
inductive Weak : Ctx → Ctx → Prop
  | nil : Weak [] []
  | same {e Γ Δ} : Weak Γ Δ → Weak (e :: Γ) (e :: Δ)
  | drop {e Γ Δ} : Weak Γ Δ → Weak (e :: Γ) (none :: Δ)
theorem Weak.refl : ∀ Γ : Ctx, Weak Γ Γ
  | [] => .nil
  | _ :: Γ => .same (Weak.refl Γ)
theorem Weak.len {Γ Δ : Ctx} (w : Weak Γ Δ) : Γ.length = Δ.length := by induction w <;> simp_all
theorem Weak.holds {W : Wd} {Γ Δ : Ctx} (w : Weak Γ Δ) : ∀ {σ : St} {F : List Addr}, Holds Γ σ W F → ∃ F' G, Holds Δ σ W F' ∧ F.Perm (F' ++ G) := by
  induction w with
  | nil => exact fun {σ F} h => ⟨[], F, rfl, .refl _⟩
  | @same e Γ Δ w ih =>
    intro σ F h
    cases e with
    | none => exact ih (σ := σ.tail) h
    | some o =>
      obtain ⟨v, F1, F2, h1, h2, h3, h4⟩ := h
      obtain ⟨F', G, a1, a2⟩ := ih (σ := σ.tail) h4
      subst h2
      refine ⟨F1 ++ F', G, ⟨v, F1, F', h1, rfl, h3, a1⟩, ?_⟩
      rw [List.append_assoc]
      exact List.Perm.append_left F1 a2
  | @drop e Γ Δ w ih =>
    intro σ F h
    cases e with
    | none => exact ih (σ := σ.tail) h
    | some o =>
      obtain ⟨v, F1, F2, h1, h2, h3, h4⟩ := h
      obtain ⟨F', G, a1, a2⟩ := ih (σ := σ.tail) h4
      subst h2
      refine ⟨F', G ++ F1, a1, ?_⟩
      rw [← List.append_assoc]
      exact (List.Perm.append_left F1 a2).trans List.perm_append_comm
structure Sta (Γ : Ctx) (σ : St) (W : Wd) (F : List Addr) : Prop where
  ok : Ex W.B W.H
  fp : FpOk W F
  len : σ.length = Γ.length
  hold : Holds Γ σ W F
theorem Sta.ext {Γ : Ctx} {σ : St} {W W' : Wd} {F : List Addr} (s : Sta Γ σ W F) (e : Ext W W') : Sta Γ σ W' F :=
  ⟨e.ok, s.fp.ext e, s.len, s.hold.loc e.b fun a ha => e.h.eq (s.fp.al a ha)⟩
theorem Sta.weak {Γ Δ : Ctx} {σ : St} {W : Wd} {F : List Addr} (s : Sta Γ σ W F) (w : Weak Γ Δ) : ∃ F', Sta Δ σ W F' ∧ ∀ a ∈ F', a ∈ F := by
  obtain ⟨F', G, a1, a2⟩ := w.holds s.hold
  exact ⟨F', ⟨s.ok, (s.fp.perm a2).left, s.len.trans w.len, a1⟩, fun a h => a2.mem_iff.mpr (List.mem_append_left _ h)⟩
/-- a shared slot -/
theorem Sta.get {Γ : Ctx} {σ : St} {W : Wd} {F : List Addr} {i : Nat} {p : SP} (s : Sta Γ σ W F) (h : Γ[i]? = some (some (sh p))) : ∃ v, σ[i]? = some (some v) ∧ p.P W.B v := by
  obtain ⟨v, F1, F2, h1, h2, _⟩ := s.hold.at h
  exact ⟨v, h1, h2.2⟩
theorem Sta.put {Γ : Ctx} {σ : St} {W : Wd} {F F1 : List Addr} {i : Nat} {o : OP} {v : V} (s : Sta Γ σ W F) (hi : i < Γ.length) (hc : o.C W v F1) (f : FpOk W (F ++ F1)) :
    ∃ F', Sta (Γ.set i (some o)) (σ.set i (some v)) W F' ∧ ∀ a ∈ F', a ∈ F ++ F1 := by
  obtain ⟨F', G, a1, a2, G', a3⟩ := Holds.put hc (i := i) s.hold hi (by rw [s.len]; exact hi)
  have f2 : FpOk W ((F1 ++ G) ++ G') := f.perm (by
    refine List.perm_append_comm.trans ?_
    rw [List.append_assoc]
    exact List.Perm.append_left F1 a3)
  refine ⟨F', ⟨s.ok, f2.left.perm a2.symm, by rw [List.length_set, List.length_set]; exact s.len, a1⟩, fun a h => ?_⟩
  rcases List.mem_append.mp (a2.mem_iff.mp h) with z | z
  · exact List.mem_append_right _ z
  · exact List.mem_append_left _ (a3.mem_iff.mpr (List.mem_append_left _ z))
end CC
set_option maxHeartbeats 4000000
/-! Judgements: a piece of Python and its mirror. -/
namespace CC
open PySem PySem.Spec L2
open PyProof.Rows hiding St
/-- what does not change while a def's body (or a comprehension's block) runs -/
structure Stc where
  P : Program
  w : World
  K : PySem.W.Frag
  mg : Str → Option Value
  base : Heap
  N : List Str
  sc : Scope
  k : Nat
  fn : Str → Bool
  prot : List Nat
  W : WX := fun _ _ _ _ => False
  calm : Bool := true
  top : Bool := true
  ex : Option (Addr × Addr) := none
structure Stc.In (S : Stc) (X : Cx) : Prop where
  prog : X.prog = S.P
  w : X.w = S.w
  K : X.K = S.K
  mg : X.mg = S.mg
  base : X.base = S.base
  N : X.N = S.N
  sc : X.env.scope = S.sc
  fn : X.fn = S.fn
  calm : X.calm = S.calm
  room : S.calm = true → Room S.k X.A
  un : X.A.units + 64 < cLine
  pass : PassesOwn (model X.prog X.w) X.A X.env X.xe
  tk : Takes X S.W
  top : S.top = true → X.stack = X.env :: X.outer ∧ X.env.frame = some X.env.locals
  ex : ∀ a C, S.ex = some (a, C) → ∃ X' oe pn, X = Cx.suite X' a ((a, oe) :: pn) ∧ Zc (.ref C) none oe ∧ ∃ vs, oe.data = .fields vs
theorem takes_none {X : Cx} : Takes X (fun _ _ _ _ => False) := fun _ _ ⟨_, _, _, _, _, _, _, _, _, _, _, _, _, _, _, _, z⟩ => z.elim
abbrev Stc.blk (S : Stc) (scope : Scope) : Stc := { S with sc := relS scope S.sc, fn := fun x => scope.names.lookup x == some .cell, W := fun _ _ _ _ => False, top := false, ex := none }
theorem Stc.In.blk {S : Stc} {X : Cx} (h : S.In X) (scope : Scope) (s : Shared) (H : Hp) (C : Addr) (cl : List (Str × Addr)) (fp : List Addr) : (S.blk scope).In (X.blk s H scope (compEnvC scope cl C X.env) fp) :=
  ⟨h.prog, h.w, h.K, h.mg, h.base, h.N, by
    show relabel scope X.env = relS scope S.sc
    rw [← h.sc]
    rfl, rfl, h.calm, h.room, h.un, PassesOwn.never, takes_none, nofun, nofun⟩
/-- what an exception is like -/
structure XP where
  P : Hp → Value → Option Addr → Prop
  mono : ∀ {B B' c d}, P B c d → Ex B B' → P B' c d
/-! ### readings for every context at once -/
def tOf (S : Stc) (e : Expr) : TE := fun σ H Q => ∃ t : TE, (∀ X, S.In X → PE X e t) ∧ t σ H Q
def ttOf (S : Stc) (e : Expr) : TT := fun σ H Q => ∃ t : TT, (∀ X, S.In X → PT X e t) ∧ t σ H Q
def twOf (S : Stc) (e : Expr) : TT := fun σ H Q => ∃ t : TT, (∀ X, S.In X → PW X e t) ∧ t σ H Q
def taOf (S : Stc) (es : List Expr) : TA := fun σ H Q => ∃ t : TA, (∀ X, S.In X → PA X es t) ∧ t σ H Q
def tsOf (S : Stc) (st : Stmt) : TS := fun D σ H => ∃ t : TS, (∀ X, S.In X → PS X st t) ∧ t D σ H
def tbOf (S : Stc) (sts : List Stmt) : TS := fun D σ H => ∃ t : TS, (∀ X, S.In X → PSs X sts t) ∧ t D σ H
section
variable {S : Stc} {X : Cx}
theorem peO {e : Expr} (h : S.In X) : PE X e (tOf S e) := ⟨fun pins s σ H Q I ⟨_, p, q⟩ => (p X h).run pins s σ H Q I q⟩
theorem ptO {e : Expr} (h : S.In X) : PT X e (ttOf S e) := ⟨fun pins s σ H Q I ⟨_, p, q⟩ => (p X h).run pins s σ H Q I q⟩
theorem pwO {e : Expr} (h : S.In X) : PW X e (twOf S e) := ⟨fun wh pins s σ H Q I ⟨_, p, q⟩ => (p X h).run wh pins s σ H Q I q⟩
theorem paO {es : List Expr} (h : S.In X) : PA X es (taOf S es) := ⟨fun pos pins s σ H Q I ⟨_, p, q⟩ => (p X h).run pos pins s σ H Q I q⟩
theorem psO {st : Stmt} (h : S.In X) : PS X st (tsOf S st) := ⟨fun pins s σ H D I ⟨_, p, q⟩ => (p X h).run pins s σ H D I q⟩
theorem pbO {sts : List Stmt} (h : S.In X) : PSs X sts (tbOf S sts) := ⟨fun pins s σ H D I ⟨_, p, q⟩ => (p X h).run pins s σ H D I q⟩
end
def GlS (S : Stc) (x : Str) : Prop := S.sc.names.lookup x = some .globalImplicit
theorem GlS.gl {S : Stc} {X : Cx} {x : Str} (g : GlS S x) (h : S.In X) : Gl X x := by
  show X.env.scope.names.lookup x = some .globalImplicit
  rw [h.sc]
  exact g
theorem visS {S : Stc} {X : Cx} {x : Str} (g : Vis S.sc x) (h : S.In X) : Vis X.env.scope x := by rw [h.sc]; exact g
theorem locS {S : Stc} {X : Cx} {x : Str} (g : Loc S.sc x) (h : S.In X) : Loc X.env.scope x := by rw [h.sc]; exact g
theorem mgS {S : Stc} {X : Cx} {x : Str} {u : Option Value} (g : S.mg x = u) (h : S.In X) : X.mg x = u := by rw [h.mg]; exact g
theorem fnokS {S : Stc} {X : Cx} {CX : CXT} {k : Nat} {f : Addr} {fd : FuncData} {ps : List Str} {sp : Sp} (F : FnOk S.P S.w S.K S.mg S.base CX k f fd ps sp) (h : S.In X) : FnOk X.prog X.w X.K X.mg X.base CX k f fd ps sp := by
  rw [h.prog, h.w, h.K, h.mg, h.base]
  exact F
/-! ### the judgements -/
variable {α β γ δ τ ω ρ : Type}
/-- a value has come, things were added -/
def Got (R : OP) (W : Wd) (Q : VK) : Prop := ∀ v W' Fv, Ext W W' → (∀ a ∈ Fv, W.H a = none) → FpOk W' Fv → R.C W' v Fv → Q v W'.H
/-- a pure expression: its mirror m (none: no claim), what its value is -/
def JN (S : Stc) (e : Expr) (Γ : Ctx) (m : Option α) (R : α → OP) : Prop :=
  ∀ σ W F, Sta Γ σ W F → ∀ x, m = some x → ∀ Q : VK, Got (R x) W Q → tOf S e σ W.H Q
/-- .. read where it stands: what is owned stays with its owner -/
def JR (S : Stc) (e : Expr) (Γ : Ctx) (m : Option α) (R : α → OP) : Prop :=
  ∀ σ W F, Sta Γ σ W F → ∀ x, m = some x → ∀ Q : VK, (∀ v W', Ext W W' → (∃ F1, (R x).C W' v F1 ∧ ∀ a ∈ F1, W'.H a ≠ none) → Q v W'.H) → tOf S e σ W.H Q
/-- a pure test -/
def JT (S : Stc) (e : Expr) (Γ : Ctx) (m : Option Bool) : Prop :=
  ∀ σ W F, Sta Γ σ W F → ∀ b, m = some b → ∀ Q : Bool → Hp → Prop, (∀ W', Ext W W' → Q b W'.H) → ttOf S e σ W.H Q
def JW (S : Stc) (e : Expr) (Γ : Ctx) (m : Option Bool) : Prop :=
  ∀ σ W F, Sta Γ σ W F → ∀ b, m = some b → ∀ Q : Bool → Hp → Prop, (∀ W', Ext W W' → Q b W'.H) → twOf S e σ W.H Q
/-- pure arguments, all shared -/
def JA (S : Stc) (es : List Expr) (Γ : Ctx) (m : Option α) (R : α → List SP) : Prop :=
  ∀ σ W F, Sta Γ σ W F → ∀ x, m = some x → ∀ Q : List V → Hp → Prop, (∀ vs W', Ext W W' → Hets W'.B vs (R x) → Q vs W'.H) → taOf S es σ W.H Q
/-- an expression that changes what is owned: Γ by the state s -/
def JE (S : Stc) (e : Expr) (Γ : τ → Ctx) (s : τ) (m : Option (α × τ)) (R : α → OP) : Prop :=
  ∀ σ W F, Sta (Γ s) σ W F → ∀ x, m = some x → ∀ Q : VK, (∀ v W' F' Fv, Stp W F W' (F' ++ Fv) → Sta (Γ x.2) σ W' F' → FpOk W' (F' ++ Fv) → (R x.1).C W' v Fv → Q v W'.H) → tOf S e σ W.H Q
/-- how a block may end -/
inductive Kd where
  | nx (Γ : Ctx)
  | rt (Γ : Ctx) (R : OP)
  | bk (Γ : Ctx)
  | ct (Γ : Ctx)
  | xc (Γ : Ctx) (R : XP)
/-- the slots that must stay -/
def Keep (prot : List Nat) (σ σ' : St) : Prop := ∀ p ∈ prot, σ'[p]? = σ[p]?
theorem Keep.refl {prot : List Nat} {σ : St} : Keep prot σ σ := fun _ _ => rfl
theorem Keep.trans {prot : List Nat} {σ σ1 σ2 : St} (a : Keep prot σ σ1) (b : Keep prot σ1 σ2) : Keep prot σ σ2 := fun p h => (b p h).trans (a p h)
theorem Keep.set {prot : List Nat} {σ : St} {i : Nat} {v : Option V} (h : i ∉ prot) : Keep prot σ (σ.set i v) := fun p hp => List.getElem?_set_ne fun e => h (by rw [e]; exact hp)
theorem ncon {prot : List Nat} {i : Nat} (h : prot.contains i = false) : i ∉ prot := fun z => by
  rw [List.contains_iff_mem.mpr z] at h
  cases h
def Post (wx : WX) (prot : List Nat) (σ : St) (W : Wd) (F : List Addr) (D : Ends) : Kd → Prop
  | .nx Γ => ∀ σ' W' F', Keep prot σ σ' → Stp W F W' F' → Sta Γ σ' W' F' → D.nx σ' W'.H
  | .bk Γ => ∀ σ' W' F', Keep prot σ σ' → Stp W F W' F' → Sta Γ σ' W' F' → D.bk σ' W'.H
  | .ct Γ => ∀ σ' W' F', Keep prot σ σ' → Stp W F W' F' → Sta Γ σ' W' F' → D.ct σ' W'.H
  | .rt Γ R => ∀ v σ' W' F' Fv, Keep prot σ σ' → Stp W F W' (F' ++ Fv) → Sta Γ σ' W' F' → FpOk W' (F' ++ Fv) → R.C W' v Fv → D.rt v W'.H
  | .xc Γ R => ∀ c d σ' W' F', Keep prot σ σ' → Stp W F W' F' → Sta Γ σ' W' F' → R.P W'.B c d → wx c d σ' W'.H
/-- a block: its mirror, and how each outcome ends -/
def JB (S : Stc) (sts : List Stmt) (Γ : Ctx) (m : Option ω) (D : ω → Kd) : Prop :=
  ∀ σ W F, Sta Γ σ W F → ∀ x, m = some x → ∀ E : Ends, Post S.W S.prot σ W F E (D x) → tbOf S sts E σ W.H
/-- one statement -/
def JS (S : Stc) (st : Stmt) (Γ : Ctx) (m : Option ω) (D : ω → Kd) : Prop :=
  ∀ σ W F, Sta Γ σ W F → ∀ x, m = some x → ∀ E : Ends, Post S.W S.prot σ W F E (D x) → tsOf S st E σ W.H
theorem Post.before {wx : WX} {prot : List Nat} {σ σ1 : St} {W W1 : Wd} {F F1 : List Addr} {D : Ends} {k : Kd} (p : Post wx prot σ W F D k) (hk : Keep prot σ σ1) (hs : Stp W F W1 F1) : Post wx prot σ1 W1 F1 D k := by
  cases k with
  | nx Γ => exact fun σ' W' F' a b c => p σ' W' F' (hk.trans a) (hs.trans b) c
  | bk Γ => exact fun σ' W' F' a b c => p σ' W' F' (hk.trans a) (hs.trans b) c
  | ct Γ => exact fun σ' W' F' a b c => p σ' W' F' (hk.trans a) (hs.trans b) c
  | rt Γ R => exact fun v σ' W' F' Fv a b c d e => p v σ' W' F' Fv (hk.trans a) (hs.trans b) c d e
  | xc Γ R => exact fun v d σ' W' F' a b c e => p v d σ' W' F' (hk.trans a) (hs.trans b) c e
section
variable {S : Stc} {Γ Δ : Ctx} {a b c e : Expr} {es : List Expr} {pos : Pos}
theorem JN.cong {m m' : Option α} {R : α → OP} (h : JN S e Γ m R) (q : m = m') : JN S e Γ m' R := q ▸ h
theorem JB.cong {sts : List Stmt} {m m' : Option ω} {D : ω → Kd} (h : JB S sts Γ m D) (q : m = m') : JB S sts Γ m' D := q ▸ h
theorem JN.weak {m : Option α} {R : α → OP} (w : Weak Γ Δ) (h : JN S e Δ m R) : JN S e Γ m R := fun σ W F st x hx Q k => by
  obtain ⟨F', st', _⟩ := st.weak w
  exact h σ W F' st' x hx Q k
theorem JB.weak {sts : List Stmt} {m : Option ω} {D : ω → Kd} (w : Weak Γ Δ) (h : JB S sts Δ m D) : JB S sts Γ m D := fun σ W F st x hx E k => by
  obtain ⟨F', st', sub⟩ := st.weak w
  exact h σ W F' st' x hx E (k.before Keep.refl ((Stp.refl st.ok).perm sub))
/-- mirrors of the value and of the description -/
theorem JN.map {m : Option α} {R : α → OP} {R' : β → OP} {f : α → β} (h : JN S e Γ m R) (hR : ∀ x W v F, (R x).C W v F → (R' (f x)).C W v F) : JN S e Γ (m.bind fun x => some (f x)) R' := fun σ W F st y hy Q k => by
  cases hm : m with
  | none => rw [hm] at hy; cases hy
  | some x =>
    rw [hm] at hy
    cases hy
    exact h σ W F st x hm Q fun v W' Fv e fr fp r => k v W' Fv e fr fp (hR x W' v Fv r)
/-! ### what is owned becomes shared -/
theorem FpOk.head {W : Wd} {a : Addr} {F : List Addr} (f : FpOk W (a :: F)) : a ∉ F := (List.nodup_cons.mp f.nd).1
/-- freezing with the footprint's own facts -/
structure FrzN (R : OP) (P : SP) : Prop where
  run : ∀ {W v F}, R.C W v F → F.Nodup → (∀ a ∈ F, W.B a = none) → Ex W.B W.H → ∃ B', Ex W.B B' ∧ Ex B' W.H ∧ (∀ a, W.B a = none → a ∉ F → B' a = none) ∧ P.P B' v
theorem fz_sh {p : SP} : FrzN (sh p) p := ⟨fun {W v F} h _ _ ok => ⟨W.B, Ex.refl _, ok, fun _ h _ => h, h.2⟩⟩
theorem fz_owns {E : α → OP} {G : α → SP} (f : ∀ x, FrzN (E x) (G x)) : ∀ {vs : List V} {xs : List α} {W : Wd} {F : List Addr}, Owns E W vs xs F → F.Nodup → (∀ a ∈ F, W.B a = none) → Ex W.B W.H →
    ∃ B', Ex W.B B' ∧ Ex B' W.H ∧ (∀ a, W.B a = none → a ∉ F → B' a = none) ∧ Each G B' vs xs
  | [], [], W, F, _, _, _, ok => ⟨W.B, Ex.refl _, ok, fun _ h _ => h, trivial⟩
  | v :: vs, x :: xs, W, F, ⟨F1, F2, h1, h2, h3⟩, nd, fr, ok => by
    subst h1
    have nd' := List.nodup_append.mp nd
    obtain ⟨B1, a1, a2, a3, a4⟩ := (f x).run h2 nd'.1 (fun a ha => fr a (List.mem_append_left _ ha)) ok
    obtain ⟨B2, b1, b2, b3, b4⟩ := fz_owns f (W := ⟨W.H, B1⟩) (h3.loc (W' := ⟨W.H, B1⟩) a1 fun _ _ => rfl) nd'.2.1 (fun a ha => a3 a (fr a (List.mem_append_right _ ha)) fun z => nd'.2.2 a z a ha rfl) a2
    exact ⟨B2, a1.trans b1, b2, fun a h n => b3 a (a3 a h fun z => n (List.mem_append_left _ z)) fun z => n (List.mem_append_right _ z), SP.mono _ a4 b1, b4⟩
  | [], _ :: _, _, _, h, _, _, _ => h.elim
  | _ :: _, [], _, _, h, _, _, _ => h.elim
theorem fz_lst {E : α → OP} {G : α → SP} (f : ∀ x, FrzN (E x) (G x)) (xs : List α) : FrzN (lstO E xs) (lstS G xs) := ⟨fun {W v F} h nd fr ok => by
  obtain ⟨a, vs, F2, rfl, h2, rfl, h4⟩ := h
  have nd' := List.nodup_cons.mp nd
  obtain ⟨B1, a1, a2, a3, a4⟩ := fz_owns f h4 nd'.2 (fun b hb => fr b (List.mem_cons_of_mem _ hb)) ok
  have na : B1 a = none := a3 a (fr a List.mem_cons_self) nd'.1
  refine ⟨upd B1 a (.lst vs), a1.trans (Ex.new na), fun b o e => ?_, fun b hb n => ?_, a, vs, rfl, upd_same, a4.mono (Ex.new na)⟩
  · by_cases z : b = a
    · subst z
      rw [upd_same] at e
      rw [h2]
      exact e
    · rw [upd_ne z] at e
      exact a2 b o e
  · have z : b ≠ a := fun z => n (z ▸ List.mem_cons_self)
    rw [upd_ne z]
    exact a3 b hb fun q => n (List.mem_cons_of_mem _ q)⟩
theorem fz_het {ps : List OP} {qs : List SP} : ∀ {vs : List V} {ps : List OP} {qs : List SP} {W : Wd} {F : List Addr}, HetO W vs ps F → Paired FrzN ps qs → F.Nodup → (∀ a ∈ F, W.B a = none) → Ex W.B W.H →
    ∃ B', Ex W.B B' ∧ Ex B' W.H ∧ (∀ a, W.B a = none → a ∉ F → B' a = none) ∧ Hets B' vs qs
  | [], [], _, W, F, _, .nil, _, _, ok => ⟨W.B, Ex.refl _, ok, fun _ h _ => h, trivial⟩
  | v :: vs, x :: xs, _, W, F, ⟨F1, F2, h1, h2, h3⟩, .cons f fs, nd, fr, ok => by
    subst h1
    have nd' := List.nodup_append.mp nd
    obtain ⟨B1, a1, a2, a3, a4⟩ := f.run h2 nd'.1 (fun a ha => fr a (List.mem_append_left _ ha)) ok
    obtain ⟨B2, b1, b2, b3, b4⟩ := fz_het (ps := ps) (qs := qs) (W := ⟨W.H, B1⟩) (h3.loc (W' := ⟨W.H, B1⟩) a1 fun _ _ => rfl) fs nd'.2.1 (fun a ha => a3 a (fr a (List.mem_append_right _ ha)) fun z => nd'.2.2 a z a ha rfl) a2
    exact ⟨B2, a1.trans b1, b2, fun a h n => b3 a (a3 a h fun z => n (List.mem_append_left _ z)) fun z => n (List.mem_append_right _ z), SP.mono _ a4 b1, b4⟩
  | [], _ :: _, _, _, _, h, _, _, _, _ => h.elim
  | _ :: _, [], _, _, _, h, _, _, _, _ => h.elim
/-- a fresh value frozen on the way -/
theorem JN.frz {m : Option α} {R : α → OP} {P : α → SP} (f : ∀ x, FrzN (R x) (P x)) (h : JN S e Γ m R) : JN S e Γ m fun x => sh (P x) := fun σ W F st x hx Q k =>
  h σ W F st x hx Q fun v W' Fv ext fresh fp r => by
    obtain ⟨B', b1, b2, b3, b4⟩ := (f x).run r fp.nd fp.fr ext.ok
    have e2 : Ext W ⟨W'.H, B'⟩ := ⟨b2, ext.h, ext.b.trans b1, fun a h1 h2 => b3 a (ext.fr a h1 h2) fun z => h1 (fresh a z)⟩
    exact k v ⟨W'.H, B'⟩ [] e2 (fun _ h => (List.not_mem_nil h).elim) FpOk.nil ⟨rfl, b4⟩
theorem FrzN.lst (E : α → SP) : ∀ xs : List α, FrzN (lstO (fun x => sh (E x)) xs) (lstS E xs) := fz_lst fun _ => fz_sh
theorem FrzN.lst2 (E : α → SP) : ∀ xs : List (List α), FrzN (lstO (fun ys => lstO (fun x => sh (E x)) ys) xs) (lstS (lstS E) xs) := fz_lst fun ys => fz_lst (fun _ => fz_sh) ys
/-- a slot frozen -/
theorem JB.frz {sts : List Stmt} {m : Option ω} {D : ω → Kd} {i : Nat} {o : OP} {p : SP} (hi : Γ[i]? = some (some o)) (f : FrzN o p) (h : JB S sts (Γ.set i (some (sh p))) m D) : JB S sts Γ m D := fun σ W F st x hx E k => by
  obtain ⟨v, F1, F2, a1, a2, a3, a4⟩ := st.hold.at hi
  have fp := st.fp.perm a3
  obtain ⟨B', b1, b2, b3, b4⟩ := f.run a2 fp.left.nd fp.left.fr st.ok
  obtain ⟨F', c1, c2⟩ := a4 ⟨W.H, B'⟩ (sh p) v [] b1 (fun _ _ => rfl) ⟨rfl, b4⟩
  have sub : ∀ a ∈ F', a ∈ F2 := fun a ha => by simpa using c2.mem_iff.mp ha
  have fp' : FpOk ⟨W.H, B'⟩ F' := by
    refine FpOk.perm (F := F2) ?_ (by simpa using c2.symm)
    exact ⟨fp.right.nd, fp.right.al, fun a ha => b3 a (fp.right.fr a ha) fun z => fp.disj a z ha⟩
  have hset : σ.set i (some v) = σ := by
    refine List.ext_getElem? fun j => ?_
    by_cases e : i = j
    · subst e
      rw [a1, List.getElem?_set_self (List.getElem?_eq_some_iff.mp a1).1]
    · rw [List.getElem?_set_ne e]
  rw [hset] at c1
  refine h σ ⟨W.H, B'⟩ F' ⟨b2, fp', by rw [List.length_set]; exact st.len, c1⟩ x hx E (k.before Keep.refl ?_)
  refine ⟨b2, b1, fun a o h _ => h, fun a h => h, fun a h1 h2 n => b3 a h2 fun z => n (a3.mem_iff.mpr (List.mem_append_left _ z)), fun a ha => .inl (a3.mem_iff.mpr (List.mem_append_right _ (sub a ha)))⟩
/-! ### names and constants -/
theorem jn_var {E : α → SP} {a : α} {x : Str} (i : Nat) (hi : Γ[i]? = some (some (sh (E a))) := by rfl) (hN : S.N[i]? = some x := by rfl) (hv : Vis S.sc x := by first | exact Or.inl rfl | exact Or.inr (Or.inl rfl) | exact Or.inr (Or.inr rfl))
    (hd : (x == ("__debug__" : Str)) = false := by decide) (hcd : (x == ("__classdict__" : Str)) = false := by decide) : JN S (.Name x pos) Γ (some a) fun a => sh (E a) := fun σ W F st y hy Q k => by
  cases hy
  obtain ⟨v, h1, h2⟩ := st.get hi
  exact ⟨tVar i, fun X hX => pe_var (by rw [hX.N]; exact hN) (visS hv hX) hd hcd, v, h1, k v W [] (Ext.refl st.ok) (fun _ h => (List.not_mem_nil h).elim) FpOk.nil ⟨rfl, h2⟩⟩
theorem jr_var {R : α → OP} {a : α} {x : Str} (i : Nat) (hi : Γ[i]? = some (some (R a)) := by rfl) (hN : S.N[i]? = some x := by rfl) (hv : Vis S.sc x := by first | exact Or.inl rfl | exact Or.inr (Or.inl rfl) | exact Or.inr (Or.inr rfl))
    (hd : (x == ("__debug__" : Str)) = false := by decide) (hcd : (x == ("__classdict__" : Str)) = false := by decide) : JR S (.Name x pos) Γ (some a) R := fun σ W F st y hy Q k => by
  cases hy
  obtain ⟨v, F1, F2, h1, h2, h3, _⟩ := st.hold.at hi
  exact ⟨tVar i, fun X hX => pe_var (by rw [hX.N]; exact hN) (visS hv hX) hd hcd, v, h1, k v W (Ext.refl st.ok) ⟨F1, h2, fun a ha => st.fp.al a (h3.mem_iff.mpr (List.mem_append_left _ ha))⟩⟩
theorem jr_of {m : Option α} {R : α → OP} (h : JN S e Γ m R) : JR S e Γ m R := fun σ W F st x hx Q k => h σ W F st x hx Q fun v W' Fv e _ fp r => k v W' e ⟨Fv, r, fp.al⟩
theorem jn_of {m : Option α} {P : α → SP} (h : JR S e Γ m fun x => sh (P x)) : JN S e Γ m fun x => sh (P x) := fun σ W F st x hx Q k => h σ W F st x hx Q fun v W' e r => by
  obtain ⟨F1, r, _⟩ := r
  exact k v W' [] e (fun _ h => (List.not_mem_nil h).elim) FpOk.nil ⟨rfl, r.2⟩
theorem jn_c {v : V} {E : α → SP} {a : α} (hp : ∀ X, S.In X → PE X e (tC v)) (hv : ∀ B, (E a).P B v) : JN S e Γ (some a) fun a => sh (E a) := fun σ W F st y hy Q k => by
  cases hy
  exact ⟨tC v, hp, k v W [] (Ext.refl st.ok) (fun _ h => (List.not_mem_nil h).elim) FpOk.nil ⟨rfl, hv _⟩⟩
theorem jn_int {i j} : JN S (.Constant (.int i) j pos) Γ (some i) fun a => sh (intS a) := jn_c (fun _ _ => pe_int) fun _ => rfl
theorem jn_bl {b j} : JN S (.Constant (.bool b) j pos) Γ (some b) fun a => sh (boolS a) := jn_c (fun _ _ => pe_bl) fun _ => rfl
theorem jn_str {x j} : JN S (.Constant (.str x) j pos) Γ (some x) fun a => sh (strS a) := jn_c (fun _ _ => pe_str) fun _ => rfl
theorem jn_non {j} : JN S (.Constant .none j pos) Γ (some ()) fun _ => sh nonS := jn_c (E := fun _ => nonS) (fun _ _ => pe_non) fun _ => rfl
/-! ### operators -/
/-- a two-place operation on shared values -/
def OpV (r : R2) (E : α → SP) (G : β → SP) (f : α → β → Option γ) (R : γ → OP) : Prop :=
  ∀ W x y v u z, Ex W.B W.H → (E x).P W.B v → (G y).P W.B u → f x y = some z → ∀ Q : VK, Got (R z) W Q → r v u W.H Q
theorem Got.val {p : SP} {W : Wd} {Q : VK} {v : V} (k : Got (sh p) W Q) (ok : Ex W.B W.H) (h : p.P W.B v) : Q v W.H := k v W [] (Ext.refl ok) (fun _ h => (List.not_mem_nil h).elim) FpOk.nil ⟨rfl, h⟩
theorem Got.ext {R : OP} {W W1 : Wd} {Q : VK} (k : Got R W Q) (e : Ext W W1) : Got R W1 Q := fun v W' Fv e1 fr fp r => k v W' Fv (e.trans e1) (fun a ha => e.h.back (fr a ha)) fp r
theorem run2 {ma : Option α} {mb : Option β} {f : α → β → Option γ} {z : γ} (h : (ma.bind fun x => mb.bind fun y => f x y) = some z) : ∃ x y, ma = some x ∧ mb = some y ∧ f x y = some z := by
  cases ma with
  | none => cases h
  | some x =>
    cases mb with
    | none => cases h
    | some y => exact ⟨x, y, rfl, rfl, h⟩
theorem run1 {ma : Option α} {f : α → Option γ} {z : γ} (h : (ma.bind fun x => f x) = some z) : ∃ x, ma = some x ∧ f x = some z := by
  cases ma with
  | none => cases h
  | some x => exact ⟨x, rfl, h⟩
theorem tOp_run {r : R2} {E : α → SP} {G : β → SP} {f : α → β → Option γ} {R : γ → OP} {ma : Option α} {mb : Option β} (ha : JN S a Γ ma fun x => sh (E x)) (hb : JN S b Γ mb fun y => sh (G y)) (hr : OpV r E G f R)
    {σ : L2.St} {W : Wd} {F : List Addr} (st : Sta Γ σ W F) {z : γ} (hz : (ma.bind fun x => mb.bind fun y => f x y) = some z) {Q : VK} (k : Got (R z) W Q) : tOp r (tOf S a) (tOf S b) σ W.H Q := by
  obtain ⟨x, y, h1, h2, h3⟩ := run2 hz
  refine ha σ W F st x h1 _ fun v W1 F1 e1 _ _ r1 => ?_
  refine hb σ W1 F (st.ext e1) y h2 _ fun u W2 F2 e2 _ _ r2 => ?_
  exact hr W2 x y v u z e2.ok (SP.mono _ r1.2 e2.b) r2.2 h3 Q (k.ext (e1.trans e2))
theorem jn_bin {op : Operator} {r : R2} {E : α → SP} {G : β → SP} {f : α → β → Option γ} {R : γ → OP} {ma : Option α} {mb : Option β} (ho : ∀ X, S.In X → OpR X (binaryOp op) r) (hr : OpV r E G f R)
    (ha : JN S a Γ ma fun x => sh (E x)) (hb : JN S b Γ mb fun y => sh (G y)) : JN S (.BinOp a op b pos) Γ (ma.bind fun x => mb.bind fun y => f x y) R := fun σ W F st z hz Q k =>
  ⟨tOp r (tOf S a) (tOf S b), fun X hX => pe_op (ho X hX) (peO hX) (peO hX), tOp_run ha hb hr st hz k⟩
theorem jn_cmp {op : CmpOp} {r : R2} {E : α → SP} {G : β → SP} {f : α → β → Option γ} {R : γ → OP} {ma : Option α} {mb : Option β} (ho : ∀ X, S.In X → OpR X (compareOp op) r) (hr : OpV r E G f R)
    (ha : JN S a Γ ma fun x => sh (E x)) (hb : JN S b Γ mb fun y => sh (G y)) (hm : behindInMarks op b = false := by first | exact nomark _ | rfl) : JN S (.Compare a [op] [b] pos) Γ (ma.bind fun x => mb.bind fun y => f x y) R := fun σ W F st z hz Q k =>
  ⟨tOp r (tOf S a) (tOf S b), fun X hX => pe_cmpR (ho X hX) (peO hX) (peO hX) hm, tOp_run ha hb hr st hz k⟩
theorem jt_cmp {op : CmpOp} {r : R2} {E : α → SP} {G : β → SP} {f : α → β → Option Bool} {ma : Option α} {mb : Option β} (ho : ∀ X, S.In X → OpR X (compareOp op) r) (hr : OpV r E G f fun z => sh (boolS z))
    (ha : JN S a Γ ma fun x => sh (E x)) (hb : JN S b Γ mb fun y => sh (G y)) (hm : behindInMarks op b = false := by first | exact nomark _ | rfl) : JT S (.Compare a [op] [b] pos) Γ (ma.bind fun x => mb.bind fun y => f x y) := fun σ W F st z hz Q k =>
  ⟨tTest (tOp r (tOf S a) (tOf S b)), fun X hX => pt_cmpR (ho X hX) (peO hX) (peO hX) hm, tOp_run ha hb hr st hz fun v W' Fv e _ _ h => ⟨z, h.2, k W' e⟩⟩
/-- a subscript of something read where it stands -/
def IxV (r : R2) (R0 : α → OP) (G : β → SP) (f : α → β → Option γ) (R : γ → OP) : Prop :=
  ∀ W x y v u z F1, Ex W.B W.H → (R0 x).C W v F1 → (G y).P W.B u → f x y = some z → ∀ Q : VK, (∀ t, (∃ F2, (R z).C W t F2 ∧ ∀ a ∈ F2, a ∈ F1) → Q t W.H) → r v u W.H Q
theorem jr_ix {r : R2} {R0 : α → OP} {G : β → SP} {f : α → β → Option γ} {R : γ → OP} {ma : Option α} {mb : Option β} (ho : ∀ X, S.In X → IxR X r) (hr : IxV r R0 G f R)
    (ha : JR S a Γ ma R0) (hb : JN S b Γ mb fun y => sh (G y)) (hs : PlainIx b := by exact fun _ _ => rfl) : JR S (.Subscript a b pos) Γ (ma.bind fun x => mb.bind fun y => f x y) R := fun σ W F st z hz Q k => by
  refine ⟨tOp r (tOf S a) (tOf S b), fun X hX => pe_ix (ho X hX) (peO hX) (peO hX) hs, ?_⟩
  obtain ⟨x, y, h1, h2, h3⟩ := run2 hz
  refine ha σ W F st x h1 _ fun v W1 e1 ⟨F1, r1, al1⟩ => ?_
  refine hb σ W1 F (st.ext e1) y h2 _ fun u W2 F2 e2 _ _ r2 => ?_
  have r1' : (R0 x).C W2 v F1 := OP.loc _ r1 e2.b fun a ha => e2.h.eq (al1 a ha)
  exact hr W2 x y v u z F1 e2.ok r1' r2.2 h3 _ fun t ⟨F3, q1, q2⟩ => k t W2 (e1.trans e2) ⟨F3, q1, fun a ha => e2.h.ne (al1 a (q2 a ha))⟩
theorem jn_un {op : UnaryOp} {r : V → Hp → VK → Prop} {E : α → SP} {f : α → Option γ} {R : γ → OP} {ma : Option α} (ho : ∀ X, S.In X → UnR X (unaryOp op) r)
    (hr : ∀ W x v z, Ex W.B W.H → (E x).P W.B v → f x = some z → ∀ Q : VK, Got (R z) W Q → r v W.H Q) (ha : JN S a Γ ma fun x => sh (E x)) : JN S (.UnaryOp op a pos) Γ (ma.bind fun x => f x) R := fun σ W F st z hz Q k => by
  refine ⟨tUn r (tOf S a), fun X hX => pe_un (ho X hX) (peO hX), ?_⟩
  obtain ⟨x, h1, h3⟩ := run1 hz
  exact ha σ W F st x h1 _ fun v W1 F1 e1 _ _ r1 => hr W1 x v z e1.ok r1.2 h3 Q (k.ext e1)
theorem jn_neg {ma : Option Int} (ha : JN S a Γ ma fun x => sh (intS x)) : JN S (.UnaryOp .USub a pos) Γ (ma.bind fun x => some (-x)) fun z => sh (intS z) :=
  jn_un (f := fun x : Int => some (-x)) (fun _ _ => un_neg) (fun W x v z ok h e Q k => by cases e; cases h; exact ⟨x, rfl, k.val ok rfl⟩) ha
/-! ### tests -/
theorem jt_val {m : Option Bool} (h : JN S e Γ m fun z => sh (boolS z)) (he : ∀ env whole, isTrue e env whole = (do let v ← whole; standAt e.pos; holding [v] (truthy v)) := by intro _ _; rfl) : JT S e Γ m := fun σ W F st z hz Q k =>
  ⟨tB (tOf S e), fun X hX => pt_val (peO hX) (he _), h σ W F st z hz _ fun v W' Fv e _ _ r => ⟨z, r.2, k W' e⟩⟩
theorem jt_not {m : Option Bool} (h : JT S e Γ m) : JT S (.UnaryOp .Not e pos) Γ (m.bind fun x => some (!x)) := fun σ W F st z hz Q k => by
  obtain ⟨x, h1, h2⟩ := run1 hz
  cases h2
  exact ⟨tNot (ttOf S e), fun X hX => pt_not (ptO hX), h σ W F st x h1 _ fun W' e => k W' e⟩
theorem jw_and1 {m : Option Bool} (h : JT S a Γ m) : JW S (.BoolOp .And [a] pos) Γ m := fun σ W F st z hz Q k => ⟨ttOf S a, fun X hX => pw_and1 (ptO hX), h σ W F st z hz _ k⟩
theorem jw_or1 {m : Option Bool} (h : JT S a Γ m) : JW S (.BoolOp .Or [a] pos) Γ m := fun σ W F st z hz Q k => ⟨ttOf S a, fun X hX => pw_or1 (ptO hX), h σ W F st z hz _ k⟩
theorem jw_and {ma mb : Option Bool} (ha : JT S a Γ ma) (hb : JW S (.BoolOp .And (b :: es) pos) Γ mb) : JW S (.BoolOp .And (a :: b :: es) pos) Γ (ma.bind fun x => bif x then mb else some false) := fun σ W F st z hz Q k => by
  obtain ⟨x, h1, h2⟩ := run1 hz
  refine ⟨tAnd (ttOf S a) (twOf S (.BoolOp .And (b :: es) pos)), fun X hX => pw_and (ptO hX) (pwO hX), ha σ W F st x h1 _ fun W' e => ?_⟩
  cases x with
  | true => exact iteT (hb σ W' F (st.ext e) z h2 Q fun W'' e' => k W'' (e.trans e'))
  | false =>
    cases h2
    exact iteF (k W' e)
theorem jw_or {ma mb : Option Bool} (ha : JT S a Γ ma) (hb : JW S (.BoolOp .Or (b :: es) pos) Γ mb) : JW S (.BoolOp .Or (a :: b :: es) pos) Γ (ma.bind fun x => bif x then some true else mb) := fun σ W F st z hz Q k => by
  obtain ⟨x, h1, h2⟩ := run1 hz
  refine ⟨tOr (ttOf S a) (twOf S (.BoolOp .Or (b :: es) pos)), fun X hX => pw_or (ptO hX) (pwO hX), ha σ W F st x h1 _ fun W' e => ?_⟩
  cases x with
  | false => exact iteF (hb σ W' F (st.ext e) z h2 Q fun W'' e' => k W'' (e.trans e'))
  | true =>
    cases h2
    exact iteT (k W' e)
theorem jt_w {m : Option Bool} (h : JW S e Γ m) : JT S e Γ m := fun σ W F st z hz Q k => ⟨twOf S e, fun X hX => (pwO hX).pt, h σ W F st z hz Q k⟩
/-- as values: all True or False -/
theorem jn_one {op : BoolOp} {m : Option α} {R : α → OP} (h : JN S a Γ m R) : JN S (.BoolOp op [a] pos) Γ m R := fun σ W F st z hz Q k => ⟨tOf S a, fun X hX => pe_one (peO hX), h σ W F st z hz Q k⟩
theorem jn_and {ma mb : Option Bool} (ha : JN S a Γ ma fun z => sh (boolS z)) (hb : JN S (.BoolOp .And (b :: es) pos) Γ mb fun z => sh (boolS z)) :
    JN S (.BoolOp .And (a :: b :: es) pos) Γ (ma.bind fun x => bif x then mb else some false) fun z => sh (boolS z) := fun σ W F st z hz Q k => by
  obtain ⟨x, h1, h2⟩ := run1 hz
  refine ⟨tAndV (tOf S a) (tOf S (.BoolOp .And (b :: es) pos)), fun X hX => pe_and (peO hX) (peO hX), ha σ W F st x h1 _ fun v W' Fv e _ _ r => ⟨x, r.2, ?_⟩⟩
  cases x with
  | true => exact iteT (hb σ W' F (st.ext e) z h2 Q (k.ext e))
  | false =>
    cases h2
    exact iteF ((k.ext e).val e.ok rfl)
theorem jn_or {ma mb : Option Bool} (ha : JN S a Γ ma fun z => sh (boolS z)) (hb : JN S (.BoolOp .Or (b :: es) pos) Γ mb fun z => sh (boolS z)) :
    JN S (.BoolOp .Or (a :: b :: es) pos) Γ (ma.bind fun x => bif x then some true else mb) fun z => sh (boolS z) := fun σ W F st z hz Q k => by
  obtain ⟨x, h1, h2⟩ := run1 hz
  refine ⟨tOrV (tOf S a) (tOf S (.BoolOp .Or (b :: es) pos)), fun X hX => pe_or (peO hX) (peO hX), ha σ W F st x h1 _ fun v W' Fv e _ _ r => ⟨x, r.2, ?_⟩⟩
  cases x with
  | false => exact iteF (hb σ W' F (st.ext e) z h2 Q (k.ext e))
  | true =>
    cases h2
    exact iteT ((k.ext e).val e.ok rfl)
theorem jn_notV {m : Option Bool} (h : JN S e Γ m fun z => sh (boolS z)) : JN S (.UnaryOp .Not e pos) Γ (m.bind fun x => some (!x)) fun z => sh (boolS z) := fun σ W F st z hz Q k => by
  obtain ⟨x, h1, h2⟩ := run1 hz
  cases h2
  exact ⟨tNotV (tOf S e), fun X hX => pe_not (peO hX), h σ W F st x h1 _ fun v W' Fv e _ _ r => ⟨x, r.2, (k.ext e).val e.ok rfl⟩⟩
theorem jn_if {mc : Option Bool} {ma mb : Option α} {R : α → OP} (hc : JT S c Γ mc) (ha : JN S a Γ ma R) (hb : JN S b Γ mb R) : JN S (.IfExp c a b pos) Γ (mc.bind fun x => bif x then ma else mb) R := fun σ W F st z hz Q k => by
  obtain ⟨x, h1, h2⟩ := run1 hz
  refine ⟨tIf (ttOf S c) (tOf S a) (tOf S b), fun X hX => pe_ifExp (ptO hX) (peO hX) (peO hX), hc σ W F st x h1 _ fun W' e => ?_⟩
  cases x with
  | true => exact iteT (ha σ W' F (st.ext e) z h2 Q (k.ext e))
  | false => exact iteF (hb σ W' F (st.ext e) z h2 Q (k.ext e))
/-! ### arguments, displays, calls -/
theorem ja_nil : JA S [] Γ (some ()) fun _ => [] := fun σ W F st x hx Q k => ⟨tNil, fun _ _ => pa_nil, k [] W (Ext.refl st.ok) trivial⟩
theorem ja_cons {ma : Option α} {mb : Option β} {E : α → SP} {G : β → List SP} (ha : JN S e Γ ma fun x => sh (E x)) (hb : JA S es Γ mb G) (hs : ∀ env, starEach (e :: es) env = (false, eval e env) :: starEach es env := by intro _; rfl) :
    JA S (e :: es) Γ (ma.bind fun x => mb.bind fun y => some (x, y)) fun p => E p.1 :: G p.2 := fun σ W F st z hz Q k => by
  obtain ⟨x, y, h1, h2, h3⟩ := run2 hz
  cases h3
  refine ⟨tCons (tOf S e) (taOf S es), fun X hX => pa_cons (peO hX) (paO hX) (hs _), ?_⟩
  refine ha σ W F st x h1 _ fun v W1 F1 e1 _ _ r1 => ?_
  exact hb σ W1 F (st.ext e1) y h2 _ fun vs W2 e2 h => k (v :: vs) W2 (e1.trans e2) ⟨SP.mono _ r1.2 e2.b, h⟩
theorem jn_tup {m : Option α} {R : α → List SP} {p : SP → Prop} (h : JA S es Γ m R) {k : Nat} (hl : ∀ x, (R x).length ≤ 1000 := by intro _; decide) : JN S (.Tuple es k pos) Γ m fun x => sh (htupS (R x)) := fun σ W F st x hx Q kk =>
  ⟨tTup (taOf S es), fun X hX => pe_tup (paO hX), h σ W F st x hx _ fun vs W' e hh => by
    refine ⟨Nat.le_trans (by rw [hh.len]; exact hl x) (by decide), fun q hq => ?_⟩
    have e2 := Ext.newB e.ok (o := .tup vs) hq
    exact kk (.ref q) ⟨upd W'.H q (.tup vs), upd W'.B q (.tup vs)⟩ [] (e.trans e2) (fun _ h => (List.not_mem_nil h).elim) FpOk.nil ⟨rfl, q, vs, rfl, upd_same, hh.mono e2.b⟩⟩
/-- a call of a builtin by values -/
theorem jn_callB {x : Str} {id : String} {p : Pos} {r : List V → Hp → VK → Prop} {m : Option α} {G : α → List SP} {f : α → Option γ} {R : γ → OP} (hc : ∀ X, S.In X → CallR X (.builtin id) r)
    (hr : ∀ W x vs z, Ex W.B W.H → Hets W.B vs (G x) → f x = some z → ∀ Q : VK, Got (R z) W Q → r vs W.H Q) (hm : S.mg x = none) (ha : JA S (e :: es) Γ m G)
    (hg : GlS S x := by rfl) (hv : bootBuiltins x = some (.builtin id) := by decide +kernel) (hn : x ≠ "__name__" := by decide) (hdb : (x == ("__debug__" : Str)) = false := by decide)
    (he : ∀ env, starEach (e :: es) env = (false, eval e env) :: starEach es env := by intro _; rfl) (hpl : ∀ env, (backTo pos (starEach es env)).any (·.1) = false := by intro _; rfl) : JN S (.Call (.Name x p) (e :: es) [] pos) Γ (m.bind fun y => f y) R := fun σ W F st z hz Q k => by
  obtain ⟨y, h1, h2⟩ := run1 hz
  exact ⟨tCB r (taOf S (e :: es)), fun X hX => pe_callB (hc X hX) (hg.gl hX) (mgS hm hX) hv (paO hX) hn hdb (he _) (hpl _), ha σ W F st y h1 _ fun vs W' e hh => hr W' y vs z e.ok hh h2 Q (k.ext e)⟩
theorem jn_callTy {x : Str} {T : String} {p : Pos} {r : List V → Hp → VK → Prop} {m : Option α} {G : α → List SP} {f : α → Option γ} {R : γ → OP} (hc : ∀ X, S.In X → CallR X (.type T) r)
    (hr : ∀ W x vs z, Ex W.B W.H → Hets W.B vs (G x) → f x = some z → ∀ Q : VK, Got (R z) W Q → r vs W.H Q) (hm : S.mg x = none) (ha : JA S (e :: es) Γ m G)
    (hg : GlS S x := by rfl) (hv : bootBuiltins x = some (.type T) := by decide +kernel) (hn : x ≠ "__name__" := by decide) (hdb : (x == ("__debug__" : Str)) = false := by decide)
    (he : ∀ env, starEach (e :: es) env = (false, eval e env) :: starEach es env := by intro _; rfl) (hpl : ∀ env, (backTo pos (starEach es env)).any (·.1) = false := by intro _; rfl) : JN S (.Call (.Name x p) (e :: es) [] pos) Γ (m.bind fun y => f y) R := fun σ W F st z hz Q k => by
  obtain ⟨y, h1, h2⟩ := run1 hz
  exact ⟨tCB r (taOf S (e :: es)), fun X hX => pe_callTy (hc X hX) (hg.gl hX) (mgS hm hX) hv (paO hX) hn hdb (he _) (hpl _), ha σ W F st y h1 _ fun vs W' e hh => hr W' y vs z e.ok hh h2 Q (k.ext e)⟩
end
end CC
set_option maxHeartbeats 4000000
/-! Walks, comprehensions, loops, calls. -/
namespace CC
open PySem PySem.Spec L2
open PyProof.Rows hiding St
variable {α β γ δ τ ω ρ : Type}
/-- the length up to which lists are claimed -/
def LIM : Nat := 1000000
theorem lim_le {n : Nat} (h : n ≤ LIM) : n ≤ sizeLine := Nat.le_trans h (by decide)
theorem lim_lt {n : Nat} (h : n < LIM) : n < sizeLine := Nat.lt_of_lt_of_le h (by decide)
/-! ### walks -/
def ItOk (J : It) (C : Wd → Prop) (xs : List α) (E : α → SP) : Prop :=
  ∀ W1, C W1 → (∀ i x, xs[i]? = some x → J.go i W1.H ∧ ∀ v H', J.yld i W1.H v H' → ∃ W2, W2.H = H' ∧ Ext W1 W2 ∧ (E x).P W2.B v) ∧ ∀ i, xs.length ≤ i → J.stop i W1.H
def tiOf (S : Stc) (tg iter : Expr) : TI := fun σ H R => ∃ wi : TI, (∀ X, S.In X → PI X tg iter wi) ∧ wi σ H R
theorem piO {S : Stc} {X : Cx} {tg e : Expr} (h : S.In X) : PI X tg e (tiOf S tg e) := ⟨fun pins s σ H R I ⟨_, p, q⟩ => (p X h).run pins s σ H R I q⟩
/-- a walk over what is shared -/
def JI (S : Stc) (tg iter : Expr) (Γ : Ctx) (m : Option (List α)) (E : α → SP) : Prop :=
  ∀ σ W F, Sta Γ σ W F → ∀ xs, m = some xs → ∀ R : It → Hp → Prop, (∀ J W', Ext W W' → ItOk J (fun W1 => Ex W1.B W1.H ∧ Ex W'.B W1.B) xs E → R J W'.H) → tiOf S tg iter σ W.H R
/-- .. over what stands as it stands now -/
def JIc (S : Stc) (tg iter : Expr) (Γ : Ctx) (m : Option (List α)) (E : α → SP) : Prop :=
  ∀ σ W F, Sta Γ σ W F → ∀ xs, m = some xs → ∀ R : It → Hp → Prop, (∀ J W', Ext W W' → ItOk J (fun W1 => Ext W' W1) xs E → R J W'.H) → tiOf S tg iter σ W.H R
section
variable {S : Stc} {Γ Δ : Ctx} {a b c e tg iter elt : Expr} {es ifs : List Expr} {pos : Pos}
theorem jic_of {m : Option (List α)} {E : α → SP} (h : JI S tg iter Γ m E) : JIc S tg iter Γ m E := fun σ W F st xs hx R k => h σ W F st xs hx R fun J W' e ok => k J W' e fun W1 e1 => ok W1 ⟨e1.ok, e1.b⟩
theorem ok_list {K : PySem.W.Frag} {C : Wd → Prop} {p : Addr} {xs : List α} {E : α → SP} (h : ∀ W1, C W1 → Ex W1.B W1.H ∧ ∃ vs, W1.H p = some (.lst vs) ∧ Each E W1.B vs xs) : ItOk (Itl K p) C xs E := fun W1 c => by
  obtain ⟨ok, vs, h1, h2⟩ := h W1 c
  have hq : SqL K W1.H p vs := .inl (.inl h1)
  refine ⟨fun i x hx => ?_, fun i hi => ⟨vs, hq, by rw [h2.len]; exact hi⟩⟩
  obtain ⟨v, hv, pv⟩ := h2.get hx
  refine ⟨⟨vs, v, hq, hv⟩, fun u H' ⟨e1, e2⟩ => ⟨W1, e1.symm, Ext.refl ok, ?_⟩⟩
  have q := e2 vs hq
  rw [hv] at q
  cases q
  exact pv
theorem ok_tup {K : PySem.W.Frag} {C : Wd → Prop} {p : Addr} {xs : List α} {E : α → SP} (h : ∀ W1, C W1 → Ex W1.B W1.H ∧ ∃ vs, W1.H p = some (.tup vs) ∧ Each E W1.B vs xs) : ItOk (Itt K p) C xs E := fun W1 c => by
  obtain ⟨ok, vs, h1, h2⟩ := h W1 c
  have hq : SqT K W1.H p vs := .inl (.inl h1)
  refine ⟨fun i x hx => ?_, fun i hi => ⟨vs, hq, by rw [h2.len]; exact hi⟩⟩
  obtain ⟨v, hv, pv⟩ := h2.get hx
  refine ⟨⟨vs, v, hq, hv⟩, fun u H' ⟨e1, e2⟩ => ⟨W1, e1.symm, Ext.refl ok, ?_⟩⟩
  have q := e2 vs hq
  rw [hv] at q
  cases q
  exact pv
theorem ji_lst {m : Option (List α)} {E : α → SP} (h : JN S iter Γ m fun xs => sh (lstS E xs)) : JI S tg iter Γ m E := fun σ W F st xs hx R k => by
  refine ⟨iList S.K (tOf S iter), fun X hX => hX.K ▸ pi_list (peO hX), h σ W F st xs hx _ fun v W' Fv ext _ _ r => ?_⟩
  obtain ⟨_, a, vs, rfl, h2, h3⟩ := r
  refine ⟨a, rfl, ⟨vs, .inl (.inl (ext.ok a _ h2))⟩, k _ W' ext (ok_list fun W1 c => ⟨c.1, vs, c.1 a _ (c.2 a _ h2), h3.mono c.2⟩)⟩
theorem ji_tup {m : Option (List α)} {E : α → SP} (h : JN S iter Γ m fun xs => sh (tupS E xs)) : JI S tg iter Γ m E := fun σ W F st xs hx R k => by
  refine ⟨iTup S.K (tOf S iter), fun X hX => hX.K ▸ pi_tup (peO hX), h σ W F st xs hx _ fun v W' Fv ext _ _ r => ?_⟩
  obtain ⟨_, a, vs, rfl, h2, h3⟩ := r
  refine ⟨a, rfl, ⟨vs, .inl (.inl (ext.ok a _ h2))⟩, k _ W' ext (ok_tup fun W1 c => ⟨c.1, vs, c.1 a _ (c.2 a _ h2), h3.mono c.2⟩)⟩
theorem ji_scr {m : Option (List Int)} (h : JN S iter Γ m fun xs => sh (scrS S.K xs)) : JI S tg iter Γ m intS := fun σ W F st xs hx R k => by
  refine ⟨iList S.K (tOf S iter), fun X hX => hX.K ▸ pi_list (peO hX), h σ W F st xs hx _ fun v W' Fv ext _ _ r => ?_⟩
  obtain ⟨_, a, rfl, h2⟩ := r
  have mv : ∀ {B : Hp} {W1 : Wd}, SqL S.K B a (xs.map V.int) → Ex B W1.H → SqL S.K W1.H a (xs.map V.int) := fun {B W1} h e => by
    rcases h with (h | ⟨o, h⟩) | h
    · exact .inl (.inl (e _ _ h))
    · exact .inl (.inr ⟨o, e _ _ h⟩)
    · exact .inr h
  refine ⟨a, rfl, ⟨_, mv (W1 := W') h2 ext.ok⟩, k _ W' ext fun W1 c => ?_⟩
  have hq := mv (W1 := W1) h2 (c.2.trans c.1)
  refine ⟨fun i x hx => ?_, fun i hi => ⟨_, hq, by rw [List.length_map]; exact hi⟩⟩
  have hv : (xs.map V.int)[i]? = some (.int x) := by rw [List.getElem?_map, hx]; rfl
  refine ⟨⟨_, _, hq, hv⟩, fun u H' ⟨e1, e2⟩ => ⟨W1, e1.symm, Ext.refl c.1, ?_⟩⟩
  have q := e2 _ hq
  rw [hv] at q
  cases q
  rfl
/-- over a list of one's own, as it stands -/
theorem jic_own {m : Option (List α)} {E : α → SP} (h : JR S iter Γ m fun xs => lstO (fun x => sh (E x)) xs) : JIc S tg iter Γ m E := fun σ W F st xs hx R k => by
  refine ⟨iList S.K (tOf S iter), fun X hX => hX.K ▸ pi_list (peO hX), h σ W F st xs hx _ fun v W' ext ⟨F1, r, _⟩ => ?_⟩
  obtain ⟨a, vs, F2, rfl, h2, _, h4⟩ := r
  obtain ⟨_, h5⟩ := h4.each
  exact ⟨a, rfl, ⟨vs, .inl (.inl h2)⟩, k _ W' ext (ok_list fun W1 c => ⟨c.ok, vs, c.h a _ h2, h5.mono c.b⟩)⟩
/-- range -/
def rng (lo hi : Int) : Option (List Int) := if hi - lo ≤ LIM ∧ -LIM ≤ lo ∧ lo ≤ LIM ∧ -LIM ≤ hi ∧ hi ≤ LIM then some ((List.range (hi - lo).toNat).map fun i : Nat => lo + (i : Int)) else none
theorem ok_rng {lo : Int} {n : Nat} {C : Wd → Prop} (hC : ∀ W1, C W1 → Ex W1.B W1.H) : ItOk (Itr lo n) C ((List.range n).map fun i : Nat => lo + (i : Int)) intS := fun W1 c => by
  refine ⟨fun i x hx => ?_, fun i hi => by
    show n ≤ i
    simpa using hi⟩
  have hi : i < n := by
    have := (List.getElem?_eq_some_iff.mp hx).1
    simpa using this
  have e : lo + (i : Int) = x := by
    rw [List.getElem?_map, List.getElem?_range hi] at hx
    exact Option.some.inj hx
  exact ⟨hi, fun v H' ⟨e1, e2⟩ => ⟨W1, e1.symm, Ext.refl (hC W1 c), by rw [e2, e]; rfl⟩⟩
theorem ji_rng1 {p : Pos} {m : Option Int} (hm : S.mg "range" = none) (h : JN S a Γ m fun x => sh (intS x)) (hg : GlS S "range" := by rfl) (hs : ∀ env, starEach [a] env = [(false, eval a env)] := by intro _; rfl) :
    JI S tg (.Call (.Name "range" p) [a] [] pos) Γ (m.bind fun n => rng 0 n) intS := fun σ W F st xs hx R k => by
  obtain ⟨n, h1, h2⟩ := run1 hx
  unfold rng at h2
  split at h2
  · rename_i hb
    cases h2
    refine ⟨iRng1 (tCons (tOf S a) tNil), fun X hX => pi_range1 (hg.gl hX) (mgS hm hX) (pa_cons (peO hX) pa_nil (hs _)) (hs _), h σ W F st n h1 _ fun v W' Fv ext _ _ r => ?_⟩
    obtain ⟨_, rfl⟩ := r
    have z : (LIM : Int) = 1000000 := rfl
    refine ⟨n, rfl, by omega, by omega, ?_⟩
    have e : (n - 0).toNat = n.toNat := by rw [Int.sub_zero]
    rw [← e]
    exact k _ W' ext (ok_rng fun W1 c => c.1)
  · cases h2
theorem ji_rng2 {p : Pos} {m m' : Option Int} (hm : S.mg "range" = none) (h : JN S a Γ m fun x => sh (intS x)) (h' : JN S b Γ m' fun x => sh (intS x)) (hg : GlS S "range" := by rfl) (hs : ∀ env, starEach [a, b] env = [(false, eval a env), (false, eval b env)] := by intro _; rfl)
    (hs2 : ∀ env, starEach [b] env = [(false, eval b env)] := by intro _; rfl) : JI S tg (.Call (.Name "range" p) [a, b] [] pos) Γ (m.bind fun lo => m'.bind fun hi => rng lo hi) intS := fun σ W F st xs hx R k => by
  obtain ⟨lo, hi, h1, h1', h2⟩ := run2 hx
  unfold rng at h2
  split at h2
  · rename_i hb
    cases h2
    refine ⟨iRng2 (tCons (tOf S a) (tCons (tOf S b) tNil)), fun X hX => pi_range2 (hg.gl hX) (mgS hm hX) (pa_cons (peO hX) (pa_cons (peO hX) pa_nil (hs2 _)) ((hs _).trans (by rw [hs2]))) (hs _) (hs2 _), h σ W F st lo h1 _ fun v W1 Fv ext _ _ r => ?_⟩
    obtain ⟨_, rfl⟩ := r
    refine h' σ W1 F (st.ext ext) hi h1' _ fun v W2 Fv ext2 _ _ r => ?_
    obtain ⟨_, rfl⟩ := r
    have z : (LIM : Int) = 1000000 := rfl
    exact ⟨lo, hi, rfl, by omega, k _ W2 (ext.trans ext2) (ok_rng fun W1 c => c.1)⟩
  · cases h2
/-! ### targets -/
def tgOf (S : Stc) (tg : Expr) : TG := fun v σ H Q => ∃ g : TG, (∀ X, S.In X → PG X tg g) ∧ g v σ H Q
theorem pgO {S : Stc} {X : Cx} {tg : Expr} (h : S.In X) : PG X tg (tgOf S tg) := ⟨fun pins s σ H v u Q I r ⟨_, p, q⟩ => (p X h).run pins s σ H v u Q I r q⟩
/-- a target that stores into the slots ws -/
def JG (S : Stc) (tg : Expr) (E : α → SP) (up : α → Ctx → Ctx) (ws : List Nat) : Prop :=
  ∀ Γ σ W F x v, Sta Γ σ W F → (∀ i ∈ ws, i < Γ.length) → (E x).P W.B v → ∀ Q : L2.St → Hp → Prop, (∀ σ' F', (∀ vs : List Nat, (∀ i ∈ ws, i ∈ vs) → wipe σ' vs = wipe σ vs) → Keep S.prot σ σ' → Sta (up x Γ) σ' W F' → (∀ a ∈ F', a ∈ F) → Q σ' W.H) → tgOf S tg v σ W.H Q
theorem wipe_set {i : Nat} {x : Option V} : ∀ {vs : List Nat} {σ : L2.St}, i ∈ vs → wipe (σ.set i x) vs = wipe σ vs
  | [], _, h => by simp at h
  | v :: vs, σ, h => by
    show (wipe (σ.set i x) vs).set v none = (wipe σ vs).set v none
    by_cases hi : i ∈ vs
    · rw [wipe_set hi]
    · have e : i = v := by simpa [hi] using h
      subst e
      have go : ∀ (ws : List Nat) (σ : L2.St), i ∉ ws → wipe (σ.set i x) ws = (wipe σ ws).set i x := by
        intro ws
        induction ws with
        | nil => intro σ _; rfl
        | cons w ws ih =>
          intro σ hn
          have h1 : w ≠ i := fun z => hn (z ▸ List.mem_cons_self)
          show (wipe (σ.set i x) ws).set w none = ((wipe σ ws).set w none).set i x
          rw [ih σ fun z => hn (List.mem_cons_of_mem _ z), List.set_comm _ _ h1.symm]
      rw [go vs σ hi, List.set_set]
theorem set_keeps {Γ : Ctx} {σ : L2.St} {W : Wd} {F : List Addr} {i : Nat} {p : SP} {v : V} (st : Sta Γ σ W F) (hi : i < Γ.length) (h : p.P W.B v) : ∃ F', Sta (Γ.set i (some (sh p))) (σ.set i (some v)) W F' ∧ ∀ a ∈ F', a ∈ F := by
  obtain ⟨F', s', sub⟩ := st.put (o := sh p) (F1 := []) hi ⟨rfl, h⟩ (by rw [List.append_nil]; exact st.fp)
  exact ⟨F', s', fun a ha => by simpa using sub a ha⟩
theorem jg_name {E : α → SP} {x : Str} {pos : Pos} (i : Nat) (nd : S.N.Nodup) (hN : S.N[i]? = some x := by rfl) (hx : Loc S.sc x := by first | exact Or.inl rfl | exact Or.inr rfl) (hp : (S.prot.contains i) = false := by rfl)
    (hf : S.fn x = true ∨ S.sc.names.lookup x = some .local := by first | exact .inl rfl | exact .inr rfl) : JG S (.Name x pos) E (fun a Γ => Γ.set i (some (sh (E a)))) [i] := fun Γ σ W F y v st hl h Q k => by
  refine ⟨gName i, fun X hX => pg_name (by rw [hX.N]; exact nd) (by rw [hX.N]; exact hN) (locS hx hX) (by rw [hX.fn, hX.sc]; exact hf), ?_⟩
  obtain ⟨F', s', sub⟩ := set_keeps st (hl i (by simp)) h
  exact k _ F' (fun vs hv => wipe_set (hv i (by simp))) (Keep.set (ncon hp)) s' sub
/-- a name that is not read any more -/
theorem jg_pair {E : α → SP} {G : β → SP} {x y : Str} {pos p1 p2 : Pos} {k : Nat} (i j : Nat) (nd : S.N.Nodup) (hN : S.N[i]? = some x := by rfl) (hM : S.N[j]? = some y := by rfl) (hx : Loc S.sc x := by first | exact Or.inl rfl | exact Or.inr rfl) (hy : Loc S.sc y := by first | exact Or.inl rfl | exact Or.inr rfl)
    (hp : (S.prot.contains i) = false := by rfl) (hq : (S.prot.contains j) = false := by rfl) (hf : S.fn x = true ∨ S.sc.names.lookup x = some .local := by first | exact .inl rfl | exact .inr rfl) (hf2 : S.fn y = true ∨ S.sc.names.lookup y = some .local := by first | exact .inl rfl | exact .inr rfl)
    (hs : ∀ env, (assignEach [Expr.Name x p1, .Name y p2] env).map (·.2) = assign (.Name x p1) env :: (assignEach [Expr.Name y p2] env).map (·.2) := by intro _; rfl) (hs2 : ∀ env, (assignEach [Expr.Name y p2] env).map (·.2) = assign (.Name y p2) env :: (assignEach [] env).map (·.2) := by intro _; rfl)
    (hn : ∀ env, (assignEach [Expr.Name x p1, .Name y p2] env).length = 2 := by intro _; rfl) (hst : ∀ env, (assignEach [Expr.Name x p1, .Name y p2] env).findIdx? (·.1) = none := by intro _; rfl) (hcm : S.calm = true := by rfl) :
    JG S (.Tuple [.Name x p1, .Name y p2] k pos) (prS E G) (fun a Γ => (Γ.set i (some (sh (E a.1)))).set j (some (sh (G a.2)))) [i, j] := fun Γ σ W F q v st hl h Q kk => by
  refine ⟨gTup S.K 2 (gCons (gName i) (gCons (gName j) gNil)), fun X hX => hX.K ▸ pg_tup (hX.calm.trans hcm) (pgs_cons (pg_name (by rw [hX.N]; exact nd) (by rw [hX.N]; exact hN) (locS hx hX) (by rw [hX.fn, hX.sc]; exact hf)) (pgs_cons (pg_name (by rw [hX.N]; exact nd) (by rw [hX.N]; exact hM) (locS hy hX) (by rw [hX.fn, hX.sc]; exact hf2)) pgs_nil (hs2 _)) (hs _)) (hn _) (hst _), ?_⟩
  obtain ⟨a, vs, rfl, h2, h3⟩ := h
  match vs, h3 with
  | [u, w], ⟨p1, p2, _⟩ =>
    refine ⟨a, [u, w], rfl, .inl (.inl (st.ok a _ h2)), rfl, u, [w], rfl, w, [], rfl, rfl, ?_⟩
    obtain ⟨F1, s1, sub1⟩ := set_keeps st (hl i (by simp)) p1
    obtain ⟨F2, s2, sub2⟩ := set_keeps s1 (by rw [List.length_set]; exact hl j (by simp)) p2
    refine kk _ F2 (fun vs hv => ?_) ((Keep.set (ncon hp)).trans (Keep.set (ncon hq))) s2 fun b hb => sub1 b (sub2 b hb)
    rw [wipe_set (hv j (by simp)), wipe_set (hv i (by simp))]
/-! ### comprehensions -/
/-- the items that pass, turned -/
def compGo (t : α → Option Bool) (f : α → Option β) : List α → Option (List β)
  | [] => some []
  | x :: xs => (t x).bind fun b => bif b then (f x).bind fun y => (compGo t f xs).bind fun ys => some (y :: ys) else compGo t f xs
def compM (t : α → Option Bool) (f : α → Option β) (xs : List α) : Option (List β) := if xs.length ≤ LIM then compGo t f xs else none
def mapGo (f : α → Option β) : List α → Option (List β)
  | [] => some []
  | x :: xs => (f x).bind fun y => (mapGo f xs).bind fun ys => some (y :: ys)
def mapM (f : α → Option β) (xs : List α) : Option (List β) := if xs.length ≤ LIM then mapGo f xs else none
theorem compGo_yes (f : α → Option β) : ∀ xs : List α, compGo (fun _ => some true) f xs = mapGo f xs
  | [] => rfl
  | x :: xs => by
    show (f x).bind _ = (f x).bind _
    rw [compGo_yes f xs]
def ttsOf (S : Stc) (ifs : List Expr) : TT := fun σ H Q => ∃ t : TT, (∀ X, S.In X → PTs X ifs t) ∧ t σ H Q
theorem ptsO {S : Stc} {X : Cx} {ifs : List Expr} (h : S.In X) : PTs X ifs (ttsOf S ifs) := ⟨fun pins s σ H Q I ⟨_, p, q⟩ => (p X h).run pins s σ H Q I q⟩
def JTs (S : Stc) (ifs : List Expr) (Γ : Ctx) (m : Option Bool) : Prop :=
  ∀ σ W F, Sta Γ σ W F → ∀ b, m = some b → ∀ Q : Bool → Hp → Prop, (∀ W', Ext W W' → Q b W'.H) → ttsOf S ifs σ W.H Q
theorem jts_nil : JTs S [] Γ (some true) := fun σ W F st b hb Q k => by
  cases hb
  exact ⟨tYes, fun _ _ => pts_nil, k W (Ext.refl st.ok)⟩
theorem jts_one {m : Option Bool} (h : JT S c Γ m) : JTs S [c] Γ m := fun σ W F st b hb Q k => ⟨ttOf S c, fun X hX => pts_one (ptO hX), h σ W F st b hb Q k⟩
/-- the block's own slots forgotten -/
def wipeC (Γ : Ctx) : List Nat → Ctx
  | [] => Γ
  | v :: vs => (wipeC Γ vs).set v none
theorem wipeC_len (Γ : Ctx) : ∀ vs, (wipeC Γ vs).length = Γ.length
  | [] => rfl
  | v :: vs => by
    show ((wipeC Γ vs).set v none).length = _
    rw [List.length_set, wipeC_len Γ vs]
theorem Holds.wipe1 {W : Wd} : ∀ {Γ : Ctx} {σ : L2.St} {F : List Addr} (i : Nat), Holds Γ σ W F → ∃ F' G, Holds (Γ.set i none) (σ.set i none) W F' ∧ F.Perm (F' ++ G)
  | [], σ, F, i, h => ⟨[], F, rfl, .refl _⟩
  | none :: Γ, σ, F, 0, h => ⟨F, [], by
      show Holds Γ (σ.set 0 none).tail W F
      cases σ <;> exact h, by rw [List.append_nil]⟩
  | some o :: Γ, σ, F, 0, ⟨v, F1, F2, h1, h2, h3, h4⟩ => ⟨F2, F1, by
      show Holds Γ (σ.set 0 none).tail W F2
      cases σ <;> exact h4, by subst h2; exact List.perm_append_comm⟩
  | none :: Γ, σ, F, i + 1, h => by
    cases σ with
    | nil =>
      obtain ⟨F', G, a1, a2⟩ := Holds.wipe1 (Γ := Γ) (σ := []) i h
      exact ⟨F', G, a1, a2⟩
    | cons s σ =>
      obtain ⟨F', G, a1, a2⟩ := Holds.wipe1 (Γ := Γ) (σ := σ) i h
      exact ⟨F', G, a1, a2⟩
  | some o :: Γ, σ, F, i + 1, ⟨v, F1, F2, h1, h2, h3, h4⟩ => by
    cases σ with
    | nil => simp at h1
    | cons s σ =>
      obtain ⟨F', G, a1, a2⟩ := Holds.wipe1 (Γ := Γ) (σ := σ) i h4
      subst h2
      refine ⟨F1 ++ F', G, ⟨v, F1, F', h1, rfl, h3, a1⟩, ?_⟩
      rw [List.append_assoc]
      exact List.Perm.append_left F1 a2
theorem Sta.wipe {Γ : Ctx} {σ : L2.St} {W : Wd} {F : List Addr} (st : Sta Γ σ W F) : ∀ vs : List Nat, ∃ F', Sta (wipeC Γ vs) (L2.wipe σ vs) W F' ∧ ∀ a ∈ F', a ∈ F
  | [] => ⟨F, st, fun _ h => h⟩
  | v :: vs => by
    obtain ⟨F1, s1, sub1⟩ := st.wipe vs
    obtain ⟨F', G, a1, a2⟩ := s1.hold.wipe1 v
    exact ⟨F', ⟨st.ok, (s1.fp.perm a2).left, by
      show ((L2.wipe σ vs).set v none).length = ((wipeC Γ vs).set v none).length
      rw [List.length_set, List.length_set]; exact s1.len, a1⟩, fun a h => sub1 a (a2.mem_iff.mpr (List.mem_append_left _ h))⟩
/-- a comprehension's parts, and its reading -/
def JC (S : Stc) (elt tg iter : Expr) (ifs : List Expr) (scope : Scope) (Γ : Ctx) (m : Option α) (R : α → OP) : Prop :=
  ∃ own : List (Str × Nat), BlkOk S.N S.sc scope own ∧ ∀ σ W F, Sta Γ σ W F → ∀ x, m = some x → ∀ Q : VK, Got (R x) W Q → tLc (tiOf S tg iter) (tgOf (S.blk scope) tg) (ttsOf (S.blk scope) ifs) (tOf (S.blk scope) elt) (own.map (·.2)) σ W.H Q
theorem jn_lc {scope : Scope} {m : Option α} {R : α → OP} (nd : S.N.Nodup) (h : JC S elt tg iter ifs scope Γ m R) (hs : ∀ env x, foldedSetIterable iter env x = pure x := by intro _ _; rfl) (hcm : S.calm = true := by rfl) : JN S (.ListComp elt [⟨tg, iter, ifs, 0⟩] scope pos) Γ m R := fun σ W F st x hx Q k => by
  obtain ⟨own, ok, go⟩ := h
  exact ⟨_, fun X hX => pe_lc (hX.calm.trans hcm) (by rw [hX.N]; exact nd) (piO hX) (by rw [hX.N, hX.sc]; exact ok) (fun s H C cl fp => pgO (hX.blk scope s H C cl fp)) (fun s H C cl fp => ptsO (hX.blk scope s H C cl fp)) (fun s H C cl fp => peO (hX.blk scope s H C cl fp)) (hs _), go σ W F st x hx Q k⟩
theorem compGo_len {t : α → Option Bool} {f : α → Option β} : ∀ {xs : List α} {ys : List β}, compGo t f xs = some ys → ys.length ≤ xs.length
  | [], ys, h => by cases h; exact Nat.le_refl _
  | x :: xs, ys, h => by
    obtain ⟨b, h1, h2⟩ := run1 (f := fun b => bif b then (f x).bind fun y => (compGo t f xs).bind fun ys => some (y :: ys) else compGo t f xs) h
    cases b with
    | true =>
      obtain ⟨y, ys', h3, h4, h5⟩ := run2 (f := fun y ys => some (y :: ys)) h2
      cases h5
      exact Nat.succ_le_succ (compGo_len h4)
    | false => exact Nat.le_succ_of_le (compGo_len (xs := xs) h2)
/-- the block's turns, over a walk -/
theorem jc_of {scope : Scope} {mi : Option (List α)} {E : α → SP} {up : α → Ctx → Ctx} {ws : List Nat} {mt : α → Option Bool} {me : α → Option β} {R : β → OP} (own : List (Str × Nat)) (hi : JIc S tg iter Γ mi E) (ok : blkC S.N S.sc scope own = true) (hg : JG (S.blk scope) tg E up ws)
    (hw : ∀ i ∈ ws, i ∈ own.map (·.2)) (hl : ∀ i ∈ ws, i < Γ.length) (ht : ∀ x, JTs (S.blk scope) ifs (up x (wipeC Γ (own.map (·.2)))) (mt x)) (he : ∀ x, JN (S.blk scope) elt (up x (wipeC Γ (own.map (·.2)))) (me x) R) :
    JC S elt tg iter ifs scope Γ (mi.bind fun xs => compM mt me xs) fun ys => lstO R ys := by
  refine ⟨own, blkOk_by ok, fun σ W F st ys hx Q k => ?_⟩
  obtain ⟨xs, h1, h2⟩ := run1 hx
  unfold compM at h2
  split at h2
  · rename_i hlen
    refine hi σ W F st xs h1 _ fun J W' ext iok => fun D hD => ?_
    have st' := st.ext ext
    -- the invariant: what is made so far, what is left
    refine ⟨fun i m H => m = xs.length - i ∧ i ≤ xs.length ∧ ∃ (W1 : Wd) (acc : List V) (as : List β) (bs : List β) (Fa : List Addr), W1.H = H ∧ Ext W' W1 ∧ W1.H D = some (.lst acc) ∧ W1.B D = none ∧ as.length ≤ i ∧
      compGo mt me (xs.drop i) = some bs ∧ as ++ bs = ys ∧ Owns R W1 acc as Fa ∧ FpOk W1 Fa ∧ D ∉ Fa ∧ ∀ a ∈ Fa, W'.H a = none, ⟨xs.length, by simp, Nat.zero_le _, ⟨upd W'.H D (.lst []), W'.B⟩, [], [], ys, [], rfl, Ext.new ext.ok hD, upd_same, ext.ok.back hD, Nat.le_refl _, by simpa using h2, rfl, rfl, FpOk.nil, by simp, by simp⟩, ?_⟩
    rintro i m H ⟨rfl, hi', W1, acc, as, bs, Fa, rfl, e1, d1, d2, la, c1, c2, o1, o2, o3, o4⟩
    obtain ⟨iok1, iok2⟩ := iok W1 e1
    by_cases hlt : i < xs.length
    · obtain ⟨g1, g2⟩ := iok1 i xs[i] (List.getElem?_eq_getElem hlt)
      refine .inr ⟨g1, fun H' => ∃ m', m' < xs.length - i ∧ (m' = xs.length - (i + 1) ∧ i + 1 ≤ xs.length ∧ ∃ (W1 : Wd) (acc : List V) (as : List β) (bs : List β) (Fa : List Addr), W1.H = H' ∧ Ext W' W1 ∧ W1.H D = some (.lst acc) ∧ W1.B D = none ∧ as.length ≤ i + 1 ∧
        compGo mt me (xs.drop (i + 1)) = some bs ∧ as ++ bs = ys ∧ Owns R W1 acc as Fa ∧ FpOk W1 Fa ∧ D ∉ Fa ∧ ∀ a ∈ Fa, W'.H a = none), fun H' h => h, fun v H' y => ?_⟩
      obtain ⟨W2, rfl, e2, p2⟩ := g2 v H' y
      have hDrop : xs.drop i = xs[i] :: xs.drop (i + 1) := List.drop_eq_getElem_cons hlt
      rw [hDrop] at c1
      obtain ⟨b, t1, t2⟩ := run1 (f := fun b => bif b then (me xs[i]).bind fun y => (compGo mt me (xs.drop (i + 1))).bind fun ys => some (y :: ys) else compGo mt me (xs.drop (i + 1))) c1
      obtain ⟨Fw, sw, subw⟩ := (st'.ext (e1.trans e2)).wipe (own.map (·.2))
      refine hg _ _ W2 Fw xs[i] v sw (fun j hj => by rw [wipeC_len]; exact hl j hj) p2 _ fun σ2 F2 wp _ s2 sub2 => ⟨?_, ?_⟩
      · rw [wp _ hw]
        exact wipe_wipe σ (own.map (·.2))
      refine ht xs[i] σ2 W2 F2 s2 b t1 _ fun W3 e3 => ?_
      have eAll : Ext W1 W3 := e2.trans e3
      cases b with
      | true =>
        obtain ⟨y1, ys1, t3, t4, t5⟩ := run2 (f := fun y ys => some (y :: ys)) t2
        cases t5
        refine iteT (he xs[i] σ2 W3 F2 (s2.ext e3) y1 t3 _ fun u W4 Fu e4 fr4 fp4 r4 => ?_)
        have eA : Ext W1 W4 := eAll.trans e4
        have hD4 : W4.H D = some (.lst acc) := eA.h D _ d1
        have hB4 : W4.B D = none := eA.fr D (by rw [d1]; exact fun z => nomatch z) d2
        have ha4 : acc.length < LIM := by
          have := o1.len
          omega
        refine ⟨acc, hD4, lim_lt ha4, xs.length - (i + 1), by omega, rfl, hlt, ⟨upd W4.H D (.lst (acc ++ [u])), W4.B⟩, acc ++ [u], as ++ [y1], ys1, Fa ++ Fu, rfl, ?_, upd_same, hB4, ?_, t4, by rw [List.append_assoc]; exact c2, ?_, ?_, ?_, ?_⟩
        · have q := e1.trans eA
          refine ⟨fun a o h => ?_, fun a o h => ?_, q.b, q.fr⟩
          · have z : a ≠ D := fun z => by
              rw [z] at h
              rw [show W4.B D = some o from h] at hB4
              cases hB4
            show upd W4.H D _ a = some o
            rw [upd_ne z]
            exact q.ok a o h
          · show upd W4.H D _ a = some o
            rw [upd_ne (ne_of_none h hD)]
            exact q.h a o h
        · rw [List.length_append, List.length_singleton]
          omega
        · have nD : ∀ a ∈ Fa ++ Fu, a ≠ D := fun a ha z => by
            rcases List.mem_append.mp ha with h | h
            · exact o3 (z ▸ h)
            · have q := e3.h.back (fr4 a h)
              rw [z] at q
              have q2 := e2.h.back q
              rw [d1] at q2
              cases q2
          have A1 : Owns R W4 acc as Fa := o1.loc eA.b fun a ha => eA.h.eq (o2.al a ha)
          have A2 : Owns R W4 [u] [y1] Fu := ⟨Fu, [], (List.append_nil _).symm, r4, rfl⟩
          have A3 : Owns R W4 (acc ++ [u]) (as ++ [y1]) (Fa ++ Fu) := A1.app A2
          refine Owns.loc (W := W4) (W' := ⟨upd W4.H D (.lst (acc ++ [u])), W4.B⟩) (fun _ _ h => h) A3 fun a ha => ?_
          show upd W4.H D (.lst (acc ++ [u])) a = W4.H a
          exact upd_ne (nD a ha)
        · have fpA : FpOk W4 (Fa ++ Fu) := (o2.ext eAll).fresh e4 fp4 fr4
          refine ⟨fpA.nd, fun a ha => ?_, fpA.fr⟩
          show upd W4.H D _ a ≠ none
          by_cases z : a = D
          · rw [z, upd_same]
            exact fun z => nomatch z
          · rw [upd_ne z]
            exact fpA.al a ha
        · intro h
          rcases List.mem_append.mp h with h | h
          · exact o3 h
          · have q := e3.h.back (fr4 D h)
            have q2 := e2.h.back q
            rw [d1] at q2
            cases q2
        · intro a ha
          rcases List.mem_append.mp ha with h | h
          · exact o4 a h
          · exact (e1.trans eAll).h.back (fr4 a h)
      | false =>
        refine iteF ⟨xs.length - (i + 1), by omega, rfl, hlt, W3, acc, as, bs, Fa, rfl, e1.trans eAll, eAll.h D _ d1, eAll.fr D (by rw [d1]; exact fun z => nomatch z) d2, by omega, t2, c2, o1.loc eAll.b fun a ha => eAll.h.eq (o2.al a ha), o2.ext eAll, o3, o4⟩
    · have ei : i = xs.length := by omega
      subst ei
      rw [List.drop_length] at c1
      cases c1
      rw [List.append_nil] at c2
      subst c2
      refine .inl ⟨iok2 _ (Nat.le_refl _), k (.ref D) W1 (D :: Fa) (ext.trans e1) (fun a ha => ?_) ?_ ⟨D, acc, Fa, rfl, d1, rfl, o1⟩⟩
      · rcases List.mem_cons.mp ha with z | z
        · rw [z]; exact ext.h.back hD
        · exact ext.h.back (o4 a z)
      · refine ⟨List.nodup_cons.mpr ⟨o3, o2.nd⟩, fun a ha => ?_, fun a ha => ?_⟩
        · rcases List.mem_cons.mp ha with z | z
          · rw [z, d1]; exact fun z => nomatch z
          · exact o2.al a z
        · rcases List.mem_cons.mp ha with z | z
          · rw [z]; exact d2
          · exact o2.fr a z
  · cases h2
where
  wipe_wipe (σ : L2.St) : ∀ vs : List Nat, L2.wipe (L2.wipe σ vs) vs = L2.wipe σ vs := by
    intro vs
    have go : ∀ (us : List Nat), (∀ i ∈ us, i ∈ vs) → L2.wipe (L2.wipe σ us) vs = L2.wipe σ vs := by
      intro us
      induction us with
      | nil => intro _; rfl
      | cons u us ih =>
        intro h
        show L2.wipe ((L2.wipe σ us).set u none) vs = _
        rw [wipe_set (h u List.mem_cons_self)]
        exact ih fun i hi => h i (List.mem_cons_of_mem _ hi)
    exact go vs fun _ h => h
end
end CC
set_option maxHeartbeats 4000000
/-! Statements, loops, defs. -/
namespace CC
open PySem PySem.Spec L2
open PyProof.Rows hiding St
variable {α β γ δ τ ω ρ υ : Type}
/-! ### a def's promise -/
def spP (G : α → List SP) (fM : α → Option ρ) (R : ρ → OP) : Sp := fun vs H Q _ => ∃ x W r, W.H = H ∧ Ex W.B W.H ∧ Hets W.B vs (G x) ∧ fM x = some r ∧ Got (R r) W Q
/-- the first argument is owned, and changed -/
def spS (O : τ → OP) (G : α → List SP) (fM : α → τ → Option (ρ × τ)) (R : ρ → OP) : Sp := fun vs H Q _ => ∃ x s W F v0 vr r, vs = v0 :: vr ∧ W.H = H ∧ Ex W.B W.H ∧ FpOk W F ∧ (O s).C W v0 F ∧ Hets W.B vr (G x) ∧ fM x s = some r ∧
  ∀ v W' F' Fv, Stp W F W' (F' ++ Fv) → FpOk W' (F' ++ Fv) → (O r.2).C W' v0 F' → (R r.1).C W' v Fv → Q v W'.H
section
variable {S : Stc} {Γ Δ : Ctx} {a b c e tg iter elt : Expr} {es ifs : List Expr} {pos : Pos} {st : Stmt} {rest A B : List Stmt}
theorem passE0 {X : Cx} : Passes CX0 X E0 := fun _ _ _ _ _ _ _ h => h.elim
theorem bindsS {S : Stc} {X : Cx} {fd : FuncData} {ps : List Str} {ds : List Value} (h : S.In X) (b : Binds S.K fd ps ds) : Binds X.K fd ps ds := by rw [h.K]; exact b
theorem jn_call {x : Str} {p : Pos} {f : Addr} {fd : FuncData} {ps : List Str} {k : Nat} {G : α → List SP} {fM : α → Option ρ} {R : ρ → OP} {m : Option α} (Fn : FnOk S.P S.w S.K S.mg S.base CX0 k f fd ps (spP G fM R)) (hm : S.mg x = some (.ref f)) (kp : PySem.W.keepIn S.K (.ref f) = true) (hb : Binds S.K fd ps [])
    (hk : k ≤ S.k) (ha : JA S (e :: es) Γ m G) (hg : GlS S x := by rfl) (hdb : (x == ("__debug__" : Str)) = false := by decide) (he : ∀ env, starEach (e :: es) env = (false, eval e env) :: starEach es env := by intro _; rfl) (hpl : ∀ env, (backTo pos (starEach es env)).any (·.1) = false := by intro _; rfl) (hcm : S.calm = true := by rfl) :
    JN S (.Call (.Name x p) (e :: es) [] pos) Γ (m.bind fun y => fM y) R := fun σ W F st z hz Q kk => by
  obtain ⟨y, h1, h2⟩ := run1 hz
  refine ⟨tCall (spP G fM R) [] E0 (taOf S (e :: es)), fun X hX => pe_call (fnokS Fn hX) ((hX.room hcm).mono hk) (hg.gl hX) (mgS hm hX) (by rw [hX.K]; exact kp) (bindsS hX hb) .nil passE0 (paO hX) hdb (he _) (hpl _), ha σ W F st y h1 _ fun vs W' ext hh => ?_⟩
  show spP G fM R (vs ++ []) W'.H Q E0
  rw [List.append_nil]
  exact ⟨y, W', z, rfl, ext.ok, hh, h2, kk.ext ext⟩
/-! ### statements -/
def NoNx : Kd → Prop
  | .nx _ => False
  | _ => True
theorem jb_one {m : Option ω} {D : ω → Kd} (h : JS S st Γ m D) : JB S [st] Γ m D := fun σ W F sta x hx E k => ⟨tsOf S st, fun X hX => pss_one (psO hX), h σ W F sta x hx E k⟩
/-- the end of a block that falls through -/
theorem jb_nil {x : ω} {D : ω → Kd} (hD : D x = .nx Δ) (w : Weak Γ Δ) : JB S [] Γ (some x) D := fun σ W F sta y hy E k => by
  cases hy
  obtain ⟨F', s', sub⟩ := sta.weak w
  rw [hD] at k
  exact ⟨tNext, fun _ _ => pss_nil, k σ W F' Keep.refl ((Stp.refl sta.ok).perm sub) s'⟩
theorem post_nox {wx : WX} {prot : List Nat} {σ : L2.St} {W : Wd} {F : List Addr} {E : Ends} {N : L2.St → Hp → Prop} {k : Kd} (h : Post wx prot σ W F E k) (n : NoNx k) : Post wx prot σ W F { E with nx := N } k := by
  cases k with
  | nx Γ => exact n.elim
  | bk Γ => exact h
  | ct Γ => exact h
  | rt Γ R => exact h
  | xc Γ R => exact h
/-- one statement, then the rest -/
theorem jb_cons {ms : Option α} {Ds : α → Ctx} {mr : α → Option ω} {D : ω → Kd} (h : JS S st Γ ms fun x => .nx (Ds x)) (hr : ∀ x, JB S rest (Ds x) (mr x) D) : JB S (st :: rest) Γ (ms.bind fun x => mr x) D := fun σ W F sta z hz E k => by
  obtain ⟨x, h1, h2⟩ := run1 hz
  refine ⟨tSeq (tsOf S st) (tbOf S rest), fun X hX => pss_cons (psO hX) (pbO hX), ?_⟩
  exact h σ W F sta x h1 { E with nx := tbOf S rest E } fun σ' W' F' kp stp sta' => hr x σ' W' F' sta' z h2 E (k.before kp stp)
/-- an if whose branch never falls through -/
theorem jb_ifx {mc : Option Bool} {ma : Option υ} {mr : Option ω} {D : ω → Kd} {D' : υ → Kd} (ι : υ → ω) (hc : JT S c Γ mc) (ha : JB S A Γ ma D') (hι : ∀ x, D (ι x) = D' x) (hn : ∀ x, NoNx (D' x)) (hr : JB S rest Γ mr D) :
    JB S (.If c A [] pos :: rest) Γ (mc.bind fun b => bif b then ma.bind fun x => some (ι x) else mr) D := fun σ W F sta z hz E k => by
  obtain ⟨x, h1, h2⟩ := run1 hz
  refine ⟨tSeq (tIfS (ttOf S c) (tbOf S A) tNext) (tbOf S rest), fun X hX => pss_cons (ps_if (ptO hX) (pbO hX) pss_nil) (pbO hX), ?_⟩
  refine hc σ W F sta x h1 _ fun W' ext => ?_
  have stp : Stp W F W' F := by have := ext.stp (F := F) (Fv := []) (by simp); rwa [List.append_nil] at this
  cases x with
  | true =>
    obtain ⟨y, h3, h4⟩ := run1 h2
    cases h4
    refine iteT (ha σ W' F (sta.ext ext) y h3 _ ?_)
    rw [hι] at k
    exact post_nox (k.before Keep.refl stp) (hn y)
  | false => exact iteF (hr σ W' F (sta.ext ext) z h2 E (k.before Keep.refl stp))
/-- the same, the outcome being the block's own -/
theorem jb_ifr {mc : Option Bool} {ma mr : Option ω} {D : ω → Kd} (hc : JT S c Γ mc) (ha : JB S A Γ ma D) (hn : ∀ x, NoNx (D x)) (hr : JB S rest Γ mr D) : JB S (.If c A [] pos :: rest) Γ (mc.bind fun b => bif b then ma else mr) D := fun σ W F sta z hz E k => by
  obtain ⟨x, h1, h2⟩ := run1 hz
  refine ⟨tSeq (tIfS (ttOf S c) (tbOf S A) tNext) (tbOf S rest), fun X hX => pss_cons (ps_if (ptO hX) (pbO hX) pss_nil) (pbO hX), ?_⟩
  refine hc σ W F sta x h1 _ fun W' ext => ?_
  have stp : Stp W F W' F := by have := ext.stp (F := F) (Fv := []) (by simp); rwa [List.append_nil] at this
  cases x with
  | true => exact iteT (ha σ W' F (sta.ext ext) z h2 _ (post_nox (k.before Keep.refl stp) (hn z)))
  | false => exact iteF (hr σ W' F (sta.ext ext) z h2 E (k.before Keep.refl stp))
/-- an if that cannot be taken -/
theorem jb_ifF {mr : Option ω} {D : ω → Kd} (hc : JT S c Γ (some false)) (hr : JB S rest Γ mr D) : JB S (.If c A [] pos :: rest) Γ mr D := fun σ W F sta z hz E k => by
  refine ⟨tSeq (tIfS (ttOf S c) tNever tNext) (tbOf S rest), fun X hX => pss_cons (ps_if (ptO hX) pss_never pss_nil) (pbO hX), ?_⟩
  refine hc σ W F sta false rfl _ fun W' ext => ?_
  have stp : Stp W F W' F := by have := ext.stp (F := F) (Fv := []) (by simp); rwa [List.append_nil] at this
  exact iteF (hr σ W' F (sta.ext ext) z hz E (k.before Keep.refl stp))
/-- an if that is taken and does not fall through -/
theorem jb_ifT {ma : Option ω} {D : ω → Kd} (hc : JT S c Γ (some true)) (ha : JB S A Γ ma D) (hn : ∀ x, NoNx (D x)) : JB S (.If c A [] pos :: rest) Γ ma D := fun σ W F sta z hz E k => by
  refine ⟨tSeq (tIfS (ttOf S c) (tbOf S A) tNext) tNever, fun X hX => pss_cons (ps_if (ptO hX) (pbO hX) pss_nil) pss_never, ?_⟩
  refine hc σ W F sta true rfl _ fun W' ext => ?_
  have stp : Stp W F W' F := by have := ext.stp (F := F) (Fv := []) (by simp); rwa [List.append_nil] at this
  exact iteT (ha σ W' F (sta.ext ext) z hz _ (post_nox (k.before Keep.refl stp) (hn z)))
/-- if .. else -/
theorem js_if {mc : Option Bool} {ma mb : Option ω} {D : ω → Kd} (hc : JT S c Γ mc) (ha : JB S A Γ ma D) (hb : JB S B Γ mb D) : JS S (.If c A B pos) Γ (mc.bind fun b => bif b then ma else mb) D := fun σ W F sta z hz E k => by
  obtain ⟨x, h1, h2⟩ := run1 hz
  refine ⟨tIfS (ttOf S c) (tbOf S A) (tbOf S B), fun X hX => ps_if (ptO hX) (pbO hX) (pbO hX), ?_⟩
  refine hc σ W F sta x h1 _ fun W' ext => ?_
  have stp : Stp W F W' F := by have := ext.stp (F := F) (Fv := []) (by simp); rwa [List.append_nil] at this
  cases x with
  | true => exact iteT (ha σ W' F (sta.ext ext) z h2 _ (k.before Keep.refl stp))
  | false => exact iteF (hb σ W' F (sta.ext ext) z h2 _ (k.before Keep.refl stp))
theorem jb_ret {m : Option α} {R : α → OP} (w : Weak Γ Δ) (h : JN S e Γ m R) : JB S (.Return (some e) pos :: rest) Γ m fun r => .rt Δ (R r) := fun σ W F sta x hx E k => by
  refine ⟨tSeq (tRet (tOf S e)) tNever, fun X hX => pss_cons (ps_ret (peO hX)) pss_never, h σ W F sta x hx _ fun v W' Fv ext fr fp r => ?_⟩
  obtain ⟨F', s', sub⟩ := (sta.ext ext).weak w
  have fpA : FpOk W' (F ++ Fv) := sta.fp.fresh ext fp fr
  have fpB : FpOk W' (F' ++ Fv) := s'.fp.app fpA.right fun a ha => fpA.disj a (sub a ha)
  refine k v σ W' F' Fv Keep.refl ((ext.stp fr).perm fun a ha => ?_) s' fpB r
  rcases List.mem_append.mp ha with h | h
  · exact List.mem_append_left _ (sub a h)
  · exact List.mem_append_right _ h
theorem jb_cont {x : ω} {D : ω → Kd} (hD : D x = .ct Δ) (w : Weak Γ Δ) : JB S (.Continue pos :: rest) Γ (some x) D := fun σ W F sta y hy E k => by
  cases hy
  obtain ⟨F', s', sub⟩ := sta.weak w
  rw [hD] at k
  exact ⟨tSeq tCont tNever, fun _ _ => pss_cons ps_continue pss_never, k σ W F' Keep.refl ((Stp.refl sta.ok).perm sub) s'⟩
theorem jb_brk {x : ω} {D : ω → Kd} (hD : D x = .bk Δ) (w : Weak Γ Δ) : JB S (.Break pos :: rest) Γ (some x) D := fun σ W F sta y hy E k => by
  cases hy
  obtain ⟨F', s', sub⟩ := sta.weak w
  rw [hD] at k
  exact ⟨tSeq tBreak tNever, fun _ _ => pss_cons ps_break pss_never, k σ W F' Keep.refl ((Stp.refl sta.ok).perm sub) s'⟩
/-- name = e -/
theorem sta_set {σ : L2.St} {W W' : Wd} {F Fv : List Addr} {i : Nat} {o : OP} {v : V} (sta : Sta Γ σ W F) (ext : Ext W W') (fr : ∀ a ∈ Fv, W.H a = none) (fp : FpOk W' Fv) (r : o.C W' v Fv) (hi : (Γ[i]?).isSome = true) :
    ∃ F', Sta (Γ.set i (some o)) (σ.set i (some v)) W' F' ∧ Stp W F W' F' := by
  have hl : i < Γ.length := by
    cases h : Γ[i]? with
    | none => rw [h] at hi; cases hi
    | some o => exact (List.getElem?_eq_some_iff.mp h).1
  obtain ⟨F', s', sub⟩ := (sta.ext ext).put hl r (sta.fp.fresh ext fp fr)
  exact ⟨F', s', (ext.stp fr).perm sub⟩
theorem js_set {x : Str} {pos' : Pos} {m : Option α} {R : α → OP} (i : Nat) (nd : S.N.Nodup) (h : JN S e Γ m R) (hi : (Γ[i]?).isSome = true := by rfl) (hN : S.N[i]? = some x := by rfl) (hx : Loc S.sc x := by first | exact Or.inl rfl | exact Or.inr rfl) (hp : (S.prot.contains i) = false := by rfl)
    (hs : ∀ env, swapsWith e (some (.Name x pos')) pos.line env = pure false := by intro _; rfl) (hf : S.fn x = true ∨ S.sc.names.lookup x = some .local := by first | exact .inl rfl | exact .inr rfl) : JS S (.Assign [.Name x pos'] e pos) Γ m fun a => .nx (Γ.set i (some (R a))) := fun σ W F sta y hy E k => by
  refine ⟨tAsg (tOf S e) (gName i), fun X hX => ps_set (by rw [hX.N]; exact nd) (by rw [hX.N]; exact hN) (locS hx hX) (peO hX) (hs _) (by rw [hX.fn, hX.sc]; exact hf), h σ W F sta y hy _ fun v W' Fv ext fr fp r => ?_⟩
  obtain ⟨F', s', stp⟩ := sta_set sta ext fr fp r hi
  exact k _ W' F' (Keep.set (ncon hp)) stp s'
theorem js_setLc {x : Str} {py spos : Pos} {scope : Scope} {m : Option α} {R : α → OP} (i : Nat) (nd : S.N.Nodup) (h : JC S elt tg iter ifs scope Γ m R) (hi : (Γ[i]?).isSome = true := by rfl) (hN : S.N[i]? = some x := by rfl) (hx : S.sc.names.lookup x = some .local := by rfl) (hp : (S.prot.contains i) = false := by rfl)
    (hk : S.sc.kind = .function := by rfl) (hl : (py.line == pos.line) = true := by rfl) (hown : (scope.names.any fun (n, k) => n == x && (k == .local || k == .cell)) = false := by decide +kernel) (hs : ∀ env x, foldedSetIterable iter env x = pure x := by intro _ _; rfl) (hcm : S.calm = true := by rfl) :
    JS S (.Assign [.Name x py] (.ListComp elt [⟨tg, iter, ifs, 0⟩] scope pos) spos) Γ m fun a => .nx (Γ.set i (some (R a))) := fun σ W F sta y hy E k => by
  obtain ⟨own, ok, go⟩ := h
  refine ⟨_, fun X hX => ps_setLc (hX.calm.trans hcm) (by rw [hX.N]; exact nd) (by rw [hX.N]; exact hN) (by rw [hX.sc]; exact hx) (sw_true (by rw [hX.sc]; exact hk) (by rw [hX.sc]; exact hx) hl hown) (piO hX) (by rw [hX.N, hX.sc]; exact ok) (fun s H C cl fp => pgO (hX.blk scope s H C cl fp)) (fun s H C cl fp => ptsO (hX.blk scope s H C cl fp)) (fun s H C cl fp => peO (hX.blk scope s H C cl fp)) (hs _), go σ W F sta y hy _ fun v W' Fv ext fr fp r => ?_⟩
  obtain ⟨F', s', stp⟩ := sta_set sta ext fr fp r hi
  exact k _ W' F' (Keep.set (ncon hp)) stp s'
/-- target = e, a target of names -/
theorem js_asg {m : Option α} {E : α → SP} {up : α → Ctx → Ctx} {ws : List Nat} (h : JN S e Γ m fun x => sh (E x)) (hg : JG S tg E up ws) (hl : ∀ i ∈ ws, i < Γ.length) (hs : ∀ env, swapsWithSole [tg] e pos.line env = pure false := by intro _; rfl) (hw : ∀ env, swappedStores [tg] e env = pure none := by intro _; rfl)
    (h1 : ∀ env, (assignEach [tg] env).map (·.2) = [assign tg env] := by intro _; rfl) : JS S (.Assign [tg] e pos) Γ m fun a => .nx (up a Γ) := fun σ W F sta y hy Ed k => by
  refine ⟨tAsg (tOf S e) (tgOf S tg), fun X hX => ps_asg (peO hX) (pgO hX) (hs _) (hw _) (h1 _), h σ W F sta y hy _ fun v W' Fv ext fr fp r => ?_⟩
  refine hg Γ σ W' F y v (sta.ext ext) hl r.2 _ fun σ' F' _ kp s' sub => ?_
  have stp : Stp W F W' F := by have := ext.stp (F := F) (Fv := []) (by simp); rwa [List.append_nil] at this
  exact k σ' W' F' kp (stp.perm sub) s'
/-! ### for -/
inductive Out (τ ρ : Type) where
  | nx (s : τ)
  | rt (r : ρ)
  | bk (s : τ)
  | ct (s : τ)
def Out.k (o : Out τ ρ) (f : τ → Option ω) (g : ρ → Option ω) : Option ω := match o with
  | .nx s => f s
  | .ct s => f s
  | .bk s => f s
  | .rt r => g r
/-- behind a turn -/
def Out.step (o : Out τ ρ) (k : τ → Option (Out τ ρ)) : Option (Out τ ρ) := match o with
  | .nx s => k s
  | .ct s => k s
  | .bk s => some (.nx s)
  | .rt r => some (.rt r)
def loopGo (f : α → τ → Option (Out τ ρ)) : List α → τ → Option (Out τ ρ)
  | [], s => some (.nx s)
  | x :: xs, s => (f x s).bind fun o => o.step fun s' => loopGo f xs s'
def foldGo (f : α → τ → Option τ) : List α → τ → Option τ
  | [], s => some s
  | x :: xs, s => (f x s).bind fun s' => foldGo f xs s'
/-- the ends of a loop's body, of the loop -/
def DL (Γl : τ → Ctx) (T : ρ → Kd) : Out τ ρ → Kd
  | .nx s => .nx (Γl s)
  | .ct s => .ct (Γl s)
  | .bk s => .bk (Γl s)
  | .rt r => T r
def DF (Γl : τ → Ctx) (T : ρ → Kd) : Out τ ρ → Kd
  | .nx s => .nx (Γl s)
  | .ct s => .nx (Γl s)
  | .bk s => .nx (Γl s)
  | .rt r => T r
theorem js_for {mi : Option (List α)} {E : α → SP} {up : α → Ctx → Ctx} {ws : List Nat} {Γl : τ → Ctx} {T : ρ → Kd} {f : α → τ → Option (Out τ ρ)} (s0 : τ) (hi : JI S tg iter Γ mi E) (hg : JG S tg E up ws) (w : Weak Γ (Γl s0)) (hl : ∀ s, ∀ i ∈ ws, i < (Γl s).length)
    (hT : ∀ r, NoNx (T r) ∧ (∀ Δ, T r ≠ .bk Δ) ∧ ∀ Δ, T r ≠ .ct Δ) (hb : ∀ x s, JB S A (up x (Γl s)) (f x s) (DL Γl T)) (hs : ∀ env x, foldedSetIterable iter env x = pure x := by intro _ _; rfl) (hcm : S.calm = true := by rfl) : JS S (.For tg iter A [] pos) Γ (mi.bind fun xs => loopGo f xs s0) (DF Γl T) := fun σ W F sta z hz Ed k => by
  obtain ⟨xs, h1, h2⟩ := run1 hz
  refine ⟨tFor (tiOf S tg iter) (tgOf S tg) (tbOf S A), fun X hX => ps_for hX.pass (hX.calm.trans hcm) (piO hX) (pgO hX) (pbO hX) (hs _), ?_⟩
  refine hi σ W F sta xs h1 _ fun J W' ext iok => ?_
  have stp0 : Stp W F W' F := by have := ext.stp (F := F) (Fv := []) (by simp); rwa [List.append_nil] at this
  obtain ⟨F0, sa0, sub0⟩ := (sta.ext ext).weak w
  refine ⟨fun i m σ1 H => m = xs.length - i ∧ i ≤ xs.length ∧ ∃ (W1 : Wd) (F1 : List Addr) (s : τ), W1.H = H ∧ Keep S.prot σ σ1 ∧ Stp W' F W1 F1 ∧ Sta (Γl s) σ1 W1 F1 ∧ loopGo f (xs.drop i) s = some z,
    ⟨xs.length, by simp, Nat.zero_le _, W', F0, s0, rfl, Keep.refl, (Stp.refl ext.ok).perm sub0, sa0, by simpa using h2⟩, ?_⟩
  rintro i m σ1 H ⟨rfl, hi', W1, F1, s, rfl, kp, stp, sa, go⟩
  obtain ⟨iok1, iok2⟩ := iok W1 ⟨sa.ok, stp.b⟩
  by_cases hlt : i < xs.length
  · obtain ⟨g1, g2⟩ := iok1 i xs[i] (List.getElem?_eq_getElem hlt)
    refine .inr ⟨g1, fun σ' H' => ∃ m', m' < xs.length - i ∧ (m' = xs.length - (i + 1) ∧ i + 1 ≤ xs.length ∧ ∃ (W1 : Wd) (F1 : List Addr) (s : τ), W1.H = H' ∧ Keep S.prot σ σ' ∧ Stp W' F W1 F1 ∧ Sta (Γl s) σ' W1 F1 ∧ loopGo f (xs.drop (i + 1)) s = some z), fun σ' H' h => h, fun v H' y => ?_⟩
    obtain ⟨W2, rfl, e2, p2⟩ := g2 v H' y
    have stp2 : Stp W1 F1 W2 F1 := by have := e2.stp (F := F1) (Fv := []) (by simp); rwa [List.append_nil] at this
    refine hg (Γl s) σ1 W2 F1 xs[i] v (sa.ext e2) (hl s) p2 _ fun σ2 F2 _ kp2 sa2 sub2 => ?_
    rw [List.drop_eq_getElem_cons hlt] at go
    obtain ⟨o, o1, o2⟩ := run1 (f := fun o : Out τ ρ => o.step fun s' => loopGo f (xs.drop (i + 1)) s') go
    have stpA : Stp W' F W2 F2 := (stp.trans stp2).perm sub2
    refine hb xs[i] s σ2 W2 F2 sa2 o o1 _ ?_
    cases o with
    | nx s' => exact fun σ3 W3 F3 k3 t3 a3 => ⟨xs.length - (i + 1), by omega, rfl, hlt, W3, F3, s', rfl, (kp.trans kp2).trans k3, stpA.trans t3, a3, o2⟩
    | ct s' => exact fun σ3 W3 F3 k3 t3 a3 => ⟨xs.length - (i + 1), by omega, rfl, hlt, W3, F3, s', rfl, (kp.trans kp2).trans k3, stpA.trans t3, a3, o2⟩
    | bk s' =>
      cases o2
      exact fun σ3 W3 F3 k3 t3 a3 => k σ3 W3 F3 ((kp.trans kp2).trans k3) (stp0.trans (stpA.trans t3)) a3
    | rt r =>
      cases o2
      obtain ⟨n1, n2, n3⟩ := hT r
      have k' : Post S.W S.prot σ W F Ed (T r) := k
      show Post S.W S.prot σ2 W2 F2 _ (T r)
      have k'' := k'.before (kp.trans kp2) (stp0.trans stpA)
      generalize hq : T r = q at k'' n1
      cases q with
      | nx Γ => exact n1.elim
      | bk Γ => exact absurd hq (n2 Γ)
      | ct Γ => exact absurd hq (n3 Γ)
      | rt Γ R => exact k''
      | xc Γ R => exact k''
  · have ei : i = xs.length := by omega
    subst ei
    rw [List.drop_length] at go
    cases go
    exact .inl ⟨iok2 _ (Nat.le_refl _), k σ1 W1 F1 kp (stp0.trans stp) sa⟩
theorem loopGo_fold {f : α → τ → Option τ} : ∀ (xs : List α) (s : τ), loopGo (ρ := Empty) (fun x s => (f x s).bind fun s' => some (.nx s')) xs s = (foldGo f xs s).bind fun s' => some (.nx s')
  | [], s => rfl
  | x :: xs, s => by
    show ((f x s).bind fun s' => some (Out.nx s')).bind _ = ((f x s).bind fun s' => foldGo f xs s').bind _
    cases f x s with
    | none => rfl
    | some s' => exact loopGo_fold xs s'
theorem JB.map {sts : List Stmt} {m : Option α} {D : ω → Kd} {g : α → ω} {D' : α → Kd} (h : JB S sts Γ m D') (hD : ∀ x, D (g x) = D' x) : JB S sts Γ (m.bind fun x => some (g x)) D := fun σ W F sta z hz E k => by
  obtain ⟨x, h1, h2⟩ := run1 hz
  cases h2
  rw [hD] at k
  exact h σ W F sta x h1 E k
theorem js_forS {mi : Option (List α)} {E : α → SP} {up : α → Ctx → Ctx} {ws : List Nat} {Γl : τ → Ctx} {f : α → τ → Option τ} (s0 : τ) (hi : JI S tg iter Γ mi E) (hg : JG S tg E up ws) (w : Weak Γ (Γl s0)) (hl : ∀ s, ∀ i ∈ ws, i < (Γl s).length)
    (hb : ∀ x s, JB S A (up x (Γl s)) (f x s) fun s' => .nx (Γl s')) (hs : ∀ env x, foldedSetIterable iter env x = pure x := by intro _ _; rfl) (hcm : S.calm = true := by rfl) : JS S (.For tg iter A [] pos) Γ (mi.bind fun xs => foldGo f xs s0) fun s => .nx (Γl s) := fun σ W F sta z hz Ed k => by
  have h := js_for (ρ := Empty) (T := fun r => nomatch r) (f := fun x s => (f x s).bind fun s' => some (.nx s')) (pos := pos) s0 hi hg w hl (fun r => nomatch r) (fun x s => JB.map (hb x s) fun s' => rfl) hs hcm
  refine h σ W F sta (.nx z) ?_ Ed k
  obtain ⟨xs, h1, h2⟩ := run1 hz
  rw [h1]
  show loopGo _ xs s0 = _
  rw [loopGo_fold, h2]
  rfl
/-- a statement that may return, then the rest -/
theorem jb_consO {ms : Option (Out τ υ)} {Γl : τ → Ctx} {T : υ → Kd} {mr : τ → Option ω} {D : ω → Kd} (ι : υ → ω) (h : JS S st Γ ms (DF Γl T)) (hι : ∀ r, D (ι r) = T r) (hT : ∀ r, NoNx (T r)) (hr : ∀ s, JB S rest (Γl s) (mr s) D) :
    JB S (st :: rest) Γ (ms.bind fun o => o.k mr fun r => some (ι r)) D := fun σ W F sta z hz E k => by
  obtain ⟨o, h1, h2⟩ := run1 hz
  refine ⟨tSeq (tsOf S st) (tbOf S rest), fun X hX => pss_cons (psO hX) (pbO hX), ?_⟩
  refine h σ W F sta o h1 { E with nx := tbOf S rest E } ?_
  cases o with
  | nx s => exact fun σ' W' F' kp stp sta' => hr s σ' W' F' sta' z h2 E (k.before kp stp)
  | ct s => exact fun σ' W' F' kp stp sta' => hr s σ' W' F' sta' z h2 E (k.before kp stp)
  | bk s => exact fun σ' W' F' kp stp sta' => hr s σ' W' F' sta' z h2 E (k.before kp stp)
  | rt r =>
    cases h2
    rw [hι] at k
    exact post_nox k (hT r)
/-! ### while -/
def whileGo (c : τ → Option Bool) (f : τ → Option (Out τ ρ)) : Nat → τ → Option (Out τ ρ)
  | 0, _ => none
  | n + 1, s => (c s).bind fun b => bif b then (f s).bind fun o => o.step fun s' => whileGo c f n s' else some (.nx s)
theorem js_while {Γl : τ → Ctx} {T : ρ → Kd} {mc : τ → Option Bool} {f : τ → Option (Out τ ρ)} (n : Nat) (s0 : τ) (w : Weak Γ (Γl s0)) (hT : ∀ r, NoNx (T r) ∧ (∀ Δ, T r ≠ .bk Δ) ∧ ∀ Δ, T r ≠ .ct Δ) (hc : ∀ s, JT S c (Γl s) (mc s)) (hb : ∀ s, JB S A (Γl s) (f s) (DL Γl T)) :
    JS S (.While c A [] pos) Γ (whileGo mc f n s0) (DF Γl T) := fun σ W F sta z hz Ed k => by
  refine ⟨tWhile (ttOf S c) (tbOf S A), fun X hX => ps_while hX.pass (ptO hX) (pbO hX), ?_⟩
  obtain ⟨F0, sa0, sub0⟩ := sta.weak w
  refine ⟨fun m σ1 H => ∃ (W1 : Wd) (F1 : List Addr) (s : τ), W1.H = H ∧ Keep S.prot σ σ1 ∧ Stp W F W1 F1 ∧ Sta (Γl s) σ1 W1 F1 ∧ whileGo mc f m s = some z, ⟨n, W, F0, s0, rfl, Keep.refl, (Stp.refl sta.ok).perm sub0, sa0, hz⟩, ?_⟩
  rintro m σ1 H ⟨W1, F1, s, rfl, kp, stp, sa, go⟩
  cases m with
  | zero => cases go
  | succ m =>
    obtain ⟨b, b1, b2⟩ := run1 (f := fun b => bif b then (f s).bind fun o : Out τ ρ => o.step fun s' => whileGo mc f m s' else some (.nx s)) go
    refine hc s σ1 W1 F1 sa b b1 _ fun W2 e2 => ?_
    have stp2 : Stp W1 F1 W2 F1 := by have := e2.stp (F := F1) (Fv := []) (by simp); rwa [List.append_nil] at this
    have stpA := stp.trans stp2
    cases b with
    | true =>
      obtain ⟨o, o1, o2⟩ := run1 (f := fun o : Out τ ρ => o.step fun s' => whileGo mc f m s') b2
      refine iteT ⟨fun σ' H' => ∃ m', m' < m + 1 ∧ ∃ (W1 : Wd) (F1 : List Addr) (s : τ), W1.H = H' ∧ Keep S.prot σ σ' ∧ Stp W F W1 F1 ∧ Sta (Γl s) σ' W1 F1 ∧ whileGo mc f m' s = some z, fun σ' H' h => h, ?_⟩
      refine hb s σ1 W2 F1 (sa.ext e2) o o1 _ ?_
      cases o with
      | nx s' => exact fun σ3 W3 F3 k3 t3 a3 => ⟨m, Nat.lt_succ_self m, W3, F3, s', rfl, kp.trans k3, stpA.trans t3, a3, o2⟩
      | ct s' => exact fun σ3 W3 F3 k3 t3 a3 => ⟨m, Nat.lt_succ_self m, W3, F3, s', rfl, kp.trans k3, stpA.trans t3, a3, o2⟩
      | bk s' =>
        cases o2
        exact fun σ3 W3 F3 k3 t3 a3 => k σ3 W3 F3 (kp.trans k3) (stpA.trans t3) a3
      | rt r =>
        cases o2
        obtain ⟨n1, n2, n3⟩ := hT r
        have k' : Post S.W S.prot σ W F Ed (T r) := k
        show Post S.W S.prot σ1 W2 F1 _ (T r)
        have k'' := k'.before kp stpA
        generalize hq : T r = q at k'' n1
        cases q with
        | nx Γ => exact n1.elim
        | bk Γ => exact absurd hq (n2 Γ)
        | ct Γ => exact absurd hq (n3 Γ)
        | rt Γ R => exact k''
        | xc Γ R => exact k''
    | false =>
      cases b2
      exact iteF (k σ1 W2 F1 kp stpA (sa.ext e2))
/-! ### writing into what is owned -/
theorem set_back {σ : L2.St} {i : Nat} {v : V} (h : σ[i]? = some (some v)) : σ.set i (some v) = σ := by
  refine List.ext_getElem? fun j => ?_
  by_cases e : i = j
  · subst e
    rw [h, List.getElem?_set_self (List.getElem?_eq_some_iff.mp h).1]
  · rw [List.getElem?_set_ne e]
/-- the owned slot i is rewritten: its own addresses F1 become F1' (with some of the owned temporaries G), all else stays -/
theorem sta_own {σ : L2.St} {W W' : Wd} {F F1 F2 F1' : List Addr} {i : Nat} {o' : OP} {v : V} (G : List Addr) (sta : Sta Γ σ W F) (fpG : FpOk W (F ++ G)) (h1 : σ[i]? = some (some v)) (hp : F.Perm (F1 ++ F2))
    (re : ∀ (W' : Wd) (o' : OP) (v' : V) (F1' : List Addr), Ex W.B W'.B → (∀ a ∈ F2, W'.H a = W.H a) → o'.C W' v' F1' → ∃ F', Holds (Γ.set i (some o')) (σ.set i (some v')) W' F' ∧ F'.Perm (F1' ++ F2))
    (ok : Ex W'.B W'.H) (eb : W'.B = W.B) (hh : ∀ a, a ∉ F1 → W.H a ≠ none → W'.H a = W.H a) (al : ∀ a, W.H a ≠ none → W'.H a ≠ none) (fp1 : FpOk W' F1') (fr1 : ∀ a ∈ F1', a ∈ F1 ∨ a ∈ G ∨ W.H a = none) (r : o'.C W' v F1') :
    ∃ F', Sta (Γ.set i (some o')) σ W' F' ∧ Stp W (F ++ G) W' F' := by
  have fp := sta.fp.perm hp
  have ne2 : ∀ a ∈ F2, a ∉ F1 := fun a ha h => fp.disj a h ha
  obtain ⟨F', c1, c2⟩ := re W' o' v F1' (by rw [eb]; exact Ex.refl _) (fun a ha => hh a (ne2 a ha) (fp.right.al a ha)) r
  rw [set_back h1] at c1
  have fpB : FpOk W' (F1' ++ F2) := fp1.app ⟨fp.right.nd, fun a ha => al a (fp.right.al a ha), fun a ha => by rw [eb]; exact fp.right.fr a ha⟩ fun a ha h => by
    rcases fr1 a ha with z | z | z
    · exact ne2 a h z
    · exact fpG.disj a (hp.mem_iff.mpr (List.mem_append_right _ h)) z
    · exact fp.right.al a h z
  refine ⟨F', ⟨ok, fpB.perm c2.symm, by rw [List.length_set]; exact sta.len, c1⟩, ok, by rw [eb]; exact Ex.refl _, fun a o h n => ?_, al, fun a _ h2 _ => by rw [eb]; exact h2, fun a ha => ?_⟩
  · rw [hh a (fun z => n (List.mem_append_left _ (hp.mem_iff.mpr (List.mem_append_left _ z)))) (by rw [h]; exact fun z => nomatch z)]
    exact h
  · rcases List.mem_append.mp (c2.mem_iff.mp ha) with z | z
    · rcases fr1 a z with q | q | q
      · exact .inl (List.mem_append_left _ (hp.mem_iff.mpr (List.mem_append_left _ q)))
      · exact .inl (List.mem_append_right _ q)
      · exact .inr q
    · exact .inl (List.mem_append_left _ (hp.mem_iff.mpr (List.mem_append_right _ z)))
/-- one address of an owned thing is written -/
theorem wr_ok {W : Wd} {p : Addr} {o : HO} (ok : Ex W.B W.H) (hB : W.B p = none) : Ex W.B (upd W.H p o) := fun a u h => by
  have z : a ≠ p := fun z => by rw [z, hB] at h; cases h
  rw [upd_ne z]
  exact ok a u h
theorem wr_al {W : Wd} {p : Addr} {o : HO} : ∀ a, W.H a ≠ none → upd W.H p o a ≠ none := fun a h => by
  by_cases z : a = p
  · rw [z, upd_same]; exact fun z => nomatch z
  · rw [upd_ne z]; exact h
def appM (xs : List α) (x : α) : Option (List α) := if xs.length < LIM then some (xs ++ [x]) else none
theorem js_app {x : Str} {p0 apos cpos spos : Pos} {E : α → OP} {xs : List α} {m : Option α} (i : Nat) (h : JN S e Γ m E) (hi : Γ[i]? = some (some (lstO E xs)) := by rfl) (hN : S.N[i]? = some x := by rfl) (hv : Vis S.sc x := by first | exact Or.inl rfl | exact Or.inr (Or.inl rfl) | exact Or.inr (Or.inr rfl))
    (hd : (x == ("__debug__" : Str)) = false := by decide) (hcd : (x == ("__classdict__" : Str)) = false := by decide)
    (hbase : ∀ env, attributeBase (.Name x p0) "append" env (eval (.Name x p0) env) = eval (.Name x p0) env := by intro _; rfl)
    (hfew : ∀ env, ((backTo cpos (starEach [e] env)).all (fun x => !x.1) && (backToKw cpos (keywordEach [] env)).all (fun x => x.1.isSome) && decide ([e].length + ([] : List Keyword).length + (if ([] : List Keyword).isEmpty then 0 else 1) < 30)) = true := by intro _; rfl)
    (hline : (apos.endLine == cpos.line) = true := by rfl) (hs : ∀ env, starEach [e] env = (false, eval e env) :: starEach [] env := by intro _; rfl) (hsw : ∀ env, swapsWith (.Call (.Attribute (.Name x p0) "append" apos) [e] [] cpos) none spos.line env = pure false := by intro _; rfl) :
    JS S (.Expr (.Call (.Attribute (.Name x p0) "append" apos) [e] [] cpos) spos) Γ (m.bind fun y => appM xs y) fun ys => .nx (Γ.set i (some (lstO E ys))) := fun σ W F sta z hz Ed k => by
  obtain ⟨y, h1, h2⟩ := run1 hz
  unfold appM at h2
  split at h2
  · rename_i hlen
    cases h2
    refine ⟨tDrop (tBM S.K "list" rAppend (tVar i) (tCons (tOf S e) tNil)), fun X hX => ps_expr (hX.K ▸ pe_bm PySem.F.plainAttrs_list PySem.F.slot_list_append PySem.F.type_list_append mt_append (pe_var (by rw [hX.N]; exact hN) (visS hv hX) hd hcd) (pa_cons (peO hX) pa_nil (hs _)) (hbase _) (hfew _) hline (hs _) rfl) (hsw _), ?_⟩
    obtain ⟨v, F1, F2, a1, a2, a3, a4⟩ := sta.hold.at hi
    obtain ⟨p, vs, G2, rfl, b2, rfl, b4⟩ := id a2
    refine ⟨.ref p, a1, .inl ⟨rfl, vs, .inl (.inl b2)⟩, h σ W F sta y h1 _ fun u W1 Fv ext fr fp r => ?_⟩
    have sta1 := sta.ext ext
    obtain ⟨v', F1', F2', c1, c2, c3, c4⟩ := sta1.hold.at hi
    have ev : v' = .ref p := by rw [a1] at c1; exact (Option.some.inj (Option.some.inj c1)).symm
    subst ev
    obtain ⟨p', vs', G2', e1, d2, rfl, d4⟩ := c2
    cases e1
    have hp1 : W1.H p = some (.lst vs) := ext.h p _ b2
    have evs : vs' = vs := by
      rw [hp1] at d2
      cases d2
      rfl
    subst evs
    have hB : W1.B p = none := (sta1.fp.perm c3).fr p (by simp)
    have fpA : FpOk W1 ((p :: G2') ++ Fv) := by
      have q : FpOk W1 (F ++ Fv) := sta.fp.fresh ext fp fr
      have q2 : FpOk W1 (((p :: G2') ++ F2') ++ Fv) := q.perm (List.Perm.append_right Fv c3)
      refine FpOk.left (F' := F2') (q2.perm ?_)
      rw [List.append_assoc, List.append_assoc]
      exact List.Perm.append_left _ List.perm_append_comm
    have q : FpOk W1 (F ++ Fv) := sta.fp.fresh ext fp fr
    refine ⟨p, vs', u, rfl, rfl, hp1, lim_lt (by rw [d4.len]; exact hlen), ?_⟩
    have nP : ∀ a ∈ G2' ++ Fv, a ≠ p := fun a ha z => (List.nodup_cons.mp fpA.nd).1 (z ▸ ha)
    have A3 : Owns E W1 (vs' ++ [u]) (xs ++ [y]) (G2' ++ Fv) := d4.app ⟨Fv, [], (List.append_nil _).symm, r, rfl⟩
    have A4 : Owns E ⟨upd W1.H p (.lst (vs' ++ [u])), W1.B⟩ (vs' ++ [u]) (xs ++ [y]) (G2' ++ Fv) := Owns.loc (W := W1) (W' := ⟨upd W1.H p (.lst (vs' ++ [u])), W1.B⟩) (fun _ _ h => h) A3 fun a ha => by
      show upd W1.H p (.lst (vs' ++ [u])) a = W1.H a
      exact upd_ne (nP a ha)
    obtain ⟨F', s', stp⟩ := sta_own (W' := ⟨upd W1.H p (.lst (vs' ++ [u])), W1.B⟩) (F1' := p :: (G2' ++ Fv)) (o' := lstO E (xs ++ [y])) Fv sta1 q c1 c3 c4 (wr_ok ext.ok hB) rfl (fun a ha _ => upd_ne fun z => ha (z ▸ List.mem_cons_self)) wr_al
      ⟨fpA.nd, fun a ha => wr_al a (fpA.al a ha), fpA.fr⟩ (fun a ha => by
        rcases List.mem_cons.mp ha with z | z
        · exact .inl (z ▸ List.mem_cons_self)
        · rcases List.mem_append.mp z with z | z
          · exact .inl (List.mem_cons_of_mem _ z)
          · exact .inr (.inl z)) ⟨p, vs' ++ [u], G2' ++ Fv, rfl, upd_same, rfl, A4⟩
    exact k σ _ F' Keep.refl ((ext.stp fr).trans stp) s'
  · cases h2
end
end CC
set_option maxHeartbeats 4000000
/-! Operations by values; writing; defs; state. -/
namespace CC
open PySem PySem.Spec L2
open PyProof.Rows hiding St
variable {α β γ δ τ ω ρ υ : Type}
/-! ### operations -/
theorem ov_I0 {g : Int → Int → V} {h : Int → Int → γ} {E : γ → SP} (hg : ∀ i j B, (E (h i j)).P B (g i j)) : OpV (rI0 g) intS intS (fun i j => some (h i j)) fun z => sh (E z) := fun W x y v u z ok hx hy e Q k => by
  cases e
  cases hx
  cases hy
  exact ⟨x, y, rfl, rfl, k.val ok (hg _ _ _)⟩
theorem ov_I {C : Int → Int → Prop} {g : Int → Int → V} {h : Int → Int → Option γ} {E : γ → SP} (hc : ∀ i j z, h i j = some z → C i j ∧ ∀ B, (E z).P B (g i j)) : OpV (rI C g) intS intS h fun z => sh (E z) := fun W x y v u z ok hx hy e Q k => by
  cases hx
  cases hy
  exact ⟨x, y, rfl, rfl, (hc _ _ _ e).1, k.val ok ((hc _ _ _ e).2 _)⟩
def addO (x y : Int) : Option Int := some (x + y)
def subO (x y : Int) : Option Int := some (x - y)
def mulO (x y : Int) : Option Int := if (-(2 ^ 64) < x ∧ x < 2 ^ 64) ∨ (-(2 ^ 64) < y ∧ y < 2 ^ 64) then some (x * y) else none
def divO (x y : Int) : Option Int := if 0 < y ∧ y < 1073741824 then some (x / y) else none
def modO (x y : Int) : Option Int := if 0 < y then some (x % y) else none
theorem ov_add : OpV (rI0 fun i j => .int (i + j)) intS intS (fun x y => some (x + y)) fun z => sh (intS z) := ov_I0 fun _ _ _ => rfl
theorem ov_sub : OpV (rI0 fun i j => .int (i - j)) intS intS (fun x y => some (x - y)) fun z => sh (intS z) := ov_I0 fun _ _ _ => rfl
theorem ov_mul : OpV (rI CMul fun i j => .int (i * j)) intS intS mulO fun z => sh (intS z) := ov_I fun i j z h => by
  unfold mulO at h
  split at h
  · cases h
    rename_i c
    exact ⟨c, fun _ => rfl⟩
  · cases h
theorem ov_div : OpV (rI CDiv fun i j => .int (i / j)) intS intS divO fun z => sh (intS z) := ov_I fun i j z h => by
  unfold divO at h
  split at h
  · cases h
    rename_i c
    exact ⟨c, fun _ => rfl⟩
  · cases h
theorem ov_mod : OpV (rI (fun _ j => 0 < j) fun i j => .int (i % j)) intS intS modO fun z => sh (intS z) := ov_I fun i j z h => by
  unfold modO at h
  split at h
  · cases h
    rename_i c
    exact ⟨c, fun _ => rfl⟩
  · cases h
theorem ov_lt : OpV (rI0 fun i j => .bl (decide (i < j))) intS intS (fun x y => some (decide (x < y))) fun z => sh (boolS z) := ov_I0 fun _ _ _ => rfl
theorem ov_le : OpV (rI0 fun i j => .bl (decide (i ≤ j))) intS intS (fun x y => some (decide (x ≤ y))) fun z => sh (boolS z) := ov_I0 fun _ _ _ => rfl
theorem ov_gt : OpV (rI0 fun i j => .bl (decide (j < i))) intS intS (fun x y => some (decide (y < x))) fun z => sh (boolS z) := ov_I0 fun _ _ _ => rfl
theorem ov_ge : OpV (rI0 fun i j => .bl (decide (j ≤ i))) intS intS (fun x y => some (decide (y ≤ x))) fun z => sh (boolS z) := ov_I0 fun _ _ _ => rfl
theorem ov_eqI : OpV rEq intS intS (fun x y => some (decide (x = y))) fun z => sh (boolS z) := fun W x y v u z ok hx hy e Q k => by
  cases e
  cases hx
  cases hy
  refine ⟨rfl, k.val ok ?_⟩
  show V.bl (decide (V.int x = V.int y)) = V.bl (decide (x = y))
  simp
theorem ov_neI : OpV rNe intS intS (fun x y => some (!decide (x = y))) fun z => sh (boolS z) := fun W x y v u z ok hx hy e Q k => by
  cases e
  cases hx
  cases hy
  refine ⟨rfl, k.val ok ?_⟩
  show V.bl (!decide (V.int x = V.int y)) = V.bl (!decide (x = y))
  simp
theorem ov_eqB : OpV rEq boolS boolS (fun x y => some (decide (x = y))) fun z => sh (boolS z) := fun W x y v u z ok hx hy e Q k => by
  cases e
  cases hx
  cases hy
  refine ⟨rfl, k.val ok ?_⟩
  show V.bl (decide (V.bl x = V.bl y)) = V.bl (decide (x = y))
  simp
theorem ov_neB : OpV rNe boolS boolS (fun x y => some (!decide (x = y))) fun z => sh (boolS z) := fun W x y v u z ok hx hy e Q k => by
  cases e
  cases hx
  cases hy
  refine ⟨rfl, k.val ok ?_⟩
  show V.bl (!decide (V.bl x = V.bl y)) = V.bl (!decide (x = y))
  simp
theorem ov_neS : OpV rNe strS strS (fun x y => some (!decide (x = y))) fun z => sh (boolS z) := fun W x y v u z ok hx hy e Q k => by
  cases e
  cases hx
  cases hy
  refine ⟨rfl, k.val ok ?_⟩
  show V.bl (!decide (V.str x = V.str y)) = V.bl (!decide (x = y))
  simp
theorem ov_eqS : OpV rEq strS strS (fun x y => some (decide (x = y))) fun z => sh (boolS z) := fun W x y v u z ok hx hy e Q k => by
  cases e
  cases hx
  cases hy
  refine ⟨rfl, k.val ok ?_⟩
  show V.bl (decide (V.str x = V.str y)) = V.bl (decide (x = y))
  simp
/-- None or not, by what the value is known to be -/
class NotNon (E : α → SP) : Prop where
  out : ∀ x B v, (E x).P B v → v ≠ .non
instance : NotNon intS := ⟨fun x B v h z => by cases h; cases z⟩
instance : NotNon boolS := ⟨fun x B v h z => by cases h; cases z⟩
instance : NotNon strS := ⟨fun x B v h z => by cases h; cases z⟩
instance {E : α → SP} : NotNon (lstS E) := ⟨fun x B v h z => by obtain ⟨a, _, rfl, _⟩ := h; cases z⟩
instance {E : α → SP} : NotNon (tupS E) := ⟨fun x B v h z => by obtain ⟨a, _, rfl, _⟩ := h; cases z⟩
instance {E : α → SP} {G : β → SP} : NotNon (prS E G) := ⟨fun x B v h z => by obtain ⟨a, _, rfl, _⟩ := h; cases z⟩
theorem ov_isN0 {E : α → SP} [n : NotNon E] : OpV (fun x y H Q => y = .non ∧ Q (.bl (decide (x = .non))) H) E (fun _ : Unit => nonS) (fun _ _ => some false) fun z => sh (boolS z) := fun W x y v u z ok hx hy e Q k => by
  cases e
  cases hy
  refine ⟨rfl, ?_⟩
  rw [decide_eq_false (n.out x _ _ hx)]
  exact k.val ok rfl
theorem ov_notN0 {E : α → SP} [n : NotNon E] : OpV (fun x y H Q => y = .non ∧ Q (.bl (!decide (x = .non))) H) E (fun _ : Unit => nonS) (fun _ _ => some true) fun z => sh (boolS z) := fun W x y v u z ok hx hy e Q k => by
  cases e
  cases hy
  refine ⟨rfl, ?_⟩
  rw [decide_eq_false (n.out x _ _ hx)]
  exact k.val ok rfl
theorem ov_isNO {E : α → SP} [n : NotNon E] : OpV (fun x y H Q => y = .non ∧ Q (.bl (decide (x = .non))) H) (optS E) (fun _ : Unit => nonS) (fun x _ => some x.isNone) fun z => sh (boolS z) := fun W x y v u z ok hx hy e Q k => by
  cases e
  cases hy
  refine ⟨rfl, ?_⟩
  cases x with
  | none =>
    cases hx
    exact k.val ok rfl
  | some x =>
    rw [decide_eq_false (n.out x _ _ hx)]
    exact k.val ok rfl
theorem ov_notNO {E : α → SP} [n : NotNon E] : OpV (fun x y H Q => y = .non ∧ Q (.bl (!decide (x = .non))) H) (optS E) (fun _ : Unit => nonS) (fun x _ => some x.isSome) fun z => sh (boolS z) := fun W x y v u z ok hx hy e Q k => by
  cases e
  cases hy
  refine ⟨rfl, ?_⟩
  cases x with
  | none =>
    cases hx
    exact k.val ok rfl
  | some x =>
    rw [decide_eq_false (n.out x _ _ hx)]
    exact k.val ok rfl
section
variable {S : Stc}
theorem oAdd : ∀ X, S.In X → OpR X (binaryOp .Add) (rI0 fun i j => .int (i + j)) := fun _ _ => op_add
theorem oSub : ∀ X, S.In X → OpR X (binaryOp .Sub) (rI0 fun i j => .int (i - j)) := fun _ _ => op_sub
theorem oMul : ∀ X, S.In X → OpR X (binaryOp .Mult) (rI CMul fun i j => .int (i * j)) := fun _ _ => op_mul
theorem oDiv : ∀ X, S.In X → OpR X (binaryOp .FloorDiv) (rI CDiv fun i j => .int (i / j)) := fun _ _ => op_fdiv
theorem oMod : ∀ X, S.In X → OpR X (binaryOp .Mod) (rI (fun _ j => 0 < j) fun i j => .int (i % j)) := fun _ _ => op_mod
theorem oLt : ∀ X, S.In X → OpR X (compareOp .Lt) (rI0 fun i j => .bl (decide (i < j))) := fun _ _ => op_lt
theorem oLe : ∀ X, S.In X → OpR X (compareOp .LtE) (rI0 fun i j => .bl (decide (i ≤ j))) := fun _ _ => op_le
theorem oGt : ∀ X, S.In X → OpR X (compareOp .Gt) (rI0 fun i j => .bl (decide (j < i))) := fun _ _ => op_gt
theorem oGe : ∀ X, S.In X → OpR X (compareOp .GtE) (rI0 fun i j => .bl (decide (j ≤ i))) := fun _ _ => op_ge
theorem oEq : ∀ X, S.In X → OpR X (compareOp .Eq) rEq := fun _ _ => op_eq
theorem oNe : ∀ X, S.In X → OpR X (compareOp .NotEq) rNe := fun _ _ => op_ne
theorem oIsN : ∀ X, S.In X → OpR X (compareOp .Is) (fun x y H Q => y = .non ∧ Q (.bl (decide (x = .non))) H) := fun _ _ => op_isN
theorem oNotN : ∀ X, S.In X → OpR X (compareOp .IsNot) (fun x y H Q => y = .non ∧ Q (.bl (!decide (x = .non))) H) := fun _ _ => op_notN
theorem oIxL : ∀ X, S.In X → IxR X (rIxL S.K) := fun _ h => h.K ▸ ix_list
theorem oIxT : ∀ X, S.In X → IxR X (rIxT S.K) := fun _ h => h.K ▸ ix_tup
end
theorem atI_each {E : α → SP} {B : Hp} {vs : List V} {xs : List α} {i : Int} {x : α} (h : Each E B vs xs) (e : atI xs i = some x) : ∃ v, atI vs i = some v ∧ (E x).P B v := by
  unfold atI at e ⊢
  rw [h.len]
  cases q : ixN xs.length i with
  | none => rw [q] at e; cases e
  | some j =>
    rw [q] at e
    exact h.get e
theorem atI_owns {E : α → OP} {W : Wd} {vs : List V} {xs : List α} {F : List Addr} {i : Int} {x : α} (h : Owns E W vs xs F) (e : atI xs i = some x) : ∃ v F1, atI vs i = some v ∧ (E x).C W v F1 ∧ ∀ a ∈ F1, a ∈ F := by
  unfold atI at e ⊢
  rw [h.len]
  cases q : ixN xs.length i with
  | none => rw [q] at e; cases e
  | some j =>
    rw [q] at e
    obtain ⟨v, F1, F2, h1, h2, h3, _⟩ := h.at e
    exact ⟨v, F1, h1, h2, fun a ha => h3.mem_iff.mpr (List.mem_append_left _ ha)⟩
theorem iv_lstO {K : PySem.W.Frag} {E : α → OP} : IxV (rIxL K) (lstO E) intS (fun xs i => atI xs i) E := fun W x y v u z F1 ok hx hy e Q k => by
  cases hy
  obtain ⟨a, vs, F2, rfl, h2, rfl, h4⟩ := hx
  obtain ⟨t, F3, q1, q2, q3⟩ := atI_owns h4 e
  exact ⟨a, vs, y, t, rfl, rfl, .inl (.inl h2), q1, k t ⟨F3, q2, fun b hb => List.mem_cons_of_mem _ (q3 b hb)⟩⟩
theorem iv_lst {K : PySem.W.Frag} {E : α → SP} : IxV (rIxL K) (fun xs => sh (lstS E xs)) intS (fun xs i => atI xs i) fun x => sh (E x) := fun W x y v u z F1 ok hx hy e Q k => by
  cases hy
  obtain ⟨_, a, vs, rfl, h2, h4⟩ := hx
  obtain ⟨t, q1, q2⟩ := atI_each h4 e
  exact ⟨a, vs, y, t, rfl, rfl, .inl (.inl (ok a _ h2)), q1, k t ⟨[], ⟨rfl, q2⟩, by simp⟩⟩
theorem iv_tup {K : PySem.W.Frag} {E : α → SP} : IxV (rIxT K) (fun xs => sh (tupS E xs)) intS (fun xs i => atI xs i) fun x => sh (E x) := fun W x y v u z F1 ok hx hy e Q k => by
  cases hy
  obtain ⟨_, a, vs, rfl, h2, h4⟩ := hx
  obtain ⟨t, q1, q2⟩ := atI_each h4 e
  exact ⟨a, vs, y, t, rfl, rfl, .inl (.inl (ok a _ h2)), q1, k t ⟨[], ⟨rfl, q2⟩, by simp⟩⟩
theorem iv_scr {K : PySem.W.Frag} : IxV (rIxL K) (fun xs => sh (scrS K xs)) intS (fun xs i => atI xs i) fun x => sh (intS x) := fun W x y v u z F1 ok hx hy e Q k => by
  cases hy
  obtain ⟨_, a, rfl, h2⟩ := hx
  have hq : SqL K W.H a (x.map V.int) := by
    rcases h2 with (h | ⟨o, h⟩) | h
    · exact .inl (.inl (ok _ _ h))
    · exact .inl (.inr ⟨o, ok _ _ h⟩)
    · exact .inr h
  have e : atI x y = some z := e
  have e' : atI (x.map V.int) y = some (.int z) := by
    unfold atI at e ⊢
    rw [List.length_map]
    cases q : ixN x.length y with
    | none => rw [q] at e; cases e
    | some j =>
      rw [q] at e
      show (x.map V.int)[j]? = some (.int z)
      rw [List.getElem?_map, show x[j]? = some z from e]
      rfl
  exact ⟨a, _, y, .int z, rfl, rfl, hq, e', k _ ⟨[], ⟨rfl, rfl⟩, by simp⟩⟩
section
variable {S : Stc} {Γ Δ : Ctx} {a b c e tg iter elt : Expr} {es ifs : List Expr} {pos : Pos} {st : Stmt} {rest A B : List Stmt}
/-- an item of a tuple (of a list) of several kinds, at a written place -/
theorem atI_k {vs : List V} {k : Nat} {v : V} (h : vs[k]? = some v) : atI vs (k : Int) = some v := atI_nat h
theorem jn_ixT {ps : α → List SP} {E : β → SP} {g : α → β} {m : Option α} {j : Int} {kk p'} (k : Nat) (h : JN S a Γ m fun x => sh (htupS (ps x))) (hk : ∀ x, (ps x)[k]? = some (E (g x)) := by intro _; rfl) (hj : j = (k : Int) := by rfl) :
    JN S (.Subscript a (.Constant (.int j) kk p') pos) Γ (m.bind fun x => some (g x)) fun z => sh (E z) := fun σ W F sta z hz Q kq => by
  obtain ⟨x, h1, h2⟩ := run1 hz
  cases h2
  refine ⟨tOp (rIxT S.K) (tOf S a) (tC (.int j)), fun X hX => pe_ix (oIxT X hX) (peO hX) pe_int (fun _ _ => rfl), h σ W F sta x h1 _ fun v W' Fv ext _ _ r => ?_⟩
  obtain ⟨_, p, vs, rfl, q2, q3⟩ := r
  obtain ⟨u, u1, u2⟩ := q3.get (hk x)
  exact ⟨p, vs, j, u, rfl, rfl, .inl (.inl (ext.ok p _ q2)), by rw [hj]; exact atI_k u1, (kq.ext ext).val ext.ok u2⟩
theorem jn_ixH {ps : α → List SP} {E : β → SP} {g : α → β} {m : Option α} {j : Int} {kk p'} (k : Nat) (h : JN S a Γ m fun x => sh (hlstS (ps x))) (hk : ∀ x, (ps x)[k]? = some (E (g x)) := by intro _; rfl) (hj : j = (k : Int) := by rfl) :
    JN S (.Subscript a (.Constant (.int j) kk p') pos) Γ (m.bind fun x => some (g x)) fun z => sh (E z) := fun σ W F sta z hz Q kq => by
  obtain ⟨x, h1, h2⟩ := run1 hz
  cases h2
  refine ⟨tOp (rIxL S.K) (tOf S a) (tC (.int j)), fun X hX => pe_ix (oIxL X hX) (peO hX) pe_int (fun _ _ => rfl), h σ W F sta x h1 _ fun v W' Fv ext _ _ r => ?_⟩
  obtain ⟨_, p, vs, rfl, q2, q3⟩ := r
  obtain ⟨u, u1, u2⟩ := q3.get (hk x)
  exact ⟨p, vs, j, u, rfl, rfl, .inl (.inl (ext.ok p _ q2)), by rw [hj]; exact atI_k u1, (kq.ext ext).val ext.ok u2⟩
/-- .. of an owned list of several kinds -/
theorem jr_ixO {ps : α → List OP} {R : β → OP} {g : α → β} {m : Option α} {j : Int} {kk p'} (k : Nat) (h : JR S a Γ m fun x => hetO (ps x)) (hk : ∀ x, (ps x)[k]? = some (R (g x)) := by intro _; rfl) (hj : j = (k : Int) := by rfl) :
    JR S (.Subscript a (.Constant (.int j) kk p') pos) Γ (m.bind fun x => some (g x)) R := fun σ W F sta z hz Q kq => by
  obtain ⟨x, h1, h2⟩ := run1 hz
  cases h2
  refine ⟨tOp (rIxL S.K) (tOf S a) (tC (.int j)), fun X hX => pe_ix (oIxL X hX) (peO hX) pe_int (fun _ _ => rfl), h σ W F sta x h1 _ fun v W' ext ⟨F1, r, al⟩ => ?_⟩
  obtain ⟨p, vs, F2, rfl, q2, rfl, q3⟩ := r
  obtain ⟨u, G1, G2, u1, u2, u3, _⟩ := q3.at (hk x)
  exact ⟨p, vs, j, u, rfl, rfl, .inl (.inl q2), by rw [hj]; exact atI_k u1, kq u W' ext ⟨G1, u2, fun b hb => al b (List.mem_cons_of_mem _ (u3.mem_iff.mpr (List.mem_append_left _ hb)))⟩⟩
/-- len -/
theorem len_lstO {E : α → OP} {m : Option (List α)} {p : Pos} (hm : S.mg "len" = none) (h : JR S a Γ m (lstO E)) (hg : GlS S "len" := by rfl) (hs : ∀ env, starEach [a] env = [(false, eval a env)] := by intro _; rfl) : JN S (.Call (.Name "len" p) [a] [] pos) Γ (m.bind fun xs => some (xs.length : Int)) fun z => sh (intS z) := fun σ W F sta z hz Q kq => by
  obtain ⟨x, h1, h2⟩ := run1 hz
  cases h2
  refine ⟨tCB (fun xs H Q => ∃ p ys, xs = [.ref p] ∧ (SqL S.K H p ys ∨ SqT S.K H p ys) ∧ Q (.int ys.length) H) (tCons (tOf S a) tNil), fun X hX => pe_callB (hX.K ▸ call_len_seq) (hg.gl hX) (mgS hm hX) PySem.boot_len (pa_cons (peO hX) pa_nil (hs _)) (by decide) (by decide) (hs _) rfl, h σ W F sta x h1 _ fun v W' ext ⟨F1, r, al⟩ => ?_⟩
  obtain ⟨p, vs, F2, rfl, q2, rfl, q3⟩ := r
  exact ⟨p, vs, rfl, .inl (.inl (.inl q2)), (kq.ext ext).val ext.ok (by rw [q3.len]; rfl)⟩
theorem hets1 {B : Hp} {vs : List V} {p : SP} (h : Hets B vs [p]) : ∃ v, vs = [v] ∧ p.P B v := by
  match vs, h with
  | [v], ⟨h, _⟩ => exact ⟨v, rfl, h⟩
theorem hets2 {B : Hp} {vs : List V} {p q : SP} (h : Hets B vs [p, q]) : ∃ v u, vs = [v, u] ∧ p.P B v ∧ q.P B u := by
  match vs, h with
  | [v, u], ⟨h, h', _⟩ => exact ⟨v, u, rfl, h, h'⟩
/-- f(x), a builtin of one shared argument -/
theorem jn_b1 {x : Str} {id : String} {p : Pos} {r : List V → Hp → VK → Prop} {m : Option α} {E : α → SP} {f : α → Option γ} {R : γ → OP} (hc : ∀ X, S.In X → CallR X (.builtin id) r)
    (hr : ∀ W x v z, Ex W.B W.H → (E x).P W.B v → f x = some z → ∀ Q : VK, Got (R z) W Q → r [v] W.H Q) (hm : S.mg x = none) (ha : JN S a Γ m fun x => sh (E x))
    (hg : GlS S x := by rfl) (hv : bootBuiltins x = some (.builtin id) := by decide +kernel) (hn : x ≠ "__name__" := by decide) (hdb : (x == ("__debug__" : Str)) = false := by decide)
    (hs : ∀ env, starEach [a] env = [(false, eval a env)] := by intro _; rfl) : JN S (.Call (.Name x p) [a] [] pos) Γ (m.bind fun y => f y) R := fun σ W F sta z hz Q k => by
  obtain ⟨y, h1, h2⟩ := run1 hz
  exact ⟨tCB r (tCons (tOf S a) tNil), fun X hX => pe_callB (hc X hX) (hg.gl hX) (mgS hm hX) hv (pa_cons (peO hX) pa_nil (hs _)) hn hdb (hs _) rfl, ha σ W F sta y h1 _ fun v W' Fv e _ _ hh => hr W' y v z e.ok hh.2 h2 Q (k.ext e)⟩
theorem jn_t1 {x : Str} {T : String} {p : Pos} {r : List V → Hp → VK → Prop} {m : Option α} {E : α → SP} {f : α → Option γ} {R : γ → OP} (hc : ∀ X, S.In X → CallR X (.type T) r)
    (hr : ∀ W x v z, Ex W.B W.H → (E x).P W.B v → f x = some z → ∀ Q : VK, Got (R z) W Q → r [v] W.H Q) (hm : S.mg x = none) (ha : JN S a Γ m fun x => sh (E x))
    (hg : GlS S x := by rfl) (hv : bootBuiltins x = some (.type T) := by decide +kernel) (hn : x ≠ "__name__" := by decide) (hdb : (x == ("__debug__" : Str)) = false := by decide)
    (hs : ∀ env, starEach [a] env = [(false, eval a env)] := by intro _; rfl) : JN S (.Call (.Name x p) [a] [] pos) Γ (m.bind fun y => f y) R := fun σ W F sta z hz Q k => by
  obtain ⟨y, h1, h2⟩ := run1 hz
  exact ⟨tCB r (tCons (tOf S a) tNil), fun X hX => pe_callTy (hc X hX) (hg.gl hX) (mgS hm hX) hv (pa_cons (peO hX) pa_nil (hs _)) hn hdb (hs _) rfl, ha σ W F sta y h1 _ fun v W' Fv e _ _ hh => hr W' y v z e.ok hh.2 h2 Q (k.ext e)⟩
theorem len_lst {E : α → SP} {m : Option (List α)} {p : Pos} (hm : S.mg "len" = none) (h : JN S a Γ m fun x => sh (lstS E x)) (hg : GlS S "len" := by rfl) (hs : ∀ env, starEach [a] env = [(false, eval a env)] := by intro _; rfl) : JN S (.Call (.Name "len" p) [a] [] pos) Γ (m.bind fun xs => some (xs.length : Int)) fun z => sh (intS z) :=
  jn_b1 (r := fun xs H Q => ∃ p ys, xs = [.ref p] ∧ (SqL S.K H p ys ∨ SqT S.K H p ys) ∧ Q (.int ys.length) H) (f := fun xs : List α => some (xs.length : Int)) (fun X hX => hX.K ▸ call_len_seq) (fun W x v z ok hh e Q k => by
    cases e
    obtain ⟨p, vs, rfl, q2, q3⟩ := hh
    exact ⟨p, vs, rfl, .inl (.inl (.inl (ok p _ q2))), k.val ok (by rw [q3.len]; rfl)⟩) hm h hg PySem.boot_len (by decide) (by decide) hs
theorem len_tup {E : α → SP} {m : Option (List α)} {p : Pos} (hm : S.mg "len" = none) (h : JN S a Γ m fun x => sh (tupS E x)) (hg : GlS S "len" := by rfl) (hs : ∀ env, starEach [a] env = [(false, eval a env)] := by intro _; rfl) : JN S (.Call (.Name "len" p) [a] [] pos) Γ (m.bind fun xs => some (xs.length : Int)) fun z => sh (intS z) :=
  jn_b1 (r := fun xs H Q => ∃ p ys, xs = [.ref p] ∧ (SqL S.K H p ys ∨ SqT S.K H p ys) ∧ Q (.int ys.length) H) (f := fun xs : List α => some (xs.length : Int)) (fun X hX => hX.K ▸ call_len_seq) (fun W x v z ok hh e Q k => by
    cases e
    obtain ⟨p, vs, rfl, q2, q3⟩ := hh
    exact ⟨p, vs, rfl, .inr (.inl (.inl (ok p _ q2))), k.val ok (by rw [q3.len]; rfl)⟩) hm h hg PySem.boot_len (by decide) (by decide) hs
theorem int_int {m : Option Int} {p : Pos} (hm : S.mg "int" = none) (h : JN S a Γ m fun x => sh (intS x)) (hg : GlS S "int" := by rfl) (hs : ∀ env, starEach [a] env = [(false, eval a env)] := by intro _; rfl) : JN S (.Call (.Name "int" p) [a] [] pos) Γ (m.bind fun x => some x) fun z => sh (intS z) :=
  jn_t1 (f := fun x : Int => some x) (fun X hX => call_int1) (fun W x v z ok hh e Q k => by
    cases e
    cases hh
    exact .inl ⟨_, rfl, k.val ok rfl⟩) hm h hg (by decide +kernel) (by decide) (by decide) hs
def b2i (b : Bool) : Int := if b then 1 else 0
theorem int_bool {m : Option Bool} {p : Pos} (hm : S.mg "int" = none) (h : JN S a Γ m fun x => sh (boolS x)) (hg : GlS S "int" := by rfl) (hs : ∀ env, starEach [a] env = [(false, eval a env)] := by intro _; rfl) : JN S (.Call (.Name "int" p) [a] [] pos) Γ (m.bind fun x => some (b2i x)) fun z => sh (intS z) :=
  jn_t1 (f := fun x : Bool => some (b2i x)) (fun X hX => call_int1) (fun W x v z ok hh e Q k => by
    cases e
    cases hh
    exact .inr ⟨_, rfl, k.val ok rfl⟩) hm h hg (by decide +kernel) (by decide) (by decide) hs
def absI (i : Int) : Int := if i < 0 then -i else i
theorem abs_int {m : Option Int} {p : Pos} (hm : S.mg "abs" = none) (h : JN S a Γ m fun x => sh (intS x)) (hg : GlS S "abs" := by rfl) (hs : ∀ env, starEach [a] env = [(false, eval a env)] := by intro _; rfl) : JN S (.Call (.Name "abs" p) [a] [] pos) Γ (m.bind fun x => some (absI x)) fun z => sh (intS z) :=
  jn_b1 (f := fun x : Int => some (absI x)) (fun X hX => call_abs) (fun W x v z ok hh e Q k => by
    cases e
    cases hh
    exact ⟨_, rfl, k.val ok rfl⟩) hm h hg (by decide +kernel) (by decide) (by decide) hs
theorem sum_scr {m : Option (List Int)} {p : Pos} (hm : S.mg "sum" = none) (h : JN S a Γ m fun x => sh (scrS S.K x)) (hg : GlS S "sum" := by rfl) (hs : ∀ env, starEach [a] env = [(false, eval a env)] := by intro _; rfl) (hcm : S.calm = true := by rfl) : JN S (.Call (.Name "sum" p) [a] [] pos) Γ (m.bind fun x => some x.sum) fun z => sh (intS z) :=
  jn_b1 (f := fun x : List Int => some x.sum) (fun X hX => hX.K ▸ cr_sum (hX.calm.trans hcm)) (fun W x v z ok hh e Q k => by
    cases e
    obtain ⟨a, rfl, h2⟩ := hh
    refine ⟨a, x, rfl, ?_, k.val ok rfl⟩
    rcases h2 with (h | ⟨o, h⟩) | h
    · exact .inl (.inl (ok _ _ h))
    · exact .inl (.inr ⟨o, ok _ _ h⟩)
    · exact .inr h) hm h hg (by decide +kernel) (by decide) (by decide) hs
theorem fp_one {W : Wd} {l : Addr} {o : HO} (h : W.B l = none) : FpOk ⟨upd W.H l o, W.B⟩ [l] :=
  ⟨by simp, fun a ha => by
    rw [List.mem_singleton.mp ha]
    show upd W.H l o l ≠ none
    rw [upd_same]
    exact Option.some_ne_none _, fun a ha => by
    rw [List.mem_singleton.mp ha]
    exact h⟩
theorem Got.newL {W : Wd} {Q : VK} {E : α → SP} {xs : List α} {vs : List V} (k : Got (lstO (fun x => sh (E x)) xs) W Q) (ok : Ex W.B W.H) (h : Each E W.B vs xs) : ∀ l, W.H l = none → Q (.ref l) (upd W.H l (.lst vs)) := fun l hl =>
  k (.ref l) ⟨upd W.H l (.lst vs), W.B⟩ [l] (Ext.new ok hl) (fun a ha => by rw [List.mem_singleton.mp ha]; exact hl) (fp_one (ok.back hl)) ⟨l, vs, [], rfl, upd_same, rfl, Owns.of_each h⟩
theorem Got.newT {W : Wd} {Q : VK} {E : α → SP} {xs : List α} {vs : List V} (k : Got (sh (tupS E xs)) W Q) (ok : Ex W.B W.H) (h : Each E W.B vs xs) : ∀ l, W.H l = none → Q (.ref l) (upd W.H l (.tup vs)) := fun l hl =>
  k (.ref l) ⟨upd W.H l (.tup vs), upd W.B l (.tup vs)⟩ [] (Ext.newB ok hl) (by simp) FpOk.nil ⟨rfl, l, vs, rfl, upd_same, h.mono (Ext.newB ok hl).b⟩
theorem list_scr {m : Option (List Int)} {p : Pos} (hm : S.mg "list" = none) (h : JN S a Γ m fun x => sh (scrS S.K x)) (hg : GlS S "list" := by rfl) (hs : ∀ env, starEach [a] env = [(false, eval a env)] := by intro _; rfl) : JN S (.Call (.Name "list" p) [a] [] pos) Γ (m.bind fun x => some x) (lstO fun x => sh (intS x)) :=
  jn_t1 (f := fun x : List Int => some x) (fun X hX => hX.K ▸ call_list_of) (fun W x v z ok hh e Q k => by
    cases e
    obtain ⟨a, rfl, h2⟩ := hh
    have hq : SqL S.K W.H a (x.map V.int) := by
      rcases h2 with (h | ⟨o, h⟩) | h
      · exact .inl (.inl (ok _ _ h))
      · exact .inl (.inr ⟨o, ok _ _ h⟩)
      · exact .inr h
    have hE : Each intS W.B (x.map V.int) x := by
      clear k h2 hq h
      induction x with
      | nil => trivial
      | cons y x ih => exact ⟨rfl, ih⟩
    exact ⟨a, _, rfl, .inl hq, k.newL ok hE⟩) hm h hg (by decide +kernel) (by decide) (by decide) hs
theorem list_lst {E : α → SP} {m : Option (List α)} {p : Pos} (hm : S.mg "list" = none) (h : JN S a Γ m fun x => sh (lstS E x)) (hg : GlS S "list" := by rfl) (hs : ∀ env, starEach [a] env = [(false, eval a env)] := by intro _; rfl) : JN S (.Call (.Name "list" p) [a] [] pos) Γ (m.bind fun x => some x) (lstO fun x => sh (E x)) :=
  jn_t1 (f := fun x : List α => some x) (fun X hX => hX.K ▸ call_list_of) (fun W x v z ok hh e Q k => by
    cases e
    obtain ⟨a, vs, rfl, h2, h3⟩ := hh
    exact ⟨a, _, rfl, .inl (.inl (.inl (ok a _ h2))), k.newL ok h3⟩) hm h hg (by decide +kernel) (by decide) (by decide) hs
theorem list_tup {E : α → SP} {m : Option (List α)} {p : Pos} (hm : S.mg "list" = none) (h : JN S a Γ m fun x => sh (tupS E x)) (hg : GlS S "list" := by rfl) (hs : ∀ env, starEach [a] env = [(false, eval a env)] := by intro _; rfl) : JN S (.Call (.Name "list" p) [a] [] pos) Γ (m.bind fun x => some x) (lstO fun x => sh (E x)) :=
  jn_t1 (f := fun x : List α => some x) (fun X hX => hX.K ▸ call_list_of) (fun W x v z ok hh e Q k => by
    cases e
    obtain ⟨a, vs, rfl, h2, h3⟩ := hh
    exact ⟨a, _, rfl, .inr (.inl (.inl (ok a _ h2))), k.newL ok h3⟩) hm h hg (by decide +kernel) (by decide) (by decide) hs
/-- tuple of a list, fresh or shared -/
theorem tup_lst {E : α → SP} {m : Option (List α)} {p : Pos} (hm : S.mg "tuple" = none) (h : JN S a Γ m fun x => sh (lstS E x)) (hg : GlS S "tuple" := by rfl) (hs : ∀ env, starEach [a] env = [(false, eval a env)] := by intro _; rfl) : JN S (.Call (.Name "tuple" p) [a] [] pos) Γ (m.bind fun x => some x) fun x => sh (tupS E x) :=
  jn_t1 (f := fun x : List α => some x) (fun X hX => hX.K ▸ call_tuple_of) (fun W x v z ok hh e Q k => by
    cases e
    obtain ⟨a, vs, rfl, h2, h3⟩ := hh
    exact ⟨a, vs, rfl, .inl ⟨.inl (.inl (ok a _ h2)), k.newT ok h3⟩⟩) hm h hg (by decide +kernel) (by decide) (by decide) hs
theorem tup_own {E : α → SP} {m : Option (List α)} {p : Pos} (hm : S.mg "tuple" = none) (h : JR S a Γ m (lstO fun x => sh (E x))) (hg : GlS S "tuple" := by rfl) (hs : ∀ env, starEach [a] env = [(false, eval a env)] := by intro _; rfl) : JN S (.Call (.Name "tuple" p) [a] [] pos) Γ (m.bind fun x => some x) fun x => sh (tupS E x) := fun σ W F sta z hz Q kq => by
  obtain ⟨x, h1, h2⟩ := run1 hz
  cases h2
  refine ⟨tCB (fun xs H Q => ∃ p ys, xs = [.ref p] ∧ ((SqL S.K H p ys ∧ ∀ l, H l = none → Q (.ref l) (upd H l (.tup ys))) ∨ (SqT S.K H p ys ∧ Q (.ref p) H))) (tCons (tOf S a) tNil), fun X hX => pe_callTy (hX.K ▸ call_tuple_of) (hg.gl hX) (mgS hm hX) (by decide +kernel) (pa_cons (peO hX) pa_nil (hs _)) (by decide) (by decide) (hs _) rfl, h σ W F sta z h1 _ fun v W' ext ⟨F1, r, al⟩ => ?_⟩
  obtain ⟨p, vs, F2, rfl, q2, rfl, q3⟩ := r
  obtain ⟨_, q4⟩ := q3.each
  exact ⟨p, vs, rfl, .inl ⟨.inl (.inl q2), (kq.ext ext).newT ext.ok q4⟩⟩
/-- list(range(n)), tuple(range(n)) -/
theorem each_rg {B : Hp} (lo hi : Int) : Each intS B (rgV lo hi) ((List.range (hi - lo).toNat).map fun i : Nat => lo + (i : Int)) := by
  unfold rgV
  generalize List.range (hi - lo).toNat = l
  induction l with
  | nil => trivial
  | cons y l ih => exact ⟨rfl, ih⟩
theorem list_rng {m : Option Int} {p p2 pos2 : Pos} (hm : S.mg "list" = none) (hm2 : S.mg "range" = none) (h : JN S a Γ m fun x => sh (intS x)) (hg : GlS S "list" := by rfl) (hg2 : GlS S "range" := by rfl) (hs : ∀ env, starEach [a] env = [(false, eval a env)] := by intro _; rfl)
    (hs2 : ∀ env, starEach [Expr.Call (.Name "range" p2) [a] [] pos2] env = [(false, eval (Expr.Call (.Name "range" p2) [a] [] pos2) env)] := by intro _; rfl) (hcm : S.calm = true := by rfl) :
    JN S (.Call (.Name "list" p) [.Call (.Name "range" p2) [a] [] pos2] [] pos) Γ (m.bind fun n => rng 0 n) (lstO fun x => sh (intS x)) := fun σ W F sta z hz Q kq => by
  obtain ⟨n, h1, h2⟩ := run1 hz
  unfold rng at h2
  split at h2
  · rename_i hb
    cases h2
    refine ⟨tLstRg (tRg1 (tOf S a)), fun X hX => pe_listRg (hX.calm.trans hcm) (hg.gl hX) (mgS hm hX) (prg_1 (hg2.gl hX) (mgS hm2 hX) (peO hX) (hs _)) (hs2 _), h σ W F sta n h1 _ fun v W' Fv ext _ _ r => ?_⟩
    obtain ⟨_, rfl⟩ := r
    have z : (LIM : Int) = 1000000 := rfl
    exact ⟨n, rfl, ⟨by omega, by omega, by omega, by omega, by omega⟩, (kq.ext ext).newL ext.ok (each_rg 0 n)⟩
  · cases h2
theorem tup_rng {m : Option Int} {p p2 pos2 : Pos} (hm : S.mg "tuple" = none) (hm2 : S.mg "range" = none) (h : JN S a Γ m fun x => sh (intS x)) (hg : GlS S "tuple" := by rfl) (hg2 : GlS S "range" := by rfl) (hs : ∀ env, starEach [a] env = [(false, eval a env)] := by intro _; rfl)
    (hs2 : ∀ env, starEach [Expr.Call (.Name "range" p2) [a] [] pos2] env = [(false, eval (Expr.Call (.Name "range" p2) [a] [] pos2) env)] := by intro _; rfl) (hcm : S.calm = true := by rfl) :
    JN S (.Call (.Name "tuple" p) [.Call (.Name "range" p2) [a] [] pos2] [] pos) Γ (m.bind fun n => rng 0 n) (fun x => sh (tupS intS x)) := fun σ W F sta z hz Q kq => by
  obtain ⟨n, h1, h2⟩ := run1 hz
  unfold rng at h2
  split at h2
  · rename_i hb
    cases h2
    refine ⟨tTupRg (tRg1 (tOf S a)), fun X hX => pe_tupRg (hX.calm.trans hcm) (hg.gl hX) (mgS hm hX) (prg_1 (hg2.gl hX) (mgS hm2 hX) (peO hX) (hs _)) (hs2 _), h σ W F sta n h1 _ fun v W' Fv ext _ _ r => ?_⟩
    obtain ⟨_, rfl⟩ := r
    have z : (LIM : Int) = 1000000 := rfl
    exact ⟨n, rfl, ⟨by omega, by omega, by omega, by omega, by omega⟩, (kq.ext ext).newT ext.ok (each_rg 0 n)⟩
  · cases h2
/-- [] and displays of shared things -/
theorem jn_nilL {E : α → SP} : JN S (.List [] pos) Γ (some []) (lstO fun x => sh (E x)) := fun σ W F sta z hz Q kq => by
  cases hz
  exact ⟨tLst tNil, fun _ _ => pe_lst pa_nil, Nat.zero_le _, fun l hl => kq.newL sta.ok (vs := []) trivial l hl⟩
theorem jn_nilLO {E : α → OP} : JN S (.List [] pos) Γ (some []) (lstO E) := fun σ W F sta z hz Q kq => by
  cases hz
  refine ⟨tLst tNil, fun _ _ => pe_lst pa_nil, Nat.zero_le _, fun l hl => ?_⟩
  exact kq (.ref l) ⟨upd W.H l (.lst []), W.B⟩ [l] (Ext.new sta.ok hl) (fun a ha => by rw [List.mem_singleton.mp ha]; exact hl) (fp_one (sta.ok.back hl)) ⟨l, [], [], rfl, upd_same, rfl, rfl⟩
/-- a list of several kinds, all shared -/
theorem HetO.of_hets {W : Wd} : ∀ {vs : List V} {ps : List SP}, Hets W.B vs ps → HetO W vs (ps.map sh) []
  | [], [], _ => rfl
  | _ :: _, _ :: _, h => ⟨[], [], rfl, ⟨rfl, h.1⟩, HetO.of_hets h.2⟩
  | [], _ :: _, h => h.elim
  | _ :: _, [], h => h.elim
theorem jn_het {m : Option α} {R : α → List SP} (h : JA S es Γ m R) (hl : ∀ x, (R x).length ≤ 1000 := by intro _; decide) : JN S (.List es pos) Γ m fun x => hetO ((R x).map sh) := fun σ W F sta x hx Q kk =>
  ⟨tLst (taOf S es), fun X hX => pe_lst (paO hX), h σ W F sta x hx _ fun vs W' e hh => by
    refine ⟨Nat.le_trans (by rw [hh.len]; exact hl x) (by decide), fun q hq => ?_⟩
    exact kk (.ref q) ⟨upd W'.H q (.lst vs), W'.B⟩ [q] (e.trans (Ext.new e.ok hq)) (fun a ha => by rw [List.mem_singleton.mp ha]; exact e.h.back hq) (fp_one (e.ok.back hq))
      ⟨q, vs, [], rfl, upd_same, rfl, HetO.of_hets (W := ⟨upd W'.H q (.lst vs), W'.B⟩) hh⟩⟩
/-- the same, shared at once -/
theorem jn_hetS {m : Option α} {R : α → List SP} (h : JA S es Γ m R) (hl : ∀ x, (R x).length ≤ 1000 := by intro _; decide) : JN S (.List es pos) Γ m fun x => sh (hlstS (R x)) := fun σ W F sta x hx Q kk =>
  ⟨tLst (taOf S es), fun X hX => pe_lst (paO hX), h σ W F sta x hx _ fun vs W' e hh => by
    refine ⟨Nat.le_trans (by rw [hh.len]; exact hl x) (by decide), fun q hq => ?_⟩
    exact kk (.ref q) ⟨upd W'.H q (.lst vs), upd W'.B q (.lst vs)⟩ [] (e.trans (Ext.newB e.ok hq)) (by simp) FpOk.nil ⟨rfl, q, vs, rfl, upd_same, hh.mono (Ext.newB e.ok hq).b⟩⟩
/-- a display of shared things of one kind -/
theorem Hets.each {E : α → SP} {B : Hp} : ∀ {vs : List V} {xs : List α}, Hets B vs (xs.map E) → Each E B vs xs
  | [], [], _ => trivial
  | _ :: _, _ :: _, h => ⟨h.1, Hets.each h.2⟩
  | [], _ :: _, h => h.elim
  | _ :: _, [], h => h.elim
theorem jn_dispL {m : Option α} {E : β → SP} {g : α → List β} {R : α → List SP} (h : JA S es Γ m R) (hR : ∀ x, R x = (g x).map E := by intro _; rfl) (hl : ∀ x, (R x).length ≤ 1000 := by intro _; exact Nat.le_of_ble_eq_true rfl) : JN S (.List es pos) Γ (m.bind fun x => some (g x)) (lstO fun x => sh (E x)) := fun σ W F sta z hz Q kk => by
  obtain ⟨x, h1, h2⟩ := run1 hz
  cases h2
  refine ⟨tLst (taOf S es), fun X hX => pe_lst (paO hX), h σ W F sta x h1 _ fun vs W' e hh => ?_⟩
  refine ⟨Nat.le_trans (by rw [hh.len]; exact hl x) (by decide), fun q hq => ?_⟩
  rw [hR] at hh
  exact (kk.ext e).newL e.ok hh.each q hq
theorem jn_dispT {m : Option α} {E : β → SP} {g : α → List β} {R : α → List SP} {k : Nat} (h : JA S es Γ m R) (hR : ∀ x, R x = (g x).map E := by intro _; rfl) (hl : ∀ x, (R x).length ≤ 1000 := by intro _; exact Nat.le_of_ble_eq_true rfl) : JN S (.Tuple es k pos) Γ (m.bind fun x => some (g x)) fun x => sh (tupS E x) := fun σ W F sta z hz Q kk => by
  obtain ⟨x, h1, h2⟩ := run1 hz
  cases h2
  refine ⟨tTup (taOf S es), fun X hX => pe_tup (paO hX), h σ W F sta x h1 _ fun vs W' e hh => ?_⟩
  refine ⟨Nat.le_trans (by rw [hh.len]; exact hl x) (by decide), fun q hq => ?_⟩
  rw [hR] at hh
  exact (kk.ext e).newT e.ok hh.each q hq
end
end CC
set_option maxHeartbeats 4000000
/-! Items stored; defs; state. -/
namespace CC
open PySem PySem.Spec L2
open PyProof.Rows hiding St
variable {α β γ δ τ ω ρ υ : Type}
/-! ### xs[i] = e -/
def setAt (xs : List α) (i : Int) (x : α) : Option (List α) := (ixN xs.length i).bind fun j => some (xs.set j x)
section
variable {S : Stc} {Γ Δ : Ctx} {a b c e tg iter elt : Expr} {es ifs : List Expr} {pos : Pos} {st : Stmt} {rest A B : List Stmt}
theorem js_setI {x : Str} {p0 tpos : Pos} {E : α → OP} {xs : List α} {mv : Option α} {mi : Option Int} (i : Nat) (h : JN S e Γ mv E) (hb : JN S b Γ mi fun z => sh (intS z)) (hi : Γ[i]? = some (some (lstO E xs)) := by rfl) (hN : S.N[i]? = some x := by rfl) (hv : Vis S.sc x := by first | exact Or.inl rfl | exact Or.inr (Or.inl rfl) | exact Or.inr (Or.inr rfl))
    (hd : (x == ("__debug__" : Str)) = false := by decide) (hcd : (x == ("__classdict__" : Str)) = false := by decide)
    (ha : ∀ env v, assign (.Subscript (.Name x p0) b tpos) env v = (do
      let ov ← holding [v] (eval (.Name x p0) env)
      let iv ← holding [v, ov] (eval b env)
      standAt tpos
      holding [v, ov, iv] (setItem ov iv v)
      release [v, ov, iv] []) := by intro _ _; rfl) (hs : ∀ env, swapsWithSole [.Subscript (.Name x p0) b tpos] e pos.line env = pure false := by intro _; rfl) (hw : ∀ env, swappedStores [.Subscript (.Name x p0) b tpos] e env = pure none := by intro _; rfl)
    (h1 : ∀ env, (assignEach [.Subscript (.Name x p0) b tpos] env).map (·.2) = [assign (.Subscript (.Name x p0) b tpos) env] := by intro _; rfl) :
    JS S (.Assign [.Subscript (.Name x p0) b tpos] e pos) Γ (mv.bind fun v => mi.bind fun k => setAt xs k v) fun ys => .nx (Γ.set i (some (lstO E ys))) := fun σ W F sta z hz Ed kk => by
  obtain ⟨y, k, m1, m2, m3⟩ := run2 hz
  obtain ⟨j, j1, j2⟩ := run1 (f := fun j => some (xs.set j y)) m3
  cases j2
  refine ⟨tAsg (tOf S e) (gSub (tVar i) (tOf S b) rSetL), fun X hX => ps_asg (peO hX) (pg_sub (pe_var (by rw [hX.N]; exact hN) (visS hv hX) hd hcd) (peO hX) set_list (ha _)) (hs _) (hw _) (h1 _), ?_⟩
  refine h σ W F sta y m1 _ fun u W1 Fv ext fr fp r => ?_
  have sta1 := sta.ext ext
  obtain ⟨v, F1, F2, a1, a2, a3, a4⟩ := sta1.hold.at hi
  obtain ⟨p, vs, G2, rfl, b2, rfl, b4⟩ := a2
  refine ⟨.ref p, a1, ?_⟩
  refine hb σ W1 F sta1 k m2 _ fun t W2 _ ext2 _ _ r2 => ?_
  obtain ⟨_, rfl⟩ := r2
  have sta2 := sta1.ext ext2
  obtain ⟨v', F1', F2', c1, c2, c3, c4⟩ := sta2.hold.at hi
  have ev : v' = .ref p := by rw [a1] at c1; exact (Option.some.inj (Option.some.inj c1)).symm
  subst ev
  obtain ⟨p', vs', G2', e1, d2, rfl, d4⟩ := c2
  cases e1
  have hB : W2.B p = none := (sta2.fp.perm c3).fr p (by simp)
  have hx : xs[j]? ≠ none := by
    have := (ixN_seq j1).2.1
    rw [List.getElem?_eq_getElem this]
    exact Option.some_ne_none _
  obtain ⟨y0, hy0⟩ := Option.ne_none_iff_exists'.mp hx
  obtain ⟨w0, K1, K2, k1, k2, k3, k4⟩ := d4.at hy0
  have q : FpOk W2 (F ++ Fv) := (sta.fp.fresh ext fp fr).ext ext2
  have q2 : FpOk W2 (((p :: G2') ++ F2') ++ Fv) := q.perm (List.Perm.append_right Fv c3)
  have fpA : FpOk W2 ((p :: G2') ++ Fv) := by
    refine FpOk.left (F' := F2') (q2.perm ?_)
    rw [List.append_assoc, List.append_assoc]
    exact List.Perm.append_left _ List.perm_append_comm
  have nP : ∀ a ∈ G2' ++ Fv, a ≠ p := fun a ha z => (List.nodup_cons.mp fpA.nd).1 (z ▸ ha)
  have r' : (E y).C ⟨upd W2.H p (.lst (vs'.set j u)), W2.B⟩ u Fv := by
    refine OP.loc _ (OP.ext _ r ext2 fp) (fun _ _ h => h) fun a ha => ?_
    show upd W2.H p _ a = W2.H a
    exact upd_ne (nP a (List.mem_append_right _ ha))
  obtain ⟨G', g1, g2⟩ := k4 ⟨upd W2.H p (.lst (vs'.set j u)), W2.B⟩ y u Fv (fun _ _ h => h) (fun a ha => by
    show upd W2.H p _ a = W2.H a
    exact upd_ne (nP a (List.mem_append_left _ (k3.mem_iff.mpr (List.mem_append_right _ ha))))) r'
  refine ⟨p, vs', k, j, rfl, rfl, d2, by rw [d4.len]; exact j1, ?_⟩
  have fpB : FpOk W2 (p :: G') := by
    refine FpOk.left (F' := K1) (fpA.perm ?_)
    refine List.Perm.cons p ?_
    refine (List.Perm.append_right Fv k3).trans ?_
    refine List.Perm.trans ?_ (List.Perm.append_right K1 g2.symm)
    rw [List.append_assoc]
    refine List.perm_append_comm.trans ?_
    refine List.Perm.append_right K1 ?_
    exact List.perm_append_comm
  obtain ⟨F', s', stp⟩ := sta_own (W' := ⟨upd W2.H p (.lst (vs'.set j u)), W2.B⟩) (F1' := p :: G') (o' := lstO E (xs.set j y)) Fv sta2 q c1 c3 c4 (wr_ok ext2.ok hB) rfl (fun a ha _ => upd_ne fun z => ha (z ▸ List.mem_cons_self)) wr_al
    ⟨fpB.nd, fun a ha => wr_al a (fpB.al a ha), fpB.fr⟩ (fun a ha => by
      rcases List.mem_cons.mp ha with z | z
      · exact .inl (z ▸ List.mem_cons_self)
      · rcases List.mem_append.mp (g2.mem_iff.mp z) with z | z
        · exact .inr (.inl z)
        · exact .inl (List.mem_cons_of_mem _ (k3.mem_iff.mpr (List.mem_append_right _ z)))) ⟨p, vs'.set j u, G', rfl, upd_same, rfl, g1⟩
  have ext02 := ext.trans ext2
  exact kk σ _ F' Keep.refl ((ext02.stp fr).trans stp) s'
/-- xs[i][k] = e, the items of xs lists of one's own with shared items -/
def setAt2 (xss : List (List α)) (i k : Int) (x : α) : Option (List (List α)) := (atI xss i).bind fun xs => (setAt xs k x).bind fun ys => setAt xss i ys
theorem js_setI2 {x : Str} {p0 tpos tp2 : Pos} {E : α → SP} {xss : List (List α)} {mv : Option α} {mi mj : Option Int} (i : Nat) (h : JN S e Γ mv fun x => sh (E x)) (ha0 : JN S a Γ mi fun z => sh (intS z)) (hb : JN S b Γ mj fun z => sh (intS z)) (hi : Γ[i]? = some (some (lstO (fun xs => lstO (fun x => sh (E x)) xs) xss)) := by rfl) (hN : S.N[i]? = some x := by rfl) (hv : Vis S.sc x := by first | exact Or.inl rfl | exact Or.inr (Or.inl rfl) | exact Or.inr (Or.inr rfl))
    (hd : (x == ("__debug__" : Str)) = false := by decide) (hcd : (x == ("__classdict__" : Str)) = false := by decide) (hpl : PlainIx a := by exact fun _ _ => rfl)
    (ha : ∀ env v, assign (.Subscript (.Subscript (.Name x p0) a tp2) b tpos) env v = (do
      let ov ← holding [v] (eval (.Subscript (.Name x p0) a tp2) env)
      let iv ← holding [v, ov] (eval b env)
      standAt tpos
      holding [v, ov, iv] (setItem ov iv v)
      release [v, ov, iv] []) := by intro _ _; rfl) (hs : ∀ env, swapsWithSole [.Subscript (.Subscript (.Name x p0) a tp2) b tpos] e pos.line env = pure false := by intro _; rfl) (hw : ∀ env, swappedStores [.Subscript (.Subscript (.Name x p0) a tp2) b tpos] e env = pure none := by intro _; rfl)
    (h1 : ∀ env, (assignEach [.Subscript (.Subscript (.Name x p0) a tp2) b tpos] env).map (·.2) = [assign (.Subscript (.Subscript (.Name x p0) a tp2) b tpos) env] := by intro _; rfl) :
    JS S (.Assign [.Subscript (.Subscript (.Name x p0) a tp2) b tpos] e pos) Γ (mv.bind fun v => mi.bind fun k => mj.bind fun l => setAt2 xss k l v) fun ys => .nx (Γ.set i (some (lstO (fun xs => lstO (fun x => sh (E x)) xs) ys))) := fun σ W F sta z hz Ed kk => by
  obtain ⟨y, m1, m2⟩ := run1 hz
  obtain ⟨k, m3, m4⟩ := run1 (f := fun k => mj.bind fun l => setAt2 xss k l y) m2
  obtain ⟨l, m5, m6⟩ := run1 (f := fun l => setAt2 xss k l y) m4
  obtain ⟨xs, n1, n2⟩ := run1 (f := fun xs => (setAt xs l y).bind fun ys => setAt xss k ys) m6
  obtain ⟨ys, n3, n4⟩ := run1 (f := fun ys => setAt xss k ys) n2
  obtain ⟨jl, o1, o2⟩ := run1 (f := fun j => some (xs.set j y)) n3
  cases o2
  obtain ⟨jk, o3, o4⟩ := run1 (f := fun j => some (xss.set j (xs.set jl y))) n4
  cases o4
  have hxs : xss[jk]? = some xs := by
    unfold atI at n1
    rw [o3] at n1
    exact n1
  refine ⟨tAsg (tOf S e) (gSub (tOp (rIxL S.K) (tVar i) (tOf S a)) (tOf S b) rSetL), fun X hX => ps_asg (peO hX) (pg_sub (pe_ix (oIxL X hX) (pe_var (by rw [hX.N]; exact hN) (visS hv hX) hd hcd) (peO hX) hpl) (peO hX) set_list (ha _)) (hs _) (hw _) (h1 _), ?_⟩
  refine h σ W F sta y m1 _ fun u W1 Fv ext fr fp r => ?_
  obtain ⟨rfl, r⟩ := r
  have sta1 := sta.ext ext
  obtain ⟨v, F1, F2, a1, a2, a3, a4⟩ := sta1.hold.at hi
  obtain ⟨p, vs, G2, rfl, b2, rfl, b4⟩ := a2
  refine ⟨.ref p, a1, ?_⟩
  refine ha0 σ W1 F sta1 k m3 _ fun t W2 _ ext2 _ _ r2 => ?_
  obtain ⟨_, rfl⟩ := r2
  have sta2 := sta1.ext ext2
  obtain ⟨v', F1', F2', c1, c2, c3, c4⟩ := sta2.hold.at hi
  have ev : v' = .ref p := by rw [a1] at c1; exact (Option.some.inj (Option.some.inj c1)).symm
  subst ev
  obtain ⟨p', vs', G2', e1, d2, rfl, d4⟩ := c2
  cases e1
  obtain ⟨w0, K1, K2, k1, k2, k3, k4⟩ := d4.at hxs
  obtain ⟨p2, us, K3, rfl, l2, rfl, l4⟩ := k2
  refine ⟨p, vs', k, .ref p2, rfl, rfl, .inl (.inl d2), by unfold atI; rw [d4.len, o3]; exact k1, ?_⟩
  refine hb σ W2 F sta2 l m5 _ fun t W3 _ ext3 _ _ r3 => ?_
  obtain ⟨_, rfl⟩ := r3
  have sta3 := sta2.ext ext3
  -- the same facts, one world on
  obtain ⟨v', F1', F2', c1', c2', c3', c4'⟩ := sta3.hold.at hi
  have ev : v' = .ref p := by rw [a1] at c1'; exact (Option.some.inj (Option.some.inj c1')).symm
  subst ev
  obtain ⟨p', vs'', G3, e1, d2', rfl, d4'⟩ := c2'
  cases e1
  have evs : vs'' = vs' := by
    rw [ext3.h p _ d2] at d2'
    cases d2'
    rfl
  subst evs
  obtain ⟨w0, K1', K2', k1', k2', k3', k4'⟩ := d4'.at hxs
  rw [k1] at k1'
  cases k1'
  obtain ⟨p2', us', K3', e2, l2', rfl, l4'⟩ := k2'
  cases e2
  obtain ⟨rfl, l5⟩ := l4'.each
  have fpA := (sta3.fp.perm c3').left
  have hB : W3.B p2 = none := fpA.fr p2 (List.mem_cons_of_mem _ (k3'.mem_iff.mpr (by simp)))
  have hne : p ≠ p2 := fun z => (List.nodup_cons.mp fpA.nd).1 (z ▸ k3'.mem_iff.mpr (by simp))
  have hK : ∀ a ∈ K2', a ≠ p2 := fun a ha z => by
    have nd := (k3'.nodup_iff.mp (List.nodup_cons.mp fpA.nd).2)
    exact (List.nodup_cons.mp nd).1 (z ▸ ha)
  refine ⟨p2, us', l, jl, rfl, rfl, l2', by rw [l5.len]; exact o1, ?_⟩
  have rN : (lstO (fun x => sh (E x)) (xs.set jl y)).C ⟨upd W3.H p2 (.lst (us'.set jl u)), W3.B⟩ (.ref p2) [p2] :=
    ⟨p2, _, [], rfl, upd_same, rfl, Owns.of_each (l5.set (SP.mono _ r (ext2.b.trans ext3.b)) jl)⟩
  obtain ⟨G', g1, g2⟩ := k4' ⟨upd W3.H p2 (.lst (us'.set jl u)), W3.B⟩ (xs.set jl y) (.ref p2) [p2] (fun _ _ h => h) (fun a ha => upd_ne (hK a ha)) rN
  have hset : vs''.set jk (.ref p2) = vs'' := by
    refine List.ext_getElem? fun n => ?_
    by_cases z : jk = n
    · subst z
      rw [k1, List.getElem?_set_self (List.getElem?_eq_some_iff.mp k1).1]
    · rw [List.getElem?_set_ne z]
  rw [hset] at g1
  have pG : (p :: G').Perm (p :: G3) := List.Perm.cons p (g2.trans k3'.symm)
  have fpB := fpA.perm pG.symm
  obtain ⟨F', s', stp⟩ := sta_own (W' := ⟨upd W3.H p2 (.lst (us'.set jl u)), W3.B⟩) (F1' := p :: G') (o' := lstO (fun xs => lstO (fun x => sh (E x)) xs) (xss.set jk (xs.set jl y))) [] sta3 (by rw [List.append_nil]; exact sta3.fp) c1' c3' c4' (wr_ok ext3.ok hB) rfl
    (fun a ha _ => upd_ne fun z => ha (z ▸ List.mem_cons_of_mem _ (k3'.mem_iff.mpr (by simp)))) wr_al ⟨fpB.nd, fun a ha => wr_al a (fpB.al a ha), fpB.fr⟩ (fun a ha => .inl (pG.mem_iff.mp ha)) ⟨p, vs'', G', rfl, (upd_ne hne).trans d2', rfl, g1⟩
  rw [List.append_nil] at stp
  have ext03 := (ext.trans ext2).trans ext3
  have stpE : Stp W F W3 F := by have := ext03.stp (F := F) (Fv := []) (by simp); rwa [List.append_nil] at this
  exact kk σ _ F' Keep.refl (stpE.trans stp) s'
/-- xs[k] = e at a written place of a list of several kinds -/
theorem js_setH {x : Str} {p0 tpos : Pos} {ps : List OP} {E : α → SP} {o : OP} {mv : Option α} {j : Int} {kk p'} (i k : Nat) (h : JN S e Γ mv fun x => sh (E x)) (hi : Γ[i]? = some (some (hetO ps)) := by rfl) (hk : ps[k]? = some o := by rfl) (hj : j = (k : Int) := by rfl) (hN : S.N[i]? = some x := by rfl) (hv : Vis S.sc x := by first | exact Or.inl rfl | exact Or.inr (Or.inl rfl) | exact Or.inr (Or.inr rfl))
    (hd : (x == ("__debug__" : Str)) = false := by decide) (hcd : (x == ("__classdict__" : Str)) = false := by decide)
    (ha : ∀ env v, assign (.Subscript (.Name x p0) (.Constant (.int j) kk p') tpos) env v = (do
      let ov ← holding [v] (eval (.Name x p0) env)
      let iv ← holding [v, ov] (eval (.Constant (.int j) kk p') env)
      standAt tpos
      holding [v, ov, iv] (setItem ov iv v)
      release [v, ov, iv] []) := by intro _ _; rfl) (hs : ∀ env, swapsWithSole [.Subscript (.Name x p0) (.Constant (.int j) kk p') tpos] e pos.line env = pure false := by intro _; rfl) (hw : ∀ env, swappedStores [.Subscript (.Name x p0) (.Constant (.int j) kk p') tpos] e env = pure none := by intro _; rfl)
    (h1 : ∀ env, (assignEach [.Subscript (.Name x p0) (.Constant (.int j) kk p') tpos] env).map (·.2) = [assign (.Subscript (.Name x p0) (.Constant (.int j) kk p') tpos) env] := by intro _; rfl) :
    JS S (.Assign [.Subscript (.Name x p0) (.Constant (.int j) kk p') tpos] e pos) Γ mv fun y => .nx (Γ.set i (some (hetO (ps.set k (sh (E y)))))) := fun σ W F sta y m1 Ed kq => by
  refine ⟨tAsg (tOf S e) (gSub (tVar i) (tC (.int j)) rSetL), fun X hX => ps_asg (peO hX) (pg_sub (pe_var (by rw [hX.N]; exact hN) (visS hv hX) hd hcd) pe_int set_list (ha _)) (hs _) (hw _) (h1 _), ?_⟩
  refine h σ W F sta y m1 _ fun u W1 Fv ext fr fp r => ?_
  obtain ⟨rfl, r⟩ := r
  have sta1 := sta.ext ext
  obtain ⟨v, F1, F2, a1, a2, a3, a4⟩ := sta1.hold.at hi
  obtain ⟨p, vs, G2, rfl, b2, rfl, b4⟩ := a2
  have hB : W1.B p = none := (sta1.fp.perm a3).fr p (by simp)
  obtain ⟨w0, K1, K2, k1, k2, k3, k4⟩ := b4.at hk
  have fpA := (sta1.fp.perm a3).left
  have nP : ∀ a ∈ G2, a ≠ p := fun a ha z => (List.nodup_cons.mp fpA.nd).1 (z ▸ ha)
  obtain ⟨G', g1, g2⟩ := k4 ⟨upd W1.H p (.lst (vs.set k u)), W1.B⟩ (sh (E y)) u [] (fun _ _ h => h) (fun a ha => upd_ne (nP a (k3.mem_iff.mpr (List.mem_append_right _ ha)))) ⟨rfl, r⟩
  have sub : ∀ a ∈ p :: G', a ∈ p :: G2 := fun a ha => by
    rcases List.mem_cons.mp ha with z | z
    · exact z ▸ List.mem_cons_self
    · exact List.mem_cons_of_mem _ (k3.mem_iff.mpr (List.mem_append_right _ (by simpa using g2.mem_iff.mp z)))
  have fpB : FpOk W1 (p :: G') := by
    refine FpOk.left (F' := K1) (fpA.perm ?_)
    refine List.Perm.cons p ?_
    refine k3.trans (List.perm_append_comm.trans (List.Perm.append_right K1 ?_))
    simpa using g2.symm
  refine ⟨.ref p, a1, p, vs, j, k, rfl, rfl, b2, ?_, ?_⟩
  · rw [hj]
    have : k < vs.length := (List.getElem?_eq_some_iff.mp k1).1
    unfold ixN
    rw [if_pos (by omega), if_pos (by omega)]
    simp
  · obtain ⟨F', s', stp⟩ := sta_own (W' := ⟨upd W1.H p (.lst (vs.set k u)), W1.B⟩) (F1' := p :: G') (o' := hetO (ps.set k (sh (E y)))) [] sta1 (by rw [List.append_nil]; exact sta1.fp) a1 a3 a4 (wr_ok ext.ok hB) rfl (fun a ha _ => upd_ne fun z => ha (z ▸ List.mem_cons_self)) wr_al
      ⟨fpB.nd, fun a ha => wr_al a (fpB.al a ha), fpB.fr⟩ (fun a ha => .inl (sub a ha)) ⟨p, vs.set k u, G', rfl, upd_same, rfl, g1⟩
    rw [List.append_nil] at stp
    have stpE : Stp W F W1 F := by have := ext.stp (F := F) (Fv := []) (by simp); rwa [List.append_nil] at this
    exact kq σ _ F' Keep.refl (stpE.trans stp) s'
/-! ### defs -/
end
abbrev stcOf (P : Program) (w : World) (K : PySem.W.Frag) (mg : Str → Option Value) (base : Heap) (N : List Str) (sc : Scope) (k : Nat) (prot : List Nat) : Stc := { P := P, w := w, K := K, mg := mg, base := base, N := N, sc := sc, k := k, fn := fun _ => true, prot := prot }
def shC (ps : List SP) : Ctx := ps.map fun p => some (sh p)
def nonC (n : Nat) : Ctx := List.replicate n none
theorem holds_non {W : Wd} : ∀ (n : Nat) (σ : L2.St), Holds (nonC n) σ W []
  | 0, _ => rfl
  | n + 1, σ => holds_non n σ.tail
theorem holds_sh {W : Wd} {n : Nat} : ∀ {vs : List V} {ps : List SP} {r : L2.St}, Hets W.B vs ps → Holds (shC ps ++ nonC n) (vs.map some ++ r) W []
  | [], [], r, _ => holds_non n r
  | v :: vs, p :: ps, r, h => ⟨v, [], [], rfl, rfl, ⟨rfl, h.1⟩, holds_sh (n := n) h.2⟩
  | [], _ :: _, _, h => h.elim
  | _ :: _, [], _, h => h.elim
section
variable {P : Program} {w : World} {K : PySem.W.Frag} {mg : Str → Option Value} {base : Heap}
theorem in_cx {N : List Str} {st : Stmt} {k : Nat} {prot : List Nat} {qual : Str} {f : Addr} {cdv : Value} {A : Around} {outer : List Env} {s : Shared} {H : Hp} {E : XK} (hr : Room k (A.deeper (envOfC qual (defScope st) s.heap.objs.size f cdv))) :
    (stcOf P w K mg base N (defScope st) k prot).In (cxOf CX0 P w K mg base N qual (defScope st) f cdv A outer s H E).nox := ⟨rfl, rfl, rfl, rfl, rfl, rfl, rfl, rfl, rfl, fun _ => hr, hr.units, PassesOwn.never, takes_none, fun _ => ⟨rfl, rfl⟩, nofun⟩
theorem fn_pure {x qual : Str} {st : Stmt} {f : Addr} {fd : FuncData} {N ps : List Str} {k : Nat} {G : α → List SP} {fM : α → Option ρ} {R : ρ → OP} {Δ : Ctx} (F : Fun K x qual st f fd) (Sc : FnScope N ps (defScope st)) (hG : ∀ a, (G a).length = ps.length) (hn : ps.length ≤ N.length)
    (body : ∀ a, JB (stcOf P w K mg base N (defScope st) k []) (defBody st) (shC (G a) ++ nonC (N.length - ps.length)) (fM a) fun r => .rt Δ (R r)) : FnOk P w K mg base CX0 (k + 1) f fd ps (spP G fM R) := by
  refine F.ok Sc (fun vs H Q E h => ?_) (fun cdv A outer s H vs Q E hr h => ?_)
  · obtain ⟨a, W, r, _, _, h3, _⟩ := h
    rw [h3.len, hG]
  · obtain ⟨a, W, r, rfl, ok, h3, h4, kq⟩ := h
    refine ⟨tbOf (stcOf P w K mg base N (defScope st) k []) (defBody st), pbO (in_cx hr), ?_⟩
    have hl : vs.length = ps.length := h3.len.trans (hG a)
    have sta : Sta (shC (G a) ++ nonC (N.length - ps.length)) (L2.start N vs) W [] := ⟨ok, FpOk.nil, by unfold L2.start shC nonC; simp [h3.len, hG, hl], by unfold L2.start; rw [hl]; exact holds_sh h3⟩
    exact body a _ W [] sta r h4 _ fun v σ' W' F' Fv _ stp _ fp rr => by
      obtain ⟨ext, fr⟩ := stp.ext
      exact kq v W' Fv ext (fun a ha => fr a (List.mem_append_right _ ha)) fp.right rr
theorem fn_state {x qual : Str} {st : Stmt} {f : Addr} {fd : FuncData} {N ps : List Str} {k : Nat} {O : τ → OP} {G : α → List SP} {fM : α → τ → Option (ρ × τ)} {R : ρ → OP} (F : Fun K x qual st f fd) (Sc : FnScope N ps (defScope st)) (hG : ∀ a, (G a).length + 1 = ps.length) (hn : ps.length ≤ N.length)
    (body : ∀ a s, JB (stcOf P w K mg base N (defScope st) k [0]) (defBody st) (some (O s) :: (shC (G a) ++ nonC (N.length - ps.length))) (fM a s) fun r => .rt (some (O r.2) :: nonC (N.length - 1)) (R r.1)) : FnOk P w K mg base CX0 (k + 1) f fd ps (spS O G fM R) := by
  refine F.ok Sc (fun vs H Q E h => ?_) (fun cdv A outer s H vs Q E hr h => ?_)
  · obtain ⟨a, s, W, F, v0, vr, r, rfl, _, _, _, _, h3, _⟩ := h
    rw [List.length_cons, h3.len, hG]
  · obtain ⟨a, s0, W, Fp, v0, vr, r, rfl, rfl, ok, fp0, h0, h3, h4, kq⟩ := h
    refine ⟨tbOf (stcOf P w K mg base N (defScope st) k [0]) (defBody st), pbO (in_cx hr), ?_⟩
    have hl : (v0 :: vr).length = ps.length := by rw [List.length_cons, h3.len]; exact hG a
    have sta : Sta (some (O s0) :: (shC (G a) ++ nonC (N.length - ps.length))) (L2.start N (v0 :: vr)) W Fp := ⟨ok, fp0, by
      unfold L2.start shC nonC
      have := hG a
      simp [h3.len]
      omega, ⟨v0, Fp, [], rfl, (List.append_nil _).symm, h0, by
      unfold L2.start
      rw [hl]
      exact holds_sh h3⟩⟩
    refine body a s0 _ W Fp sta r h4 _ fun v σ' W' F' Fv kp stp sa fp rr => ?_
    obtain ⟨u, F1, F2, b1, b2, b3, b4⟩ := sa.hold
    have e0 : σ'[0]? = some (some v0) := (kp 0 (by simp)).trans rfl
    have eu : u = v0 := by
      rw [List.head?_eq_getElem?] at b1
      rw [e0] at b1
      exact (Option.some.inj (Option.some.inj b1)).symm
    subst eu
    have eF : F2 = [] := by
      have : ∀ (n : Nat) (σ : L2.St) (F : List Addr), Holds (nonC n) σ W' F → F = [] := by
        intro n
        induction n with
        | zero => intro σ F h; exact h
        | succ n ih => intro σ F h; exact ih σ.tail F h
      exact this _ _ _ b4
    subst eF
    rw [List.append_nil] at b2
    subst b2
    exact kq v W' F' Fv stp fp b3 rr
end
end CC
set_option maxHeartbeats 4000000
/-! Expressions that change what is owned. -/
namespace CC
open PySem PySem.Spec L2
open PyProof.Rows hiding St
variable {α β γ δ τ ω ρ υ : Type}
def JEA (S : Stc) (es : List Expr) (Γ : τ → Ctx) (s : τ) (m : Option (α × τ)) (G : α → List SP) : Prop :=
  ∀ σ W F, Sta (Γ s) σ W F → ∀ x, m = some x → ∀ Q : List V → Hp → Prop, (∀ vs W' F', Stp W F W' F' → Sta (Γ x.2) σ W' F' → Hets W'.B vs (G x.1) → Q vs W'.H) → taOf S es σ W.H Q
def JTE (S : Stc) (e : Expr) (Γ : τ → Ctx) (s : τ) (m : Option (Bool × τ)) : Prop :=
  ∀ σ W F, Sta (Γ s) σ W F → ∀ x, m = some x → ∀ Q : Bool → Hp → Prop, (∀ W' F', Stp W F W' F' → Sta (Γ x.2) σ W' F' → Q x.1 W'.H) → ttOf S e σ W.H Q
def JWE (S : Stc) (e : Expr) (Γ : τ → Ctx) (s : τ) (m : Option (Bool × τ)) : Prop :=
  ∀ σ W F, Sta (Γ s) σ W F → ∀ x, m = some x → ∀ Q : Bool → Hp → Prop, (∀ W' F', Stp W F W' F' → Sta (Γ x.2) σ W' F' → Q x.1 W'.H) → twOf S e σ W.H Q
def JIE (S : Stc) (tg iter : Expr) (Γ : τ → Ctx) (s : τ) (m : Option (List α × τ)) (E : α → SP) : Prop :=
  ∀ σ W F, Sta (Γ s) σ W F → ∀ x, m = some x → ∀ R : It → Hp → Prop, (∀ J W' F', Stp W F W' F' → Sta (Γ x.2) σ W' F' → ItOk J (fun W1 => Ex W1.B W1.H ∧ Ex W'.B W1.B) x.1 E → R J W'.H) → tiOf S tg iter σ W.H R
theorem Ext.stp0 {W W' : Wd} {F : List Addr} (e : Ext W W') : Stp W F W' F := by
  have := e.stp (F := F) (Fv := []) (by simp)
  rwa [List.append_nil] at this
section
variable {S : Stc} {Γ : τ → Ctx} {s : τ} {a b c e tg iter elt : Expr} {es ifs : List Expr} {pos : Pos} {st : Stmt} {rest A B : List Stmt}
theorem je_of {m : Option α} {R : α → OP} (h : JN S e (Γ s) m R) : JE S e Γ s (m.bind fun x => some (x, s)) R := fun σ W F sta z hz Q k => by
  obtain ⟨x, h1, h2⟩ := run1 hz
  cases h2
  exact h σ W F sta x h1 Q fun v W' Fv ext fr fp r => k v W' F Fv (ext.stp fr) (sta.ext ext) (sta.fp.fresh ext fp fr) r
theorem jte_of {m : Option Bool} (h : JT S e (Γ s) m) : JTE S e Γ s (m.bind fun x => some (x, s)) := fun σ W F sta z hz Q k => by
  obtain ⟨x, h1, h2⟩ := run1 hz
  cases h2
  exact h σ W F sta x h1 Q fun W' ext => k W' F ext.stp0 (sta.ext ext)
theorem jea_of {m : Option α} {G : α → List SP} (h : JA S es (Γ s) m G) : JEA S es Γ s (m.bind fun x => some (x, s)) G := fun σ W F sta z hz Q k => by
  obtain ⟨x, h1, h2⟩ := run1 hz
  cases h2
  exact h σ W F sta x h1 Q fun vs W' ext hh => k vs W' F ext.stp0 (sta.ext ext) hh
theorem jie_of {m : Option (List α)} {E : α → SP} (h : JI S tg iter (Γ s) m E) : JIE S tg iter Γ s (m.bind fun x => some (x, s)) E := fun σ W F sta z hz R k => by
  obtain ⟨x, h1, h2⟩ := run1 hz
  cases h2
  exact h σ W F sta x h1 R fun J W' ext ok => k J W' F ext.stp0 (sta.ext ext) ok
/-- a shared value behind a step: its footprint is nothing -/
theorem JE.sh {m : Option (α × τ)} {E : α → SP} (h : JE S e Γ s m fun x => CC.sh (E x)) {σ : L2.St} {W : Wd} {F : List Addr} (sta : Sta (Γ s) σ W F) {x : α × τ} (hx : m = some x) {Q : VK}
    (k : ∀ v W' F', Stp W F W' F' → Sta (Γ x.2) σ W' F' → (E x.1).P W'.B v → Q v W'.H) : tOf S e σ W.H Q :=
  h σ W F sta x hx Q fun v W' F' Fv stp sa fp r => by
    obtain ⟨rfl, r⟩ := r
    rw [List.append_nil] at stp
    exact k v W' F' stp sa r
theorem JE.of_sh {m : Option (α × τ)} {E : α → SP} (h : ∀ σ W F, Sta (Γ s) σ W F → ∀ x, m = some x → ∀ Q : VK, (∀ v W' F', Stp W F W' F' → Sta (Γ x.2) σ W' F' → (E x.1).P W'.B v → Q v W'.H) → tOf S e σ W.H Q) : JE S e Γ s m fun x => CC.sh (E x) :=
  fun σ W F sta x hx Q k => h σ W F sta x hx Q fun v W' F' stp sa r => k v W' F' [] (by rw [List.append_nil]; exact stp) sa (by rw [List.append_nil]; exact sa.fp) ⟨rfl, r⟩
theorem jea_nil : JEA S [] Γ s (some ((), s)) fun _ => [] := fun σ W F sta x hx Q k => by
  cases hx
  exact ⟨tNil, fun _ _ => pa_nil, k [] W F (Stp.refl sta.ok) sta trivial⟩
theorem jea_cons {ma : Option (α × τ)} {mb : τ → Option (β × τ)} {E : α → SP} {G : β → List SP} (ha : JE S e Γ s ma fun x => sh (E x)) (hb : ∀ s1, JEA S es Γ s1 (mb s1) G) (hs : ∀ env, starEach (e :: es) env = (false, eval e env) :: starEach es env := by intro _; rfl) :
    JEA S (e :: es) Γ s (ma.bind fun p => (mb p.2).bind fun q => some ((p.1, q.1), q.2)) fun z => E z.1 :: G z.2 := fun σ W F sta z hz Q k => by
  obtain ⟨p, h1, h2⟩ := run1 hz
  obtain ⟨q, h3, h4⟩ := run1 (f := fun q : β × τ => some ((p.1, q.1), q.2)) h2
  cases h4
  refine ⟨tCons (tOf S e) (taOf S es), fun X hX => pa_cons (peO hX) (paO hX) (hs _), ?_⟩
  refine ha.sh sta h1 fun v W1 F1 stp1 sa1 r1 => ?_
  exact hb p.2 σ W1 F1 sa1 q h3 _ fun vs W2 F2 stp2 sa2 hh => k (v :: vs) W2 F2 (stp1.trans stp2) sa2 ⟨SP.mono _ r1 stp2.b, hh⟩
/-- operators -/
theorem tOp_runE {r : R2} {E : α → SP} {G : β → SP} {f : α → β → Option γ} {R : γ → OP} {ma : Option (α × τ)} {mb : τ → Option (β × τ)} (ha : JE S a Γ s ma fun x => sh (E x)) (hb : ∀ s1, JE S b Γ s1 (mb s1) fun y => sh (G y)) (hr : OpV r E G f R)
    {σ : L2.St} {W : Wd} {F : List Addr} (sta : Sta (Γ s) σ W F) {z : γ × τ} (hz : (ma.bind fun p => (mb p.2).bind fun q => (f p.1 q.1).bind fun z => some (z, q.2)) = some z) {Q : VK}
    (k : ∀ v W' F' Fv, Stp W F W' (F' ++ Fv) → Sta (Γ z.2) σ W' F' → FpOk W' (F' ++ Fv) → (R z.1).C W' v Fv → Q v W'.H) : tOp r (tOf S a) (tOf S b) σ W.H Q := by
  obtain ⟨p, h1, h2⟩ := run1 hz
  obtain ⟨q, h3, h4⟩ := run1 (f := fun q : β × τ => (f p.1 q.1).bind fun z => some (z, q.2)) h2
  obtain ⟨y, h5, h6⟩ := run1 (f := fun z : γ => some (z, q.2)) h4
  cases h6
  refine ha.sh sta h1 fun v W1 F1 stp1 sa1 r1 => ?_
  refine (hb p.2).sh sa1 h3 fun u W2 F2 stp2 sa2 r2 => ?_
  refine hr W2 p.1 q.1 v u y sa2.ok (SP.mono _ r1 stp2.b) r2 h5 Q fun t W3 Fv ext fr fp rr => ?_
  exact k t W3 F2 Fv ((stp1.trans stp2).trans (ext.stp fr)) (sa2.ext ext) (sa2.fp.fresh ext fp fr) rr
theorem je_bin {op : Operator} {r : R2} {E : α → SP} {G : β → SP} {f : α → β → Option γ} {R : γ → OP} {ma : Option (α × τ)} {mb : τ → Option (β × τ)} (ho : ∀ X, S.In X → OpR X (binaryOp op) r) (hr : OpV r E G f R)
    (ha : JE S a Γ s ma fun x => sh (E x)) (hb : ∀ s1, JE S b Γ s1 (mb s1) fun y => sh (G y)) : JE S (.BinOp a op b pos) Γ s (ma.bind fun p => (mb p.2).bind fun q => (f p.1 q.1).bind fun z => some (z, q.2)) R := fun σ W F sta z hz Q k =>
  ⟨tOp r (tOf S a) (tOf S b), fun X hX => pe_op (ho X hX) (peO hX) (peO hX), tOp_runE ha hb hr sta hz k⟩
theorem je_cmp {op : CmpOp} {r : R2} {E : α → SP} {G : β → SP} {f : α → β → Option γ} {R : γ → OP} {ma : Option (α × τ)} {mb : τ → Option (β × τ)} (ho : ∀ X, S.In X → OpR X (compareOp op) r) (hr : OpV r E G f R)
    (ha : JE S a Γ s ma fun x => sh (E x)) (hb : ∀ s1, JE S b Γ s1 (mb s1) fun y => sh (G y)) (hm : behindInMarks op b = false := by first | exact nomark _ | rfl) : JE S (.Compare a [op] [b] pos) Γ s (ma.bind fun p => (mb p.2).bind fun q => (f p.1 q.1).bind fun z => some (z, q.2)) R := fun σ W F sta z hz Q k =>
  ⟨tOp r (tOf S a) (tOf S b), fun X hX => pe_cmpR (ho X hX) (peO hX) (peO hX) hm, tOp_runE ha hb hr sta hz k⟩
theorem jte_cmp {op : CmpOp} {r : R2} {E : α → SP} {G : β → SP} {f : α → β → Option Bool} {ma : Option (α × τ)} {mb : τ → Option (β × τ)} (ho : ∀ X, S.In X → OpR X (compareOp op) r) (hr : OpV r E G f fun z => sh (boolS z))
    (ha : JE S a Γ s ma fun x => sh (E x)) (hb : ∀ s1, JE S b Γ s1 (mb s1) fun y => sh (G y)) (hm : behindInMarks op b = false := by first | exact nomark _ | rfl) : JTE S (.Compare a [op] [b] pos) Γ s (ma.bind fun p => (mb p.2).bind fun q => (f p.1 q.1).bind fun z => some (z, q.2)) := fun σ W F sta z hz Q k =>
  ⟨tTest (tOp r (tOf S a) (tOf S b)), fun X hX => pt_cmpR (ho X hX) (peO hX) (peO hX) hm, tOp_runE ha hb hr sta hz fun v W' F' Fv stp sa fp rr => by
    obtain ⟨rfl, h⟩ := rr
    rw [List.append_nil] at stp
    exact ⟨z.1, h, k W' F' stp sa⟩⟩
theorem jte_val {m : Option (Bool × τ)} (h : JE S e Γ s m fun z => sh (boolS z)) (he : ∀ env whole, isTrue e env whole = (do let v ← whole; standAt e.pos; holding [v] (truthy v)) := by intro _ _; rfl) : JTE S e Γ s m := fun σ W F sta z hz Q k =>
  ⟨tB (tOf S e), fun X hX => pt_val (peO hX) (he _), h.sh sta hz fun v W' F' stp sa r => ⟨z.1, r, k W' F' stp sa⟩⟩
theorem jte_not {m : Option (Bool × τ)} (h : JTE S e Γ s m) : JTE S (.UnaryOp .Not e pos) Γ s (m.bind fun x => some (!x.1, x.2)) := fun σ W F sta z hz Q k => by
  obtain ⟨x, h1, h2⟩ := run1 hz
  cases h2
  exact ⟨tNot (ttOf S e), fun X hX => pt_not (ptO hX), h σ W F sta x h1 _ fun W' F' stp sa => k W' F' stp sa⟩
theorem jwe_and1 {m : Option (Bool × τ)} (h : JTE S a Γ s m) : JWE S (.BoolOp .And [a] pos) Γ s m := fun σ W F sta z hz Q k => ⟨ttOf S a, fun X hX => pw_and1 (ptO hX), h σ W F sta z hz _ k⟩
theorem jwe_or1 {m : Option (Bool × τ)} (h : JTE S a Γ s m) : JWE S (.BoolOp .Or [a] pos) Γ s m := fun σ W F sta z hz Q k => ⟨ttOf S a, fun X hX => pw_or1 (ptO hX), h σ W F sta z hz _ k⟩
theorem jwe_and {ma : Option (Bool × τ)} {mb : τ → Option (Bool × τ)} (ha : JTE S a Γ s ma) (hb : ∀ s1, JWE S (.BoolOp .And (b :: es) pos) Γ s1 (mb s1)) : JWE S (.BoolOp .And (a :: b :: es) pos) Γ s (ma.bind fun p => bif p.1 then mb p.2 else some (false, p.2)) := fun σ W F sta z hz Q k => by
  obtain ⟨x, h1, h2⟩ := run1 hz
  refine ⟨tAnd (ttOf S a) (twOf S (.BoolOp .And (b :: es) pos)), fun X hX => pw_and (ptO hX) (pwO hX), ha σ W F sta x h1 _ fun W' F' stp sa => ?_⟩
  obtain ⟨x1, x2⟩ := x
  cases x1 with
  | true => exact iteT (hb x2 σ W' F' sa z h2 Q fun W2 F2 stp2 sa2 => k W2 F2 (stp.trans stp2) sa2)
  | false =>
    cases h2
    exact iteF (k W' F' stp sa)
theorem jwe_or {ma : Option (Bool × τ)} {mb : τ → Option (Bool × τ)} (ha : JTE S a Γ s ma) (hb : ∀ s1, JWE S (.BoolOp .Or (b :: es) pos) Γ s1 (mb s1)) : JWE S (.BoolOp .Or (a :: b :: es) pos) Γ s (ma.bind fun p => bif p.1 then some (true, p.2) else mb p.2) := fun σ W F sta z hz Q k => by
  obtain ⟨x, h1, h2⟩ := run1 hz
  refine ⟨tOr (ttOf S a) (twOf S (.BoolOp .Or (b :: es) pos)), fun X hX => pw_or (ptO hX) (pwO hX), ha σ W F sta x h1 _ fun W' F' stp sa => ?_⟩
  obtain ⟨x1, x2⟩ := x
  cases x1 with
  | false => exact iteF (hb x2 σ W' F' sa z h2 Q fun W2 F2 stp2 sa2 => k W2 F2 (stp.trans stp2) sa2)
  | true =>
    cases h2
    exact iteT (k W' F' stp sa)
theorem jte_w {m : Option (Bool × τ)} (h : JWE S e Γ s m) : JTE S e Γ s m := fun σ W F sta z hz Q k => ⟨twOf S e, fun X hX => (pwO hX).pt, h σ W F sta z hz Q k⟩
theorem je_if {mc : Option (Bool × τ)} {ma mb : τ → Option (α × τ)} {R : α → OP} (hc : JTE S c Γ s mc) (ha : ∀ s1, JE S a Γ s1 (ma s1) R) (hb : ∀ s1, JE S b Γ s1 (mb s1) R) : JE S (.IfExp c a b pos) Γ s (mc.bind fun p => bif p.1 then ma p.2 else mb p.2) R := fun σ W F sta z hz Q k => by
  obtain ⟨x, h1, h2⟩ := run1 hz
  refine ⟨tIf (ttOf S c) (tOf S a) (tOf S b), fun X hX => pe_ifExp (ptO hX) (peO hX) (peO hX), hc σ W F sta x h1 _ fun W' F' stp sa => ?_⟩
  obtain ⟨x1, x2⟩ := x
  cases x1 with
  | true => exact iteT (ha x2 σ W' F' sa z h2 Q fun v W2 F2 Fv stp2 sa2 fp r => k v W2 F2 Fv (stp.trans stp2) sa2 fp r)
  | false => exact iteF (hb x2 σ W' F' sa z h2 Q fun v W2 F2 Fv stp2 sa2 fp r => k v W2 F2 Fv (stp.trans stp2) sa2 fp r)
/-- a shared thing's item at a drawn place -/
theorem je_ix {r : R2} {P : α → SP} {G : β → SP} {f : α → β → Option γ} {E : γ → SP} {ma : Option (α × τ)} {mb : τ → Option (β × τ)} (ho : ∀ X, S.In X → IxR X r) (hr : IxV r (fun x => sh (P x)) G f fun z => sh (E z))
    (ha : JE S a Γ s ma fun x => sh (P x)) (hb : ∀ s1, JE S b Γ s1 (mb s1) fun y => sh (G y)) (hs : PlainIx b := by exact fun _ _ => rfl) : JE S (.Subscript a b pos) Γ s (ma.bind fun p => (mb p.2).bind fun q => (f p.1 q.1).bind fun z => some (z, q.2)) fun z => sh (E z) := JE.of_sh fun σ W F sta z hz Q k => by
  refine ⟨tOp r (tOf S a) (tOf S b), fun X hX => pe_ix (ho X hX) (peO hX) (peO hX) hs, ?_⟩
  obtain ⟨p, h1, h2⟩ := run1 hz
  obtain ⟨q, h3, h4⟩ := run1 (f := fun q : β × τ => (f p.1 q.1).bind fun z => some (z, q.2)) h2
  obtain ⟨y, h5, h6⟩ := run1 (f := fun z : γ => some (z, q.2)) h4
  cases h6
  refine ha.sh sta h1 fun v W1 F1 stp1 sa1 r1 => ?_
  refine (hb p.2).sh sa1 h3 fun u W2 F2 stp2 sa2 r2 => ?_
  exact hr W2 p.1 q.1 v u y [] sa2.ok ⟨rfl, SP.mono _ r1 stp2.b⟩ r2 h5 _ fun t ⟨F3, q1, _⟩ => k t W2 F2 (stp1.trans stp2) sa2 q1.2
/-- builtins of one argument -/
theorem je_b1 {x : Str} {id : String} {p : Pos} {r : List V → Hp → VK → Prop} {m : Option (α × τ)} {E : α → SP} {f : α → Option γ} {R : γ → OP} (hc : ∀ X, S.In X → CallR X (.builtin id) r)
    (hr : ∀ W x v z, Ex W.B W.H → (E x).P W.B v → f x = some z → ∀ Q : VK, Got (R z) W Q → r [v] W.H Q) (hm : S.mg x = none) (ha : JE S a Γ s m fun x => sh (E x))
    (hg : GlS S x := by rfl) (hv : bootBuiltins x = some (.builtin id) := by decide +kernel) (hn : x ≠ "__name__" := by decide) (hdb : (x == ("__debug__" : Str)) = false := by decide)
    (hs : ∀ env, starEach [a] env = [(false, eval a env)] := by intro _; rfl) : JE S (.Call (.Name x p) [a] [] pos) Γ s (m.bind fun q => (f q.1).bind fun z => some (z, q.2)) R := fun σ W F sta z hz Q k => by
  obtain ⟨q, h1, h2⟩ := run1 hz
  obtain ⟨y, h3, h4⟩ := run1 (f := fun z : γ => some (z, q.2)) h2
  cases h4
  refine ⟨tCB r (tCons (tOf S a) tNil), fun X hX => pe_callB (hc X hX) (hg.gl hX) (mgS hm hX) hv (pa_cons (peO hX) pa_nil (hs _)) hn hdb (hs _) rfl, ha.sh sta h1 fun v W1 F1 stp1 sa1 r1 => ?_⟩
  exact hr W1 q.1 v y sa1.ok r1 h3 Q fun t W3 Fv ext fr fp rr => k t W3 F1 Fv (stp1.trans (ext.stp fr)) (sa1.ext ext) (sa1.fp.fresh ext fp fr) rr
theorem je_t1 {x : Str} {T : String} {p : Pos} {r : List V → Hp → VK → Prop} {m : Option (α × τ)} {E : α → SP} {f : α → Option γ} {R : γ → OP} (hc : ∀ X, S.In X → CallR X (.type T) r)
    (hr : ∀ W x v z, Ex W.B W.H → (E x).P W.B v → f x = some z → ∀ Q : VK, Got (R z) W Q → r [v] W.H Q) (hm : S.mg x = none) (ha : JE S a Γ s m fun x => sh (E x))
    (hg : GlS S x := by rfl) (hv : bootBuiltins x = some (.type T) := by decide +kernel) (hn : x ≠ "__name__" := by decide) (hdb : (x == ("__debug__" : Str)) = false := by decide)
    (hs : ∀ env, starEach [a] env = [(false, eval a env)] := by intro _; rfl) : JE S (.Call (.Name x p) [a] [] pos) Γ s (m.bind fun q => (f q.1).bind fun z => some (z, q.2)) R := fun σ W F sta z hz Q k => by
  obtain ⟨q, h1, h2⟩ := run1 hz
  obtain ⟨y, h3, h4⟩ := run1 (f := fun z : γ => some (z, q.2)) h2
  cases h4
  refine ⟨tCB r (tCons (tOf S a) tNil), fun X hX => pe_callTy (hc X hX) (hg.gl hX) (mgS hm hX) hv (pa_cons (peO hX) pa_nil (hs _)) hn hdb (hs _) rfl, ha.sh sta h1 fun v W1 F1 stp1 sa1 r1 => ?_⟩
  exact hr W1 q.1 v y sa1.ok r1 h3 Q fun t W3 Fv ext fr fp rr => k t W3 F1 Fv (stp1.trans (ext.stp fr)) (sa1.ext ext) (sa1.fp.fresh ext fp fr) rr
theorem je_int {m : Option (Int × τ)} {p : Pos} (hm : S.mg "int" = none) (h : JE S a Γ s m fun x => sh (intS x)) (hg : GlS S "int" := by rfl) (hs : ∀ env, starEach [a] env = [(false, eval a env)] := by intro _; rfl) : JE S (.Call (.Name "int" p) [a] [] pos) Γ s (m.bind fun q => some (q.1, q.2)) fun z => sh (intS z) :=
  je_t1 (f := fun x : Int => some x) (fun X hX => call_int1) (fun W x v z ok hh e Q k => by
    cases e
    cases hh
    exact .inl ⟨_, rfl, k.val ok rfl⟩) hm h hg (by decide +kernel) (by decide) (by decide) hs
/-- a fresh value frozen on the way -/
theorem JE.frz {m : Option (α × τ)} {R : α → OP} {P : α → SP} (f : ∀ x, FrzN (R x) (P x)) (h : JE S e Γ s m R) : JE S e Γ s m fun x => CC.sh (P x) := JE.of_sh fun σ W F sta x hx Q k =>
  h σ W F sta x hx Q fun v W' F' Fv stp sa fp r => by
    obtain ⟨B', b1, b2, b3, b4⟩ := (f x.1).run r fp.right.nd fp.right.fr stp.ok
    have fpB : FpOk ⟨W'.H, B'⟩ F' := ⟨fp.left.nd, fp.left.al, fun a ha => b3 a (fp.left.fr a ha) (fp.disj a ha)⟩
    refine k v ⟨W'.H, B'⟩ F' ⟨b2, stp.b.trans b1, stp.h, stp.al, fun a h1 h2 n => b3 a (stp.fr a h1 h2 n) fun z => ?_, fun a ha => stp.fp a (List.mem_append_left _ ha)⟩ ⟨b2, fpB, sa.len, sa.hold.loc b1 fun _ _ => rfl⟩ b4
    rcases stp.fp a (List.mem_append_right _ z) with q | q
    · exact n q
    · exact h1 q
/-- a call of a def that changes its first argument, the slot i -/
theorem je_callS {x y : Str} {p p1 : Pos} {f : Addr} {fd : FuncData} {ps : List Str} {k : Nat} {O : υ → OP} {G : α → List SP} {fM : α → υ → Option (ρ × υ)} {R : ρ → OP} {m : Option (α × τ)} (i : Nat) (get : τ → υ) (put : τ → υ → τ) (Fn : FnOk S.P S.w S.K S.mg S.base CX0 k f fd ps (spS O G fM R)) (hm : S.mg x = some (.ref f)) (kp : PySem.W.keepIn S.K (.ref f) = true) (hb : Binds S.K fd ps [])
    (hk : k ≤ S.k) (ha : JEA S es Γ s m G) (hi : ∀ s, (Γ s)[i]? = some (some (O (get s))) := by intro _; rfl) (hp : ∀ s u, (Γ s).set i (some (O u)) = Γ (put s u) := by intro _ _; rfl) (hN : S.N[i]? = some y := by rfl) (hv : Vis S.sc y := by first | exact Or.inl rfl | exact Or.inr (Or.inl rfl) | exact Or.inr (Or.inr rfl))
    (hd : (y == ("__debug__" : Str)) = false := by decide) (hcd : (y == ("__classdict__" : Str)) = false := by decide) (hg : GlS S x := by rfl) (hdb : (x == ("__debug__" : Str)) = false := by decide)
    (he : ∀ env, starEach (Expr.Name y p1 :: es) env = (false, eval (.Name y p1) env) :: starEach es env := by intro _; rfl) (hpl : ∀ env, (backTo pos (starEach es env)).any (·.1) = false := by intro _; rfl) (hcm : S.calm = true := by rfl) :
    JE S (.Call (.Name x p) (.Name y p1 :: es) [] pos) Γ s (m.bind fun q => (fM q.1 (get q.2)).bind fun r => some (r.1, put q.2 r.2)) R := fun σ W F sta z hz Q kk => by
  obtain ⟨q, h1, h2⟩ := run1 hz
  obtain ⟨r, h3, h4⟩ := run1 (f := fun r : ρ × υ => some (r.1, put q.2 r.2)) h2
  cases h4
  refine ⟨tCall (spS O G fM R) [] E0 (tCons (tVar i) (taOf S es)), fun X hX => pe_call (fnokS Fn hX) ((hX.room hcm).mono hk) (hg.gl hX) (mgS hm hX) (by rw [hX.K]; exact kp) (bindsS hX hb) .nil passE0 (pa_cons (pe_var (by rw [hX.N]; exact hN) (visS hv hX) hd hcd) (paO hX) (he _)) hdb (he _) (hpl _), ?_⟩
  obtain ⟨v0, F1, F2, a1, _, _, _⟩ := sta.hold.at (hi s)
  refine ⟨v0, a1, ha σ W F sta q h1 _ fun vs W1 Fa stp1 sa1 hh => ?_⟩
  show spS O G fM R ((v0 :: vs) ++ []) W1.H Q E0
  rw [List.append_nil]
  obtain ⟨v1, F1, F2, b1, b2, b3, b4⟩ := sa1.hold.at (hi q.2)
  have ev : v1 = v0 := by rw [a1] at b1; exact (Option.some.inj (Option.some.inj b1)).symm
  subst ev
  have fpP := sa1.fp.perm b3
  refine ⟨q.1, get q.2, W1, F1, v1, vs, r, rfl, rfl, sa1.ok, fpP.left, b2, hh, h3, fun v W2 F1' Fv stp2 fp2 o2 r2 => ?_⟩
  have ne2 : ∀ a ∈ F2, a ∉ F1 := fun a ha h => fpP.disj a h ha
  have hH : ∀ a ∈ F2, W2.H a = W1.H a := fun a ha => by
    cases qa : W1.H a with
    | none => exact absurd qa (fpP.right.al a ha)
    | some o => exact stp2.h a o qa (ne2 a ha)
  obtain ⟨F', c1, c2⟩ := b4 W2 (O r.2) v1 F1' stp2.b hH o2
  rw [set_back b1, hp] at c1
  have fpN : FpOk W2 ((F1' ++ F2) ++ Fv) := by
    have fA : FpOk W2 ((F1' ++ Fv) ++ F2) := fp2.app ⟨fpP.right.nd, fun a ha => stp2.al a (fpP.right.al a ha), fun a ha => stp2.fr a (fpP.right.al a ha) (fpP.right.fr a ha) (ne2 a ha)⟩ fun a ha h => by
      rcases stp2.fp a ha with z | z
      · exact ne2 a h z
      · exact fpP.right.al a h z
    refine fA.perm ?_
    rw [List.append_assoc, List.append_assoc]
    exact List.Perm.append_left _ List.perm_append_comm
  have fpF : FpOk W2 (F' ++ Fv) := fpN.perm (List.Perm.append_right Fv c2.symm)
  refine kk v W2 F' Fv (stp1.trans ?_) ⟨stp2.ok, fpF.left, by rw [← hp, List.length_set]; exact sa1.len, c1⟩ fpF r2
  refine ⟨stp2.ok, stp2.b, fun a o h n => stp2.h a o h fun z => n (b3.mem_iff.mpr (List.mem_append_left _ z)), stp2.al, fun a x1 x2 n => stp2.fr a x1 x2 fun z => n (b3.mem_iff.mpr (List.mem_append_left _ z)), fun a ha => ?_⟩
  rcases List.mem_append.mp ha with z | z
  · rcases List.mem_append.mp (c2.mem_iff.mp z) with z | z
    · exact (stp2.fp a (List.mem_append_left _ z)).imp (fun w => b3.mem_iff.mpr (List.mem_append_left _ w)) id
    · exact .inl (b3.mem_iff.mpr (List.mem_append_right _ z))
  · exact (stp2.fp a (List.mem_append_right _ z)).imp (fun w => b3.mem_iff.mpr (List.mem_append_left _ w)) id
/-- a pure def with such arguments -/
theorem je_call {x : Str} {p : Pos} {f : Addr} {fd : FuncData} {ps : List Str} {k : Nat} {G : α → List SP} {fM : α → Option ρ} {R : ρ → OP} {m : Option (α × τ)} (Fn : FnOk S.P S.w S.K S.mg S.base CX0 k f fd ps (spP G fM R)) (hm : S.mg x = some (.ref f)) (kp : PySem.W.keepIn S.K (.ref f) = true) (hb : Binds S.K fd ps [])
    (hk : k ≤ S.k) (ha : JEA S (e :: es) Γ s m G) (hg : GlS S x := by rfl) (hdb : (x == ("__debug__" : Str)) = false := by decide) (he : ∀ env, starEach (e :: es) env = (false, eval e env) :: starEach es env := by intro _; rfl) (hpl : ∀ env, (backTo pos (starEach es env)).any (·.1) = false := by intro _; rfl) (hcm : S.calm = true := by rfl) :
    JE S (.Call (.Name x p) (e :: es) [] pos) Γ s (m.bind fun q => (fM q.1).bind fun r => some (r, q.2)) R := fun σ W F sta z hz Q kk => by
  obtain ⟨q, h1, h2⟩ := run1 hz
  obtain ⟨r, h3, h4⟩ := run1 (f := fun r : ρ => some (r, q.2)) h2
  cases h4
  refine ⟨tCall (spP G fM R) [] E0 (taOf S (e :: es)), fun X hX => pe_call (fnokS Fn hX) ((hX.room hcm).mono hk) (hg.gl hX) (mgS hm hX) (by rw [hX.K]; exact kp) (bindsS hX hb) .nil passE0 (paO hX) hdb (he _) (hpl _), ha σ W F sta q h1 _ fun vs W1 F1 stp1 sa1 hh => ?_⟩
  show spP G fM R (vs ++ []) W1.H Q E0
  rw [List.append_nil]
  exact ⟨q.1, W1, r, rfl, sa1.ok, hh, h3, fun v W2 Fv ext fr fp rr => kk v W2 F1 Fv (stp1.trans (ext.stp fr)) (sa1.ext ext) (sa1.fp.fresh ext fp fr) rr⟩
/-- xs.pop(i) of an owned list -/
def popAt (xs : List α) (i : Int) : Option (α × List α) := if 0 ≤ i ∧ xs.length ≤ LIM then (xs[i.toNat]?).bind fun x => some (x, xs.eraseIdx i.toNat) else none
theorem Owns.erase {E : α → OP} {W : Wd} : ∀ {vs : List V} {xs : List α} {F : List Addr} {i : Nat} {x : α}, Owns E W vs xs F → xs[i]? = some x →
    ∃ v F1 F2, vs[i]? = some v ∧ (E x).C W v F1 ∧ F.Perm (F1 ++ F2) ∧ Owns E W (vs.eraseIdx i) (xs.eraseIdx i) F2
  | [], [], _, _, _, _, e => by simp at e
  | v :: vs, y :: xs, _, 0, x, ⟨F1, F2, h1, h2, h3⟩, e => by
    have : y = x := by simpa using e
    subst this h1
    exact ⟨v, F1, F2, rfl, h2, .refl _, h3⟩
  | v :: vs, y :: xs, _, i + 1, x, ⟨F1, F2, h1, h2, h3⟩, e => by
    subst h1
    obtain ⟨u, G1, G2, a1, a2, a3, a4⟩ := Owns.erase (i := i) h3 (by simpa using e)
    refine ⟨u, G1, F1 ++ G2, by simpa using a1, a2, ?_, F1, G2, rfl, h2, a4⟩
    refine (List.Perm.append_left F1 a3).trans ?_
    rw [← List.append_assoc, ← List.append_assoc]
    exact List.Perm.append_right G2 List.perm_append_comm
  | [], _ :: _, _, _, _, h, _ => h.elim
  | _ :: _, [], _, _, _, h, _ => h.elim
theorem je_popAt {x : Str} {p0 apos : Pos} {E : α → OP} {m : Option (Int × τ)} (i : Nat) (get : τ → List α) (put : τ → List α → τ) (h : JE S e Γ s m fun z => sh (intS z)) (hi : ∀ s, (Γ s)[i]? = some (some (lstO E (get s))) := by intro _; rfl) (hp : ∀ s u, (Γ s).set i (some (lstO E u)) = Γ (put s u) := by intro _ _; rfl)
    (hN : S.N[i]? = some x := by rfl) (hv : Vis S.sc x := by first | exact Or.inl rfl | exact Or.inr (Or.inl rfl) | exact Or.inr (Or.inr rfl)) (hd : (x == ("__debug__" : Str)) = false := by decide) (hcd : (x == ("__classdict__" : Str)) = false := by decide)
    (hbase : ∀ env, attributeBase (.Name x p0) "pop" env (eval (.Name x p0) env) = eval (.Name x p0) env := by intro _; rfl)
    (hfew : ∀ env, ((backTo pos (starEach [e] env)).all (fun x => !x.1) && (backToKw pos (keywordEach [] env)).all (fun x => x.1.isSome) && decide ([e].length + ([] : List Keyword).length + (if ([] : List Keyword).isEmpty then 0 else 1) < 30)) = true := by intro _; rfl)
    (hline : (apos.endLine == pos.line) = true := by rfl) (hs : ∀ env, starEach [e] env = (false, eval e env) :: starEach [] env := by intro _; rfl) :
    JE S (.Call (.Attribute (.Name x p0) "pop" apos) [e] [] pos) Γ s (m.bind fun q => (popAt (get q.2) q.1).bind fun r => some (r.1, put q.2 r.2)) E := fun σ W F sta z hz Q kk => by
  obtain ⟨q, h1, h2⟩ := run1 hz
  obtain ⟨r, h3, h4⟩ := run1 (f := fun r : α × List α => some (r.1, put q.2 r.2)) h2
  cases h4
  unfold popAt at h3
  split at h3
  · rename_i hb
    obtain ⟨y, h5, h6⟩ := run1 (f := fun y : α => some (y, (get q.2).eraseIdx q.1.toNat)) h3
    cases h6
    refine ⟨tBM S.K "list" rPopAt (tVar i) (tCons (tOf S e) tNil), fun X hX => hX.K ▸ pe_bm PySem.F.plainAttrs_list PySem.F.slot_list_pop PySem.F.type_list_pop mt_popAt (pe_var (by rw [hX.N]; exact hN) (visS hv hX) hd hcd) (pa_cons (peO hX) pa_nil (hs _)) (hbase _) (hfew _) hline (hs _) rfl, ?_⟩
    obtain ⟨v, F1, F2, a1, a2, a3, a4⟩ := sta.hold.at (hi s)
    obtain ⟨p, vs, G2, rfl, b2, rfl, b4⟩ := id a2
    refine ⟨.ref p, a1, .inl ⟨rfl, vs, .inl (.inl b2)⟩, h.sh sta h1 fun u W1 Fa stp1 sa1 r1 => ?_⟩
    cases r1
    obtain ⟨v', F1', F2', c1, c2, c3, c4⟩ := sa1.hold.at (hi q.2)
    have ev : v' = .ref p := by rw [a1] at c1; exact (Option.some.inj (Option.some.inj c1)).symm
    subst ev
    obtain ⟨p', vs', G2', e1, d2, rfl, d4⟩ := c2
    cases e1
    have hB : W1.B p = none := (sa1.fp.perm c3).fr p (by simp)
    obtain ⟨w, K1, K2, k1, k2, k3, k4⟩ := d4.erase h5
    have hlen := d4.len
    have hlt : q.1.toNat < (get q.2).length := (List.getElem?_eq_some_iff.mp h5).1
    have z : LIM = 1000000 := rfl
    have fpA := (sa1.fp.perm c3).left
    have fpK : FpOk W1 (p :: (K2 ++ K1)) := fpA.perm (List.Perm.cons p (k3.trans List.perm_append_comm))
    have nP : ∀ a ∈ K2 ++ K1, a ≠ p := fun a ha z => (List.nodup_cons.mp fpK.nd).1 (z ▸ ha)
    have eseq : seqIndex? q.1 vs'.length = some q.1.toNat := by
      have hx : ixN vs'.length q.1 = some q.1.toNat := by
        unfold ixN
        rw [if_pos hb.1, if_pos (by omega)]
      exact (ixN_seq hx).1
    refine ⟨p, vs', q.1, q.1.toNat, w, rfl, rfl, d2, by omega, by omega, eseq, k1, ?_⟩
    have ke : (lstO E ((get q.2).eraseIdx q.1.toNat)).C ⟨upd W1.H p (.lst (vs'.eraseIdx q.1.toNat)), W1.B⟩ (.ref p) (p :: K2) :=
      ⟨p, _, K2, rfl, upd_same, rfl, Owns.loc (W := W1) (W' := ⟨upd W1.H p (.lst (vs'.eraseIdx q.1.toNat)), W1.B⟩) (fun _ _ h => h) k4 fun a ha => by
        show upd W1.H p (.lst (vs'.eraseIdx q.1.toNat)) a = W1.H a
        exact upd_ne (nP a (List.mem_append_left _ ha))⟩
    have fpN : FpOk W1 ((p :: K2) ++ K1) := fpK
    -- the item's own things leave the list
    have fpG : FpOk W1 (((p :: K2) ++ F2') ++ K1) := by
      refine (sa1.fp.perm c3).perm ?_
      have e1 : ((p :: G2') ++ F2').Perm ((p :: (K2 ++ K1)) ++ F2') := List.Perm.append_right F2' (List.Perm.cons p (k3.trans List.perm_append_comm))
      refine e1.trans ?_
      show ((p :: K2) ++ K1 ++ F2').Perm _
      rw [List.append_assoc, List.append_assoc]
      exact List.Perm.append_left _ List.perm_append_comm
    obtain ⟨F', s1, s2⟩ := c4 ⟨upd W1.H p (.lst (vs'.eraseIdx q.1.toNat)), W1.B⟩ _ (.ref p) (p :: K2) (fun _ _ h => h) (fun a ha => by
      show upd W1.H p (.lst (vs'.eraseIdx q.1.toNat)) a = W1.H a
      refine upd_ne fun z => ?_
      exact (sa1.fp.perm c3).disj p List.mem_cons_self (z ▸ ha)) ke
    rw [set_back c1, hp] at s1
    have fpF : FpOk ⟨upd W1.H p (.lst (vs'.eraseIdx q.1.toNat)), W1.B⟩ (F' ++ K1) := by
      have := fpG.perm (List.Perm.append_right K1 s2.symm)
      exact ⟨this.nd, fun a ha => wr_al a (this.al a ha), this.fr⟩
    refine kk w ⟨upd W1.H p (.lst (vs'.eraseIdx q.1.toNat)), W1.B⟩ F' K1 (stp1.trans ?_) ⟨wr_ok sa1.ok hB, fpF.left, by rw [← hp, List.length_set]; exact sa1.len, s1⟩ fpF ?_
    · refine ⟨wr_ok sa1.ok hB, Ex.refl _, fun a o h n => ?_, wr_al, fun a _ h2 _ => h2, fun a ha => .inl (c3.mem_iff.mpr ?_)⟩
      · show upd W1.H p _ a = some o
        rw [upd_ne fun z => n (c3.mem_iff.mpr (by rw [z]; simp))]
        exact h
      · rcases List.mem_append.mp ha with z | z
        · rcases List.mem_append.mp (s2.mem_iff.mp z) with z | z
          · rcases List.mem_cons.mp z with z | z
            · rw [z]; simp
            · exact List.mem_append_left _ (List.mem_cons_of_mem _ (k3.mem_iff.mpr (List.mem_append_right _ z)))
          · exact List.mem_append_right _ z
        · exact List.mem_append_left _ (List.mem_cons_of_mem _ (k3.mem_iff.mpr (List.mem_append_left _ z)))
    · exact OP.loc _ k2 (fun _ _ h => h) fun a ha => by
        show upd W1.H p (.lst (vs'.eraseIdx q.1.toNat)) a = W1.H a
        exact upd_ne (nP a (List.mem_append_right _ ha))
  · cases h3
/-! ### statements -/
theorem js_setE {x : Str} {pos' : Pos} {m : Option (α × τ)} {R : α → OP} (i : Nat) (nd : S.N.Nodup) (h : JE S e Γ s m R) (hi : ∀ s, ((Γ s)[i]?).isSome = true := by intro _; rfl) (hN : S.N[i]? = some x := by rfl) (hx : Loc S.sc x := by first | exact Or.inl rfl | exact Or.inr rfl) (hp : (S.prot.contains i) = false := by rfl)
    (hs : ∀ env, swapsWith e (some (.Name x pos')) pos.line env = pure false := by intro _; rfl) (hf : S.fn x = true ∨ S.sc.names.lookup x = some .local := by first | exact .inl rfl | exact .inr rfl) : JS S (.Assign [.Name x pos'] e pos) (Γ s) m fun q => .nx ((Γ q.2).set i (some (R q.1))) := fun σ W F sta y hy E k => by
  refine ⟨tAsg (tOf S e) (gName i), fun X hX => ps_set (by rw [hX.N]; exact nd) (by rw [hX.N]; exact hN) (locS hx hX) (peO hX) (hs _) (by rw [hX.fn, hX.sc]; exact hf), h σ W F sta y hy _ fun v W' F' Fv stp sa fp r => ?_⟩
  have hl : i < (Γ y.2).length := by
    have := hi y.2
    cases h : (Γ y.2)[i]? with
    | none => rw [h] at this; cases this
    | some o => exact (List.getElem?_eq_some_iff.mp h).1
  obtain ⟨F2, s', sub⟩ := sa.put hl r fp
  exact k _ W' F2 (Keep.set (ncon hp)) (stp.perm sub) s'
theorem js_asgE {m : Option (α × τ)} {E : α → SP} {up : α → Ctx → Ctx} {ws : List Nat} (h : JE S e Γ s m fun x => sh (E x)) (hg : JG S tg E up ws) (hl : ∀ s, ∀ i ∈ ws, i < (Γ s).length) (hs : ∀ env, swapsWithSole [tg] e pos.line env = pure false := by intro _; rfl) (hw : ∀ env, swappedStores [tg] e env = pure none := by intro _; rfl)
    (h1 : ∀ env, (assignEach [tg] env).map (·.2) = [assign tg env] := by intro _; rfl) : JS S (.Assign [tg] e pos) (Γ s) m fun q => .nx (up q.1 (Γ q.2)) := fun σ W F sta y hy Ed k => by
  refine ⟨tAsg (tOf S e) (tgOf S tg), fun X hX => ps_asg (peO hX) (pgO hX) (hs _) (hw _) (h1 _), h.sh sta hy fun v W' F' stp sa r => ?_⟩
  refine hg _ σ W' F' y.1 v sa (hl _) r _ fun σ' F2 _ kp s' sub => ?_
  exact k σ' W' F2 kp (stp.perm sub) s'
theorem js_drop {m : Option (α × τ)} {R : α → OP} (h : JE S e Γ s m R) (hs : ∀ env, swapsWith e none pos.line env = pure false := by intro _; rfl) : JS S (.Expr e pos) (Γ s) m fun q => .nx (Γ q.2) := fun σ W F sta y hy Ed k => by
  refine ⟨tDrop (tOf S e), fun X hX => ps_expr (peO hX) (hs _), h σ W F sta y hy _ fun v W' F' Fv stp sa fp r => ?_⟩
  exact k σ W' F' Keep.refl (stp.perm fun a ha => List.mem_append_left _ ha) sa
theorem js_ifE {mc : Option (Bool × τ)} {ma mb : τ → Option ω} {D : ω → Kd} (hc : JTE S c Γ s mc) (ha : ∀ s1, JB S A (Γ s1) (ma s1) D) (hb : ∀ s1, JB S B (Γ s1) (mb s1) D) : JS S (.If c A B pos) (Γ s) (mc.bind fun p => bif p.1 then ma p.2 else mb p.2) D := fun σ W F sta z hz E k => by
  obtain ⟨x, h1, h2⟩ := run1 hz
  refine ⟨tIfS (ttOf S c) (tbOf S A) (tbOf S B), fun X hX => ps_if (ptO hX) (pbO hX) (pbO hX), ?_⟩
  refine hc σ W F sta x h1 _ fun W' F' stp sa => ?_
  obtain ⟨x1, x2⟩ := x
  cases x1 with
  | true => exact iteT (ha x2 σ W' F' sa z h2 _ (k.before Keep.refl stp))
  | false => exact iteF (hb x2 σ W' F' sa z h2 _ (k.before Keep.refl stp))
theorem jb_ifrE {mc : Option (Bool × τ)} {ma mr : τ → Option ω} {D : ω → Kd} (hc : JTE S c Γ s mc) (ha : ∀ s1, JB S A (Γ s1) (ma s1) D) (hn : ∀ x, NoNx (D x)) (hr : ∀ s1, JB S rest (Γ s1) (mr s1) D) : JB S (.If c A [] pos :: rest) (Γ s) (mc.bind fun p => bif p.1 then ma p.2 else mr p.2) D := fun σ W F sta z hz E k => by
  obtain ⟨x, h1, h2⟩ := run1 hz
  refine ⟨tSeq (tIfS (ttOf S c) (tbOf S A) tNext) (tbOf S rest), fun X hX => pss_cons (ps_if (ptO hX) (pbO hX) pss_nil) (pbO hX), ?_⟩
  refine hc σ W F sta x h1 _ fun W' F' stp sa => ?_
  obtain ⟨x1, x2⟩ := x
  cases x1 with
  | true => exact iteT (ha x2 σ W' F' sa z h2 _ (post_nox (k.before Keep.refl stp) (hn z)))
  | false => exact iteF (hr x2 σ W' F' sa z h2 E (k.before Keep.refl stp))
theorem jb_ifxE {mc : Option (Bool × τ)} {ma : τ → Option υ} {mr : τ → Option ω} {D : ω → Kd} {D' : υ → Kd} (ι : υ → ω) (hc : JTE S c Γ s mc) (ha : ∀ s1, JB S A (Γ s1) (ma s1) D') (hι : ∀ x, D (ι x) = D' x) (hn : ∀ x, NoNx (D' x)) (hr : ∀ s1, JB S rest (Γ s1) (mr s1) D) :
    JB S (.If c A [] pos :: rest) (Γ s) (mc.bind fun p => bif p.1 then (ma p.2).bind fun x => some (ι x) else mr p.2) D := fun σ W F sta z hz E k => by
  obtain ⟨x, h1, h2⟩ := run1 hz
  refine ⟨tSeq (tIfS (ttOf S c) (tbOf S A) tNext) (tbOf S rest), fun X hX => pss_cons (ps_if (ptO hX) (pbO hX) pss_nil) (pbO hX), ?_⟩
  refine hc σ W F sta x h1 _ fun W' F' stp sa => ?_
  obtain ⟨x1, x2⟩ := x
  cases x1 with
  | true =>
    obtain ⟨y, h3, h4⟩ := run1 h2
    cases h4
    refine iteT (ha x2 σ W' F' sa y h3 _ ?_)
    rw [hι] at k
    exact post_nox (k.before Keep.refl stp) (hn y)
  | false => exact iteF (hr x2 σ W' F' sa z h2 E (k.before Keep.refl stp))
theorem jb_retE {m : Option (α × τ)} {R : α → OP} {Δ : τ → Ctx} (w : ∀ s, Weak (Γ s) (Δ s)) (h : JE S e Γ s m R) : JB S (.Return (some e) pos :: rest) (Γ s) m fun q => .rt (Δ q.2) (R q.1) := fun σ W F sta x hx E k => by
  refine ⟨tSeq (tRet (tOf S e)) tNever, fun X hX => pss_cons (ps_ret (peO hX)) pss_never, h σ W F sta x hx _ fun v W' F' Fv stp sa fp r => ?_⟩
  obtain ⟨F2, s', sub⟩ := sa.weak (w x.2)
  have fpB : FpOk W' (F2 ++ Fv) := s'.fp.app fp.right fun a ha => fp.disj a (sub a ha)
  refine k v σ W' F2 Fv Keep.refl (stp.perm fun a ha => ?_) s' fpB r
  rcases List.mem_append.mp ha with h | h
  · exact List.mem_append_left _ (sub a h)
  · exact List.mem_append_right _ h
/-- found.append(e) -/
theorem js_appE {x : Str} {p0 apos cpos spos : Pos} {E : α → OP} {m : Option (α × τ)} (i : Nat) (get : τ → List α) (h : JE S e Γ s m E) (hi : ∀ s, (Γ s)[i]? = some (some (lstO E (get s))) := by intro _; rfl) (hN : S.N[i]? = some x := by rfl) (hv : Vis S.sc x := by first | exact Or.inl rfl | exact Or.inr (Or.inl rfl) | exact Or.inr (Or.inr rfl))
    (hd : (x == ("__debug__" : Str)) = false := by decide) (hcd : (x == ("__classdict__" : Str)) = false := by decide)
    (hbase : ∀ env, attributeBase (.Name x p0) "append" env (eval (.Name x p0) env) = eval (.Name x p0) env := by intro _; rfl)
    (hfew : ∀ env, ((backTo cpos (starEach [e] env)).all (fun x => !x.1) && (backToKw cpos (keywordEach [] env)).all (fun x => x.1.isSome) && decide ([e].length + ([] : List Keyword).length + (if ([] : List Keyword).isEmpty then 0 else 1) < 30)) = true := by intro _; rfl)
    (hline : (apos.endLine == cpos.line) = true := by rfl) (hs : ∀ env, starEach [e] env = (false, eval e env) :: starEach [] env := by intro _; rfl) (hsw : ∀ env, swapsWith (.Call (.Attribute (.Name x p0) "append" apos) [e] [] cpos) none spos.line env = pure false := by intro _; rfl) :
    JS S (.Expr (.Call (.Attribute (.Name x p0) "append" apos) [e] [] cpos) spos) (Γ s) (m.bind fun q => (appM (get q.2) q.1).bind fun ys => some (ys, q.2)) fun q => .nx ((Γ q.2).set i (some (lstO E q.1))) := fun σ W F sta z hz Ed k => by
  obtain ⟨q, h1, h2⟩ := run1 hz
  obtain ⟨ys, h3, h4⟩ := run1 (f := fun ys : List α => some (ys, q.2)) h2
  cases h4
  unfold appM at h3
  split at h3
  · rename_i hlen
    cases h3
    refine ⟨tDrop (tBM S.K "list" rAppend (tVar i) (tCons (tOf S e) tNil)), fun X hX => ps_expr (hX.K ▸ pe_bm PySem.F.plainAttrs_list PySem.F.slot_list_append PySem.F.type_list_append mt_append (pe_var (by rw [hX.N]; exact hN) (visS hv hX) hd hcd) (pa_cons (peO hX) pa_nil (hs _)) (hbase _) (hfew _) hline (hs _) rfl) (hsw _), ?_⟩
    obtain ⟨v, F1, F2, a1, a2, a3, a4⟩ := sta.hold.at (hi s)
    obtain ⟨p, vs, G2, rfl, b2, rfl, b4⟩ := id a2
    refine ⟨.ref p, a1, .inl ⟨rfl, vs, .inl (.inl b2)⟩, h σ W F sta q h1 _ fun u W1 Fa Fv stp1 sa1 fp1 r => ?_⟩
    obtain ⟨v', F1', F2', c1, c2, c3, c4⟩ := sa1.hold.at (hi q.2)
    have ev : v' = .ref p := by rw [a1] at c1; exact (Option.some.inj (Option.some.inj c1)).symm
    subst ev
    obtain ⟨p', vs', G2', e1, d2, rfl, d4⟩ := c2
    cases e1
    have hB : W1.B p = none := (sa1.fp.perm c3).fr p (by simp)
    have fpA : FpOk W1 ((p :: G2') ++ Fv) := by
      have q2 : FpOk W1 (((p :: G2') ++ F2') ++ Fv) := fp1.perm (List.Perm.append_right Fv c3)
      refine FpOk.left (F' := F2') (q2.perm ?_)
      rw [List.append_assoc, List.append_assoc]
      exact List.Perm.append_left _ List.perm_append_comm
    refine ⟨p, vs', u, rfl, rfl, d2, lim_lt (by rw [d4.len]; exact hlen), ?_⟩
    have nP : ∀ a ∈ G2' ++ Fv, a ≠ p := fun a ha z => (List.nodup_cons.mp fpA.nd).1 (z ▸ ha)
    have A3 : Owns E W1 (vs' ++ [u]) (get q.2 ++ [q.1]) (G2' ++ Fv) := d4.app ⟨Fv, [], (List.append_nil _).symm, r, rfl⟩
    have A4 : Owns E ⟨upd W1.H p (.lst (vs' ++ [u])), W1.B⟩ (vs' ++ [u]) (get q.2 ++ [q.1]) (G2' ++ Fv) := Owns.loc (W := W1) (W' := ⟨upd W1.H p (.lst (vs' ++ [u])), W1.B⟩) (fun _ _ h => h) A3 fun a ha => by
      show upd W1.H p (.lst (vs' ++ [u])) a = W1.H a
      exact upd_ne (nP a ha)
    obtain ⟨F', s', stp⟩ := sta_own (W' := ⟨upd W1.H p (.lst (vs' ++ [u])), W1.B⟩) (F1' := p :: (G2' ++ Fv)) (o' := lstO E (get q.2 ++ [q.1])) Fv sa1 fp1 c1 c3 c4 (wr_ok sa1.ok hB) rfl (fun a ha _ => upd_ne fun z => ha (z ▸ List.mem_cons_self)) wr_al
      ⟨fpA.nd, fun a ha => wr_al a (fpA.al a ha), fpA.fr⟩ (fun a ha => by
        rcases List.mem_cons.mp ha with z | z
        · exact .inl (z ▸ List.mem_cons_self)
        · rcases List.mem_append.mp z with z | z
          · exact .inl (List.mem_cons_of_mem _ z)
          · exact .inr (.inl z)) ⟨p, vs' ++ [u], G2' ++ Fv, rfl, upd_same, rfl, A4⟩
    exact k σ _ F' Keep.refl (stp1.trans stp) s'
  · cases h3
/-- range of a drawn number -/
theorem jie_rng1 {p : Pos} {m : Option (Int × τ)} (hm : S.mg "range" = none) (h : JE S a Γ s m fun x => sh (intS x)) (hg : GlS S "range" := by rfl) (hs : ∀ env, starEach [a] env = [(false, eval a env)] := by intro _; rfl) :
    JIE S tg (.Call (.Name "range" p) [a] [] pos) Γ s (m.bind fun q => (rng 0 q.1).bind fun xs => some (xs, q.2)) intS := fun σ W F sta z hz R k => by
  obtain ⟨q, h1, h2⟩ := run1 hz
  obtain ⟨xs, h3, h4⟩ := run1 (f := fun xs : List Int => some (xs, q.2)) h2
  cases h4
  unfold rng at h3
  split at h3
  · rename_i hb
    cases h3
    refine ⟨iRng1 (tCons (tOf S a) tNil), fun X hX => pi_range1 (hg.gl hX) (mgS hm hX) (pa_cons (peO hX) pa_nil (hs _)) (hs _), h.sh sta h1 fun v W' F' stp sa r => ?_⟩
    cases r
    have z : (LIM : Int) = 1000000 := rfl
    refine ⟨q.1, rfl, by omega, by omega, ?_⟩
    have e : (q.1 - 0).toNat = q.1.toNat := by rw [Int.sub_zero]
    rw [← e]
    exact k _ W' F' stp sa (ok_rng fun W1 c => c.1)
  · cases h3
/-- for over a walk that is drawn -/
theorem js_forE {mi : Option (List α × τ)} {E : α → SP} {up : α → Ctx → Ctx} {ws : List Nat} {Γl : τ → υ → Ctx} {T : ρ → Kd} {f : τ → α → υ → Option (Out υ ρ)} (s0 : τ → υ) (hi : JIE S tg iter Γ s mi E) (hg : JG S tg E up ws) (w : ∀ s, Weak (Γ s) (Γl s (s0 s))) (hl : ∀ t s, ∀ i ∈ ws, i < (Γl t s).length)
    (hT : ∀ r, NoNx (T r) ∧ (∀ Δ, T r ≠ .bk Δ) ∧ ∀ Δ, T r ≠ .ct Δ) (hb : ∀ t x s, JB S A (up x (Γl t s)) (f t x s) (DL (Γl t) T)) (hs : ∀ env x, foldedSetIterable iter env x = pure x := by intro _ _; rfl) (hcm : S.calm = true := by rfl) :
    JS S (.For tg iter A [] pos) (Γ s) (mi.bind fun q => (loopGo (f q.2) q.1 (s0 q.2)).bind fun o => some (q.2, o)) fun o => DF (Γl o.1) T o.2 := fun σ W F sta z hz Ed k => by
  obtain ⟨q, h1, h2⟩ := run1 hz
  obtain ⟨o, h3, h4⟩ := run1 (f := fun o : Out υ ρ => some (q.2, o)) h2
  cases h4
  refine ⟨tFor (tiOf S tg iter) (tgOf S tg) (tbOf S A), fun X hX => ps_for hX.pass (hX.calm.trans hcm) (piO hX) (pgO hX) (pbO hX) (hs _), ?_⟩
  refine hi σ W F sta q h1 _ fun J W' Fi stp0 sai iok => ?_
  obtain ⟨F0, sa0, sub0⟩ := sai.weak (w q.2)
  refine ⟨fun i m σ1 H => m = q.1.length - i ∧ i ≤ q.1.length ∧ ∃ (W1 : Wd) (F1 : List Addr) (s : υ), W1.H = H ∧ Keep S.prot σ σ1 ∧ Stp W' Fi W1 F1 ∧ Sta (Γl q.2 s) σ1 W1 F1 ∧ loopGo (f q.2) (q.1.drop i) s = some o,
    ⟨q.1.length, by simp, Nat.zero_le _, W', F0, s0 q.2, rfl, Keep.refl, (Stp.refl sai.ok).perm sub0, sa0, by simpa using h3⟩, ?_⟩
  rintro i m σ1 H ⟨rfl, hi', W1, F1, s, rfl, kp, stp, sa, go⟩
  obtain ⟨iok1, iok2⟩ := iok W1 ⟨sa.ok, stp.b⟩
  by_cases hlt : i < q.1.length
  · obtain ⟨g1, g2⟩ := iok1 i q.1[i] (List.getElem?_eq_getElem hlt)
    refine .inr ⟨g1, fun σ' H' => ∃ m', m' < q.1.length - i ∧ (m' = q.1.length - (i + 1) ∧ i + 1 ≤ q.1.length ∧ ∃ (W1 : Wd) (F1 : List Addr) (s : υ), W1.H = H' ∧ Keep S.prot σ σ' ∧ Stp W' Fi W1 F1 ∧ Sta (Γl q.2 s) σ' W1 F1 ∧ loopGo (f q.2) (q.1.drop (i + 1)) s = some o), fun σ' H' h => h, fun v H' y => ?_⟩
    obtain ⟨W2, rfl, e2, p2⟩ := g2 v H' y
    refine hg (Γl q.2 s) σ1 W2 F1 q.1[i] v (sa.ext e2) (hl _ s) p2 _ fun σ2 F2 _ kp2 sa2 sub2 => ?_
    rw [List.drop_eq_getElem_cons hlt] at go
    obtain ⟨oo, o1, o2⟩ := run1 (f := fun o : Out υ ρ => o.step fun s' => loopGo (f q.2) (q.1.drop (i + 1)) s') go
    have stpA : Stp W' Fi W2 F2 := (stp.trans e2.stp0).perm sub2
    refine hb q.2 q.1[i] s σ2 W2 F2 sa2 oo o1 _ ?_
    cases oo with
    | nx s' => exact fun σ3 W3 F3 k3 t3 a3 => ⟨q.1.length - (i + 1), by omega, rfl, hlt, W3, F3, s', rfl, (kp.trans kp2).trans k3, stpA.trans t3, a3, o2⟩
    | ct s' => exact fun σ3 W3 F3 k3 t3 a3 => ⟨q.1.length - (i + 1), by omega, rfl, hlt, W3, F3, s', rfl, (kp.trans kp2).trans k3, stpA.trans t3, a3, o2⟩
    | bk s' =>
      cases o2
      exact fun σ3 W3 F3 k3 t3 a3 => k σ3 W3 F3 ((kp.trans kp2).trans k3) (stp0.trans (stpA.trans t3)) a3
    | rt r =>
      cases o2
      obtain ⟨n1, n2, n3⟩ := hT r
      have k' : Post S.W S.prot σ W F Ed (T r) := k
      show Post S.W S.prot σ2 W2 F2 _ (T r)
      have k'' := k'.before (kp.trans kp2) (stp0.trans stpA)
      generalize hq : T r = qq at k'' n1
      cases qq with
      | nx Γ => exact n1.elim
      | bk Γ => exact absurd hq (n2 Γ)
      | ct Γ => exact absurd hq (n3 Γ)
      | rt Γ R => exact k''
      | xc Γ R => exact k''
  · have ei : i = q.1.length := by omega
    subst ei
    rw [List.drop_length] at go
    cases go
    exact .inl ⟨iok2 _ (Nat.le_refl _), k σ1 W1 F1 kp (stp0.trans stp) sa⟩
end
end CC
set_option maxHeartbeats 4000000
/-! Comprehensions whose items change what is owned; further operations. -/
namespace CC
open PySem PySem.Spec L2
open PyProof.Rows hiding St
variable {α β γ δ τ ω ρ υ : Type}
def compGoE (t : α → τ → Option (Bool × τ)) (f : α → τ → Option (β × τ)) : List α → τ → Option (List β × τ)
  | [], s => some ([], s)
  | x :: xs, s => (t x s).bind fun b => bif b.1 then (f x b.2).bind fun y => (compGoE t f xs y.2).bind fun r => some (y.1 :: r.1, r.2) else compGoE t f xs b.2
def compME (t : α → τ → Option (Bool × τ)) (f : α → τ → Option (β × τ)) (xs : List α) (s : τ) : Option (List β × τ) := if xs.length ≤ LIM then compGoE t f xs s else none
def mapGoE (f : α → τ → Option (β × τ)) : List α → τ → Option (List β × τ)
  | [], s => some ([], s)
  | x :: xs, s => (f x s).bind fun y => (mapGoE f xs y.2).bind fun r => some (y.1 :: r.1, r.2)
def mapME (f : α → τ → Option (β × τ)) (xs : List α) (s : τ) : Option (List β × τ) := if xs.length ≤ LIM then mapGoE f xs s else none
theorem compGoE_yes (f : α → τ → Option (β × τ)) : ∀ (xs : List α) (s : τ), compGoE (fun _ s => some (true, s)) f xs s = mapGoE f xs s
  | [], s => rfl
  | x :: xs, s => by
    show (f x s).bind (fun y => (compGoE (fun _ s => some (true, s)) f xs y.2).bind fun r => some (y.1 :: r.1, r.2)) = (f x s).bind fun y => (mapGoE f xs y.2).bind fun r => some (y.1 :: r.1, r.2)
    congr 1
    funext y
    rw [compGoE_yes f xs y.2]
theorem mapM_eq (f : α → Option β) (xs : List α) : compM (fun _ => some true) f xs = mapM f xs := by
  unfold compM mapM
  rw [compGo_yes]
theorem mapME_eq (f : α → τ → Option (β × τ)) (xs : List α) (s : τ) : compME (fun _ s => some (true, s)) f xs s = mapME f xs s := by
  unfold compME mapME
  rw [compGoE_yes]
theorem Holds.move {W : Wd} : ∀ {Γ Δ : Ctx} {σ σ2 : L2.St} {F : List Addr}, Γ.length = Δ.length → (∀ (i : Nat) (o : OP), Γ[i]? = some (some o) → Δ[i]? = some (some o) ∧ σ2[i]? = σ[i]?) → Holds Δ σ2 W F → ∃ F' G, Holds Γ σ W F' ∧ F.Perm (F' ++ G)
  | [], [], σ, σ2, F, _, _, h => ⟨[], F, rfl, .refl _⟩
  | [], _ :: _, _, _, _, h, _, _ => by simp at h
  | _ :: _, [], _, _, _, h, _, _ => by simp at h
  | g :: Γ, d :: Δ, σ, σ2, F, hl, hi, h => by
    have hi' : ∀ (i : Nat) (o : OP), Γ[i]? = some (some o) → Δ[i]? = some (some o) ∧ σ2.tail[i]? = σ.tail[i]? := fun i o e => by
      have q := hi (i + 1) o (by simpa using e)
      refine ⟨by simpa using q.1, ?_⟩
      rw [List.getElem?_tail, List.getElem?_tail]
      exact q.2
    have hl' : Γ.length = Δ.length := by simpa using hl
    cases g with
    | none =>
      cases d with
      | none => exact Holds.move (Γ := Γ) (Δ := Δ) (σ := σ.tail) (σ2 := σ2.tail) hl' hi' h
      | some o =>
        obtain ⟨v, F1, F2, h1, h2, h3, h4⟩ := h
        obtain ⟨F', G, a1, a2⟩ := Holds.move (Γ := Γ) (Δ := Δ) (σ := σ.tail) (σ2 := σ2.tail) hl' hi' h4
        subst h2
        refine ⟨F', G ++ F1, a1, ?_⟩
        rw [← List.append_assoc]
        exact (List.Perm.append_left F1 a2).trans List.perm_append_comm
    | some o =>
      obtain ⟨e1, e2⟩ := hi 0 o rfl
      have : d = some o := by simpa using e1
      subst this
      obtain ⟨v, F1, F2, h1, h2, h3, h4⟩ := h
      obtain ⟨F', G, a1, a2⟩ := Holds.move (Γ := Γ) (Δ := Δ) (σ := σ.tail) (σ2 := σ2.tail) hl' hi' h4
      subst h2
      refine ⟨F1 ++ F', G, ⟨v, F1, F', ?_, rfl, h3, a1⟩, ?_⟩
      · rw [List.head?_eq_getElem?] at h1 ⊢
        rw [← e2]
        exact h1
      · rw [List.append_assoc]
        exact List.Perm.append_left F1 a2
def JTsE (S : Stc) (ifs : List Expr) (Γ : τ → Ctx) (s : τ) (m : Option (Bool × τ)) : Prop :=
  ∀ σ W F, Sta (Γ s) σ W F → ∀ x, m = some x → ∀ Q : Bool → Hp → Prop, (∀ W' F', Stp W F W' F' → Sta (Γ x.2) σ W' F' → Q x.1 W'.H) → ttsOf S ifs σ W.H Q
def JCE (S : Stc) (elt tg iter : Expr) (ifs : List Expr) (scope : Scope) (Γ : τ → Ctx) (s : τ) (m : Option (α × τ)) (R : α → OP) : Prop :=
  ∃ own : List (Str × Nat), BlkOk S.N S.sc scope own ∧ ∀ σ W F, Sta (Γ s) σ W F → ∀ x, m = some x → ∀ Q : VK, (∀ v W' F' Fv, Stp W F W' (F' ++ Fv) → Sta (Γ x.2) σ W' F' → FpOk W' (F' ++ Fv) → (R x.1).C W' v Fv → Q v W'.H) →
    tLc (tiOf S tg iter) (tgOf (S.blk scope) tg) (ttsOf (S.blk scope) ifs) (tOf (S.blk scope) elt) (own.map (·.2)) σ W.H Q
section
variable {S : Stc} {Γ : τ → Ctx} {s : τ} {a b c e tg iter elt : Expr} {es ifs : List Expr} {pos : Pos} {st : Stmt} {rest A B : List Stmt}
theorem jtse_nil : JTsE S [] Γ s (some (true, s)) := fun σ W F sta b hb Q k => by
  cases hb
  exact ⟨tYes, fun _ _ => pts_nil, k W F (Stp.refl sta.ok) sta⟩
theorem jtse_one {m : Option (Bool × τ)} (h : JTE S c Γ s m) : JTsE S [c] Γ s m := fun σ W F sta b hb Q k => ⟨ttOf S c, fun X hX => pts_one (ptO hX), h σ W F sta b hb Q k⟩
theorem je_lc {scope : Scope} {m : Option (α × τ)} {R : α → OP} (nd : S.N.Nodup) (h : JCE S elt tg iter ifs scope Γ s m R) (hs : ∀ env x, foldedSetIterable iter env x = pure x := by intro _ _; rfl) (hcm : S.calm = true := by rfl) : JE S (.ListComp elt [⟨tg, iter, ifs, 0⟩] scope pos) Γ s m R := fun σ W F sta x hx Q k => by
  obtain ⟨own, ok, go⟩ := h
  exact ⟨_, fun X hX => pe_lc (hX.calm.trans hcm) (by rw [hX.N]; exact nd) (piO hX) (by rw [hX.N, hX.sc]; exact ok) (fun s H C cl fp => pgO (hX.blk scope s H C cl fp)) (fun s H C cl fp => ptsO (hX.blk scope s H C cl fp)) (fun s H C cl fp => peO (hX.blk scope s H C cl fp)) (hs _), go σ W F sta x hx Q k⟩
theorem js_setLcE {x : Str} {py spos : Pos} {scope : Scope} {m : Option (α × τ)} {R : α → OP} (i : Nat) (nd : S.N.Nodup) (h : JCE S elt tg iter ifs scope Γ s m R) (hi : ∀ s, ((Γ s)[i]?).isSome = true := by intro _; rfl) (hN : S.N[i]? = some x := by rfl) (hx : S.sc.names.lookup x = some .local := by rfl) (hp : (S.prot.contains i) = false := by rfl)
    (hk : S.sc.kind = .function := by rfl) (hl : (py.line == pos.line) = true := by rfl) (hown : (scope.names.any fun (n, k) => n == x && (k == .local || k == .cell)) = false := by decide +kernel) (hs : ∀ env x, foldedSetIterable iter env x = pure x := by intro _ _; rfl) (hcm : S.calm = true := by rfl) :
    JS S (.Assign [.Name x py] (.ListComp elt [⟨tg, iter, ifs, 0⟩] scope pos) spos) (Γ s) m fun q => .nx ((Γ q.2).set i (some (R q.1))) := fun σ W F sta y hy E k => by
  obtain ⟨own, ok, go⟩ := h
  refine ⟨_, fun X hX => ps_setLc (hX.calm.trans hcm) (by rw [hX.N]; exact nd) (by rw [hX.N]; exact hN) (by rw [hX.sc]; exact hx) (sw_true (by rw [hX.sc]; exact hk) (by rw [hX.sc]; exact hx) hl hown) (piO hX) (by rw [hX.N, hX.sc]; exact ok) (fun s H C cl fp => pgO (hX.blk scope s H C cl fp)) (fun s H C cl fp => ptsO (hX.blk scope s H C cl fp)) (fun s H C cl fp => peO (hX.blk scope s H C cl fp)) (hs _), go σ W F sta y hy _ fun v W' F' Fv stp sa fp r => ?_⟩
  have hl : i < (Γ y.2).length := by
    have := hi y.2
    cases h : (Γ y.2)[i]? with
    | none => rw [h] at this; cases this
    | some o => exact (List.getElem?_eq_some_iff.mp h).1
  obtain ⟨F2, s', sub⟩ := sa.put hl r fp
  exact k _ W' F2 (Keep.set (ncon hp)) (stp.perm sub) s'
theorem wipeC_get {Γ : Ctx} {i : Nat} : ∀ {vs : List Nat}, i ∉ vs → (wipeC Γ vs)[i]? = Γ[i]?
  | [], _ => rfl
  | v :: vs, h => by
    show ((wipeC Γ vs).set v none)[i]? = _
    rw [List.getElem?_set_ne fun z => h (by rw [z]; exact List.mem_cons_self), wipeC_get fun z => h (List.mem_cons_of_mem _ z)]
/-- the block's turns; the block's own slots hold nothing outside -/
theorem jce_of {scope : Scope} {mi : Option (List α × τ)} {E : α → SP} {up : α → Ctx → Ctx} {ws : List Nat} {mt : α → τ → Option (Bool × τ)} {me : α → τ → Option (β × τ)} {R : β → OP} (own : List (Str × Nat)) (hi : JIE S tg iter Γ s mi E) (ok : blkC S.N S.sc scope own = true) (hg : JG (S.blk scope) tg E up ws)
    (hw : ∀ i ∈ ws, i ∈ own.map (·.2)) (hl : ∀ s, ∀ i ∈ ws, i < (Γ s).length) (hu : ∀ x Γ i, i ∉ ws → (up x Γ)[i]? = Γ[i]?) (hul : ∀ x Γ, (up x Γ).length = Γ.length) (hz : ∀ s, ∀ i ∈ own.map (·.2), (Γ s)[i]? = some none)
    (ht : ∀ x s, JTsE (S.blk scope) ifs (fun s => up x (wipeC (Γ s) (own.map (·.2)))) s (mt x s)) (he : ∀ x s, JE (S.blk scope) elt (fun s => up x (wipeC (Γ s) (own.map (·.2)))) s (me x s) R) :
    JCE S elt tg iter ifs scope Γ s (mi.bind fun q => compME mt me q.1 q.2) fun ys => lstO R ys := by
  refine ⟨own, blkOk_by ok, fun σ W F sta ys hx Q k => ?_⟩
  obtain ⟨q0, h1, h2⟩ := run1 hx
  unfold compME at h2
  split at h2
  · rename_i hlen
    refine hi σ W F sta q0 h1 _ fun J W' Fi stp0 sai iok => fun D hD => ?_
    have back : ∀ {x : α} {s : τ} {σ2 : L2.St} {W1 : Wd} {F1 : List Addr}, (∀ i, i ∉ own.map (·.2) → σ2[i]? = σ[i]?) → Sta (up x (wipeC (Γ s) (own.map (·.2)))) σ2 W1 F1 → ∃ F', Sta (Γ s) σ W1 F' ∧ ∀ a ∈ F', a ∈ F1 := by
      intro x s σ2 W1 F1 hσ sa
      have hlen : (Γ s).length = (up x (wipeC (Γ s) (own.map (·.2)))).length := by rw [hul, wipeC_len]
      obtain ⟨F', G, a1, a2⟩ := sa.hold.move (Γ := Γ s) (σ := σ) hlen fun i o e => by
        have hn : i ∉ own.map (·.2) := fun z => by
          rw [hz s i z] at e
          cases e
        refine ⟨?_, hσ i hn⟩
        rw [hu x _ i fun z => hn (hw i z), wipeC_get hn]
        exact e
      refine ⟨F', ⟨sa.ok, (sa.fp.perm a2).left, ?_, a1⟩, fun a ha => a2.mem_iff.mpr (List.mem_append_left _ ha)⟩
      have l1 : σ.length = (Γ s).length := by
        have e1 := sai.len
        have e2 : (Γ q0.2).length = σ.length := e1.symm
        have e3 := sa.len
        -- all contexts have the slots' number
        rw [hul, wipeC_len] at e3
        have e4 : σ2.length = σ.length := by
          have i1 : ∀ i, i ∉ own.map (·.2) → σ2[i]? = σ[i]? := hσ
          refine Nat.le_antisymm ?_ ?_
          · refine Nat.le_of_not_lt fun h => ?_
            by_cases hm : σ.length ∈ own.map (·.2)
            · have := hz q0.2 _ hm
              rw [List.getElem?_eq_none (by omega)] at this
              cases this
            · have := i1 σ.length hm
              rw [List.getElem?_eq_getElem h, List.getElem?_eq_none (Nat.le_refl _)] at this
              cases this
          · refine Nat.le_of_not_lt fun h => ?_
            by_cases hm : σ2.length ∈ own.map (·.2)
            · have := hz s _ hm
              rw [List.getElem?_eq_none (by omega)] at this
              cases this
            · have := i1 σ2.length hm
              rw [List.getElem?_eq_getElem h, List.getElem?_eq_none (Nat.le_refl _)] at this
              cases this
        omega
      exact l1
    refine ⟨fun i m H => m = q0.1.length - i ∧ i ≤ q0.1.length ∧ ∃ (W1 : Wd) (Fs : List Addr) (s : τ) (acc : List V) (as : List β) (bs : List β × τ) (Fa : List Addr), W1.H = H ∧ Stp W F W1 (Fs ++ (D :: Fa)) ∧ Ex W'.B W1.B ∧ Sta (Γ s) σ W1 Fs ∧ W1.H D = some (.lst acc) ∧ as.length ≤ i ∧
      compGoE mt me (q0.1.drop i) s = some bs ∧ (as ++ bs.1, bs.2) = ys ∧ Owns R W1 acc as Fa ∧ FpOk W1 (Fs ++ (D :: Fa)),
      ⟨q0.1.length, by simp, Nat.zero_le _, ⟨upd W'.H D (.lst []), W'.B⟩, Fi, q0.2, [], [], ys, [], rfl, ?_, Ex.refl _, sai.ext (Ext.new sai.ok hD), upd_same, Nat.le_refl _, by simpa using h2, rfl, rfl, ?_⟩, ?_⟩
    · refine stp0.trans ((Ext.new (o := .lst []) sai.ok hD).stp fun a ha => ?_)
      rw [List.mem_singleton.mp ha]
      exact hD
    · exact sai.fp.fresh (Ext.new (o := .lst []) sai.ok hD) (fp_one (sai.ok.back hD)) fun a ha => by rw [List.mem_singleton.mp ha]; exact hD
    rintro i m H ⟨rfl, hi', W1, Fs, s1, acc, as, bs, Fa, rfl, stp1, eb1, sa1, d1, la, c1, c2, o1, f1⟩
    obtain ⟨iok1, iok2⟩ := iok W1 ⟨sa1.ok, eb1⟩
    by_cases hlt : i < q0.1.length
    · obtain ⟨g1, g2⟩ := iok1 i q0.1[i] (List.getElem?_eq_getElem hlt)
      refine .inr ⟨g1, fun H' => ∃ m', m' < q0.1.length - i ∧ (m' = q0.1.length - (i + 1) ∧ i + 1 ≤ q0.1.length ∧ ∃ (W1 : Wd) (Fs : List Addr) (s : τ) (acc : List V) (as : List β) (bs : List β × τ) (Fa : List Addr), W1.H = H' ∧ Stp W F W1 (Fs ++ (D :: Fa)) ∧ Ex W'.B W1.B ∧ Sta (Γ s) σ W1 Fs ∧ W1.H D = some (.lst acc) ∧ as.length ≤ i + 1 ∧
        compGoE mt me (q0.1.drop (i + 1)) s = some bs ∧ (as ++ bs.1, bs.2) = ys ∧ Owns R W1 acc as Fa ∧ FpOk W1 (Fs ++ (D :: Fa))), fun H' h => h, fun v H' y => ?_⟩
      obtain ⟨W2, rfl, e2, p2⟩ := g2 v H' y
      have hDrop : q0.1.drop i = q0.1[i] :: q0.1.drop (i + 1) := List.drop_eq_getElem_cons hlt
      rw [hDrop] at c1
      obtain ⟨b, t1, t2⟩ := run1 (f := fun b : Bool × τ => bif b.1 then (me q0.1[i] b.2).bind fun y => (compGoE mt me (q0.1.drop (i + 1)) y.2).bind fun r => some (y.1 :: r.1, r.2) else compGoE mt me (q0.1.drop (i + 1)) b.2) c1
      obtain ⟨Fw, sw, subw⟩ := (sa1.ext e2).wipe (own.map (·.2))
      refine hg _ _ W2 Fw q0.1[i] v sw (fun j hj => by rw [wipeC_len]; exact hl s1 j hj) p2 _ fun σ2 F2 wp _ s2 sub2 => ?_
      have hσ : ∀ i, i ∉ own.map (·.2) → σ2[i]? = σ[i]? := fun i hn => by
        have e := wp _ hw
        have e1 : (wipe σ2 (own.map (·.2)))[i]? = (wipe (wipe σ (own.map (·.2))) (own.map (·.2)))[i]? := by rw [e]
        rw [wipe_out hn, wipe_out hn, wipe_out hn] at e1
        exact e1
      refine ⟨by rw [wp _ hw]; exact jc_of.wipe_wipe σ (own.map (·.2)), ?_⟩
      have sub12 : ∀ a ∈ F2, a ∈ Fs := fun a ha => subw a (sub2 a ha)
      refine ht q0.1[i] s1 σ2 W2 F2 s2 b t1 _ fun W3 F3 stp3 sa3 => ?_
      -- what is owned beside the block stays
      have keep3 : ∀ a, a ∈ D :: Fa → W3.H a = W1.H a := fun a ha => by
        have n1 : a ∉ Fs := fun z => f1.disj a z ha
        have al := f1.al a (List.mem_append_right _ ha)
        have h2 := e2.h.eq al
        cases q : W2.H a with
        | none => rw [h2] at q; exact absurd q al
        | some o => rw [stp3.h a o q fun z => n1 (sub12 a z), ← q, h2]
      have fr3 : ∀ a, a ∈ D :: Fa → W3.B a = none := fun a ha => by
        have n1 : a ∉ Fs := fun z => f1.disj a z ha
        have al := f1.al a (List.mem_append_right _ ha)
        exact stp3.fr a (e2.h.ne al) (e2.fr a al (f1.fr a (List.mem_append_right _ ha))) fun z => n1 (sub12 a z)
      have al3 : ∀ a, a ∈ D :: Fa → W3.H a ≠ none := fun a ha => by rw [keep3 a ha]; exact f1.al a (List.mem_append_right _ ha)
      have stp13 : Stp W1 Fs W3 F3 := (((e2.stp0 (F := Fs)).perm sub12).trans stp3)
      have stpT : ∀ {W4 : Wd} {F4 G : List Addr}, Stp W1 Fs W4 (F4 ++ G) → Stp W1 (Fs ++ (D :: Fa)) W4 (F4 ++ ((D :: Fa) ++ G)) := fun {W4 F4 G} st => by
        refine ⟨st.ok, st.b, fun a o h n => st.h a o h fun z => n (List.mem_append_left _ z), st.al, fun a h1 h2 n => st.fr a h1 h2 fun z => n (List.mem_append_left _ z), fun a ha => ?_⟩
        rcases List.mem_append.mp ha with z | z
        · exact (st.fp a (List.mem_append_left _ z)).imp (fun w => List.mem_append_left _ w) id
        · rcases List.mem_append.mp z with z | z
          · exact .inl (List.mem_append_right _ z)
          · exact (st.fp a (List.mem_append_right _ z)).imp (fun w => List.mem_append_left _ w) id
      obtain ⟨b1, b2⟩ := b
      cases b1 with
      | true =>
        obtain ⟨y1, t3, t4⟩ := run1 (f := fun y : β × τ => (compGoE mt me (q0.1.drop (i + 1)) y.2).bind fun r => some (y.1 :: r.1, r.2)) t2
        obtain ⟨r1, t5, t6⟩ := run1 (f := fun r : List β × τ => some (y1.1 :: r.1, r.2)) t4
        cases t6
        refine iteT (he q0.1[i] b2 σ2 W3 F3 sa3 y1 t3 _ fun u W4 F4 Fu stp4 sa4 fp4 r4 => ?_)
        obtain ⟨F5, sa5, sub5⟩ := back hσ sa4
        have stp14 : Stp W1 Fs W4 (F4 ++ Fu) := stp13.trans stp4
        have keep4 : ∀ a, a ∈ D :: Fa → W4.H a = W1.H a := fun a ha => by
          have n1 : a ∉ Fs := fun z => f1.disj a z ha
          have al := f1.al a (List.mem_append_right _ ha)
          cases q : W1.H a with
          | none => exact absurd q al
          | some o => exact stp14.h a o q n1
        have fr4 : ∀ a, a ∈ D :: Fa → W4.B a = none := fun a ha => by
          have n1 : a ∉ Fs := fun z => f1.disj a z ha
          exact stp14.fr a (f1.al a (List.mem_append_right _ ha)) (f1.fr a (List.mem_append_right _ ha)) n1
        have hD4 : W4.H D = some (.lst acc) := (keep4 D List.mem_cons_self).trans d1
        have ha4 : acc.length < LIM := by
          have := o1.len
          omega
        have nd1 := List.nodup_cons.mp f1.right.nd
        have apart : ∀ a ∈ F4 ++ Fu, a ∉ D :: Fa := fun a ha z => by
          rcases stp14.fp a ha with w | w
          · exact f1.disj a w z
          · exact f1.al a (List.mem_append_right _ z) w
        have nD : ∀ a ∈ Fa ++ Fu, a ≠ D := fun a ha z => by
          rcases List.mem_append.mp ha with h | h
          · exact nd1.1 (z ▸ h)
          · exact apart a (List.mem_append_right _ h) (z ▸ List.mem_cons_self)
        have nD5 : ∀ a ∈ F5, a ≠ D := fun a ha z => apart a (List.mem_append_left _ (sub5 a ha)) (z ▸ List.mem_cons_self)
        have A1 : Owns R W4 acc as Fa := o1.loc stp14.b fun a ha => keep4 a (List.mem_cons_of_mem _ ha)
        have A3 : Owns R W4 (acc ++ [u]) (as ++ [y1.1]) (Fa ++ Fu) := A1.app ⟨Fu, [], (List.append_nil _).symm, r4, rfl⟩
        have fA : FpOk W4 (F5 ++ ((D :: Fa) ++ Fu)) := by
          have x1 : FpOk W4 (D :: Fa) := ⟨f1.right.nd, fun a ha => by rw [keep4 a ha]; exact f1.al a (List.mem_append_right _ ha), fr4⟩
          have x2 : FpOk W4 ((D :: Fa) ++ Fu) := x1.app fp4.right fun a ha z => apart a (List.mem_append_right _ z) ha
          refine sa5.fp.app x2 fun a ha z => ?_
          rcases List.mem_append.mp z with z | z
          · exact apart a (List.mem_append_left _ (sub5 a ha)) z
          · exact fp4.disj a (sub5 a ha) z
        have hBD : W4.B D = none := fr4 D List.mem_cons_self
        refine ⟨acc, hD4, lim_lt ha4, q0.1.length - (i + 1), by omega, rfl, hlt, ⟨upd W4.H D (.lst (acc ++ [u])), W4.B⟩, F5, y1.2, acc ++ [u], as ++ [y1.1], r1, Fa ++ Fu, rfl, ?_, eb1.trans stp14.b, ?_, upd_same, ?_, t5, ?_, ?_, ?_⟩
        · have z1 : Stp W F W4 (F4 ++ ((D :: Fa) ++ Fu)) := stp1.trans (stpT stp14)
          have z2 : Stp W F W4 (F5 ++ ((D :: Fa) ++ Fu)) := z1.perm fun a ha => by
            rcases List.mem_append.mp ha with h | h
            · exact List.mem_append_left _ (sub5 a h)
            · exact List.mem_append_right _ h
          refine z2.trans ⟨wr_ok sa5.ok hBD, Ex.refl _, fun a o h n => ?_, wr_al, fun a _ h2 _ => h2, fun a ha => .inl ha⟩
          show upd W4.H D _ a = some o
          rw [upd_ne fun z => n (by rw [z]; simp)]
          exact h
        · refine ⟨wr_ok sa5.ok hBD, ⟨sa5.fp.nd, fun a ha => wr_al a (sa5.fp.al a ha), sa5.fp.fr⟩, sa5.len, Holds.loc (W := W4) (W' := ⟨upd W4.H D (.lst (acc ++ [u])), W4.B⟩) (fun _ _ h => h) sa5.hold fun a ha => ?_⟩
          show upd W4.H D _ a = W4.H a
          exact upd_ne (nD5 a ha)
        · rw [List.length_append, List.length_singleton]
          omega
        · rw [← c2]
          simp
        · exact Owns.loc (W := W4) (W' := ⟨upd W4.H D (.lst (acc ++ [u])), W4.B⟩) (fun _ _ h => h) A3 fun a ha => by
            show upd W4.H D (.lst (acc ++ [u])) a = W4.H a
            exact upd_ne (nD a ha)
        · exact ⟨fA.nd, fun a ha => wr_al a (fA.al a ha), fA.fr⟩
      | false =>
        obtain ⟨F5, sa5, sub5⟩ := back hσ sa3
        have stp14 : Stp W1 Fs W3 (F3 ++ []) := by rw [List.append_nil]; exact stp13
        refine iteF ⟨q0.1.length - (i + 1), by omega, rfl, hlt, W3, F5, b2, acc, as, bs, Fa, rfl, ?_, eb1.trans stp13.b, sa5, (keep3 D List.mem_cons_self).trans d1, by omega, t2, c2, o1.loc stp13.b fun a ha => keep3 a (List.mem_cons_of_mem _ ha), ?_⟩
        · have z1 := stp1.trans (stpT stp14)
          rw [List.append_nil] at z1
          exact z1.perm fun a ha => by
            rcases List.mem_append.mp ha with h | h
            · exact List.mem_append_left _ (sub5 a h)
            · exact List.mem_append_right _ h
        · refine sa5.fp.app ⟨f1.right.nd, al3, fr3⟩ fun a ha z => ?_
          rcases stp13.fp a (sub5 a ha) with w | w
          · exact f1.disj a w z
          · exact f1.al a (List.mem_append_right _ z) w
    · have ei : i = q0.1.length := by omega
      subst ei
      rw [List.drop_length] at c1
      cases c1
      rw [List.append_nil] at c2
      subst c2
      exact .inl ⟨iok2 _ (Nat.le_refl _), k (.ref D) W1 Fs (D :: Fa) stp1 sa1 f1 ⟨D, acc, Fa, rfl, d1, rfl, o1⟩⟩
  · cases h2
/-- what a target changes -/
theorem up1 {E : α → SP} (i : Nat) : ∀ (x : α) (Γ : Ctx) (j : Nat), j ∉ [i] → (Γ.set i (some (sh (E x))))[j]? = Γ[j]? := fun x Γ j h => List.getElem?_set_ne fun z => h (by simp [z])
theorem up1l {E : α → SP} (i : Nat) : ∀ (x : α) (Γ : Ctx), (Γ.set i (some (sh (E x)))).length = Γ.length := fun x Γ => List.length_set
theorem up2 {E : α → SP} {G : β → SP} (i k : Nat) : ∀ (x : α × β) (Γ : Ctx) (j : Nat), j ∉ [i, k] → ((Γ.set i (some (sh (E x.1)))).set k (some (sh (G x.2))))[j]? = Γ[j]? := fun x Γ j h => by
  rw [List.getElem?_set_ne fun z => h (by simp [z]), List.getElem?_set_ne fun z => h (by simp [z])]
theorem up2l {E : α → SP} {G : β → SP} (i k : Nat) : ∀ (x : α × β) (Γ : Ctx), ((Γ.set i (some (sh (E x.1)))).set k (some (sh (G x.2)))).length = Γ.length := fun x Γ => by rw [List.length_set, List.length_set]
/-- without tests -/
theorem JC.cong {scope : Scope} {Γ : Ctx} {m m' : Option α} {R : α → OP} (h : JC S elt tg iter ifs scope Γ m R) (q : m = m') : JC S elt tg iter ifs scope Γ m' R := q ▸ h
theorem JCE.cong {scope : Scope} {m m' : Option (α × τ)} {R : α → OP} (h : JCE S elt tg iter ifs scope Γ s m R) (q : m = m') : JCE S elt tg iter ifs scope Γ s m' R := q ▸ h
theorem jc_map {scope : Scope} {Γ : Ctx} {mi : Option (List α)} {E : α → SP} {up : α → Ctx → Ctx} {ws : List Nat} {me : α → Option β} {R : β → OP} (own : List (Str × Nat)) (hi : JIc S tg iter Γ mi E) (ok : blkC S.N S.sc scope own = true) (hg : JG (S.blk scope) tg E up ws)
    (hw : ∀ i ∈ ws, i ∈ own.map (·.2)) (hl : ∀ i ∈ ws, i < Γ.length) (he : ∀ x, JN (S.blk scope) elt (up x (wipeC Γ (own.map (·.2)))) (me x) R) : JC S elt tg iter [] scope Γ (mi.bind fun xs => mapM me xs) fun ys => lstO R ys :=
  (jc_of own hi ok hg hw hl (fun _ => jts_nil) he).cong (by simp only [mapM_eq])
theorem jce_map {scope : Scope} {mi : Option (List α × τ)} {E : α → SP} {up : α → Ctx → Ctx} {ws : List Nat} {me : α → τ → Option (β × τ)} {R : β → OP} (own : List (Str × Nat)) (hi : JIE S tg iter Γ s mi E) (ok : blkC S.N S.sc scope own = true) (hg : JG (S.blk scope) tg E up ws)
    (hw : ∀ i ∈ ws, i ∈ own.map (·.2)) (hl : ∀ s, ∀ i ∈ ws, i < (Γ s).length) (hu : ∀ x Γ i, i ∉ ws → (up x Γ)[i]? = Γ[i]?) (hul : ∀ x Γ, (up x Γ).length = Γ.length) (hz : ∀ s, ∀ i ∈ own.map (·.2), (Γ s)[i]? = some none)
    (he : ∀ x s, JE (S.blk scope) elt (fun s => up x (wipeC (Γ s) (own.map (·.2)))) s (me x s) R) : JCE S elt tg iter [] scope Γ s (mi.bind fun q => mapME me q.1 q.2) fun ys => lstO R ys :=
  (jce_of own hi ok hg hw hl hu hul hz (fun _ _ => jtse_nil) he).cong (by simp only [mapME_eq])
end
end CC
set_option maxHeartbeats 4000000
/-! Further rules: keywords, moves, sorting, isinstance. -/
namespace CC
open PySem PySem.Spec L2
open PyProof.Rows hiding St
variable {α β γ δ τ ω ρ υ : Type}
/-! ### what is reckoned -/
def maskC : List Bool → Ctx → Ctx
  | b :: bs, e :: Γ => (if b then e else none) :: maskC bs Γ
  | _, Γ => Γ.map fun _ => none
theorem weak_none : ∀ Γ : Ctx, Weak Γ (Γ.map fun _ => none)
  | [] => .nil
  | _ :: Γ => .drop (weak_none Γ)
theorem weak_mask : ∀ (bs : List Bool) (Γ : Ctx), Weak Γ (maskC bs Γ)
  | [], [] => .nil
  | [], e :: Γ => .drop (weak_none Γ)
  | _ :: _, [] => .nil
  | true :: bs, e :: Γ => .same (weak_mask bs Γ)
  | false :: bs, e :: Γ => .drop (weak_mask bs Γ)
theorem all_lt {ws : List Nat} {Γ : Ctx} (h : (ws.all fun i => (Γ[i]?).isSome) = true) : ∀ i ∈ ws, i < Γ.length := fun i hi => by
  have := List.all_eq_true.mp h i hi
  cases q : Γ[i]? with
  | none => rw [q] at this; cases this
  | some o => exact (List.getElem?_eq_some_iff.mp q).1
def isNon : Option (Option OP) → Bool
  | some none => true
  | _ => false
theorem all_non {ws : List Nat} {Γ : Ctx} (h : (ws.all fun i => isNon Γ[i]?) = true) : ∀ i ∈ ws, Γ[i]? = some none := fun i hi => by
  have := List.all_eq_true.mp h i hi
  cases q : Γ[i]? with
  | none => rw [q] at this; cases this
  | some o =>
    rw [q] at this
    cases o with
    | none => rfl
    | some o => cases this
/-! ### sorting -/
def ins (le : α → α → Bool) (x : α) : List α → List α
  | [] => [x]
  | y :: ys => if le x y then x :: y :: ys else y :: ins le x ys
def isort (le : α → α → Bool) : List α → List α
  | [] => []
  | x :: xs => ins le x (isort le xs)
theorem ins_perm (le : α → α → Bool) (x : α) : ∀ ys : List α, (ins le x ys).Perm (x :: ys)
  | [] => .refl _
  | y :: ys => by
    show (if le x y then x :: y :: ys else y :: ins le x ys).Perm _
    split
    · exact .refl _
    · exact (List.Perm.cons y (ins_perm le x ys)).trans (.swap x y ys)
theorem isort_perm (le : α → α → Bool) : ∀ xs : List α, (isort le xs).Perm xs
  | [] => .refl _
  | x :: xs => (ins_perm le x _).trans (.cons x (isort_perm le xs))
theorem ins_srt {le : α → α → Bool} (tot : ∀ a b, le a b = true ∨ le b a = true) (tr : ∀ a b c, le a b = true → le b c = true → le a c = true) (x : α) : ∀ ys : List α, ys.Pairwise (fun a b => le a b = true) → (ins le x ys).Pairwise fun a b => le a b = true
  | [], _ => by simp [ins]
  | y :: ys, h => by
    obtain ⟨h1, h2⟩ := List.pairwise_cons.mp h
    show (if le x y then x :: y :: ys else y :: ins le x ys).Pairwise _
    split
    · rename_i hle
      refine List.pairwise_cons.mpr ⟨fun z hz => ?_, h⟩
      rcases List.mem_cons.mp hz with e | hz
      · rw [e]; exact hle
      · exact tr x y z hle (h1 z hz)
    · rename_i hle
      refine List.pairwise_cons.mpr ⟨fun z hz => ?_, ins_srt tot tr x ys h2⟩
      rcases List.mem_cons.mp ((ins_perm le x ys).mem_iff.mp hz) with e | hz
      · rw [e]; exact (tot x y).resolve_left hle
      · exact h1 z hz
theorem isort_srt {le : α → α → Bool} (tot : ∀ a b, le a b = true ∨ le b a = true) (tr : ∀ a b c, le a b = true → le b c = true → le a c = true) : ∀ xs : List α, (isort le xs).Pairwise fun a b => le a b = true
  | [] => .nil
  | x :: xs => ins_srt tot tr x _ (isort_srt tot tr xs)
/-- two sorted lists of the same things are one -/
theorem srt_uniq {le : α → α → Bool} (an : ∀ a b, le a b = true → le b a = true → a = b) : ∀ {xs ys : List α}, xs.Pairwise (fun a b => le a b = true) → ys.Pairwise (fun a b => le a b = true) → xs.Perm ys → xs = ys
  | [], ys, _, _, p => (List.Perm.nil_eq p)
  | x :: xs, [], _, _, p => by have := p.length_eq; simp at this
  | x :: xs, y :: ys, h, k, p => by
    obtain ⟨h1, h2⟩ := List.pairwise_cons.mp h
    obtain ⟨k1, k2⟩ := List.pairwise_cons.mp k
    have e : x = y := by
      rcases List.mem_cons.mp (p.mem_iff.mp List.mem_cons_self) with e | m1
      · exact e
      rcases List.mem_cons.mp (p.mem_iff.mpr List.mem_cons_self) with e | m2
      · exact e.symm
      exact an x y (h1 y m2) (k1 x m1)
    subst e
    rw [srt_uniq an h2 k2 (List.Perm.cons_inv p)]
def leI (a b : Int) : Bool := decide (a ≤ b)
def leP (a b : Int × Int) : Bool := decide (a.1 < b.1) || (decide (a.1 = b.1) && decide (a.2 ≤ b.2))
theorem leP_iff {a b : Int × Int} : leP a b = true ↔ a.1 < b.1 ∨ (a.1 = b.1 ∧ a.2 ≤ b.2) := by
  unfold leP
  simp
theorem leP_tot (a b : Int × Int) : leP a b = true ∨ leP b a = true := by rw [leP_iff, leP_iff]; omega
theorem leP_tr (a b c : Int × Int) (h : leP a b = true) (k : leP b c = true) : leP a c = true := by rw [leP_iff] at *; omega
theorem leP_an (a b : Int × Int) (h : leP a b = true) (k : leP b a = true) : a = b := by
  rw [leP_iff] at *
  obtain ⟨a1, a2⟩ := a
  obtain ⟨b1, b2⟩ := b
  simp only at h k
  have e1 : a1 = b1 := by omega
  have e2 : a2 = b2 := by omega
  rw [e1, e2]
theorem leI_tot (a b : Int) : leI a b = true ∨ leI b a = true := by unfold leI; simp; omega
theorem leI_tr (a b c : Int) (h : leI a b = true) (k : leI b c = true) : leI a c = true := by unfold leI at *; simp at *; omega
theorem leI_an (a b : Int) (h : leI a b = true) (k : leI b a = true) : a = b := by unfold leI at *; simp at *; omega
def sortP (xs : List (Int × Int)) : List (Int × Int) := isort leP xs
def sortI (xs : List Int) : List Int := isort leI xs
section
variable {S : Stc} {Γ Δ : Ctx} {a b c e tg iter elt : Expr} {es ifs : List Expr} {pos : Pos} {st : Stmt} {rest A B : List Stmt}
/-- an owned slot is handed back, or moved -/
theorem sta_take {σ : L2.St} {W : Wd} {F : List Addr} {i : Nat} {o : OP} (sta : Sta Γ σ W F) (hi : Γ[i]? = some (some o)) : ∃ v F1 F2, σ[i]? = some (some v) ∧ o.C W v F1 ∧ F.Perm (F2 ++ F1) ∧ Sta (Γ.set i none) σ W F2 := by
  have go : ∀ {Γ : Ctx} {σ : L2.St} {F : List Addr} {i : Nat}, Holds Γ σ W F → Γ[i]? = some (some o) → ∃ v F1 F2, σ[i]? = some (some v) ∧ o.C W v F1 ∧ F.Perm (F2 ++ F1) ∧ Holds (Γ.set i none) σ W F2 := by
    intro Γ
    induction Γ with
    | nil => intro σ F i h e; simp at e
    | cons g Γ ih =>
      intro σ F i h e
      cases i with
      | zero =>
        have : g = some o := by simpa using e
        subst this
        obtain ⟨v, F1, F2, h1, h2, h3, h4⟩ := h
        refine ⟨v, F1, F2, ?_, h3, by subst h2; exact List.perm_append_comm, h4⟩
        rw [← List.head?_eq_getElem?]
        exact h1
      | succ i =>
        cases g with
        | none =>
          obtain ⟨v, F1, F2, a1, a2, a3, a4⟩ := ih (σ := σ.tail) (i := i) h (by simpa using e)
          rw [List.getElem?_tail] at a1
          exact ⟨v, F1, F2, a1, a2, a3, a4⟩
        | some p =>
          obtain ⟨u, G1, G2, h1, h2, h3, h4⟩ := h
          obtain ⟨v, F1, F2, a1, a2, a3, a4⟩ := ih (σ := σ.tail) (i := i) h4 (by simpa using e)
          rw [List.getElem?_tail] at a1
          subst h2
          refine ⟨v, F1, G1 ++ F2, a1, a2, ?_, u, G1, F2, h1, rfl, h3, a4⟩
          rw [List.append_assoc]
          exact List.Perm.append_left G1 a3
  obtain ⟨v, F1, F2, a1, a2, a3, a4⟩ := go sta.hold hi
  exact ⟨v, F1, F2, a1, a2, a3, sta.ok, (sta.fp.perm a3).left, by rw [List.length_set]; exact sta.len, a4⟩
theorem jb_retO {x : Str} {p0 : Pos} {R : α → OP} {a : α} (i : Nat) (w : Weak (Γ.set i none) Δ) (hi : Γ[i]? = some (some (R a)) := by rfl) (hN : S.N[i]? = some x := by rfl) (hv : Vis S.sc x := by first | exact Or.inl rfl | exact Or.inr (Or.inl rfl) | exact Or.inr (Or.inr rfl))
    (hd : (x == ("__debug__" : Str)) = false := by decide) (hcd : (x == ("__classdict__" : Str)) = false := by decide) : JB S (.Return (some (.Name x p0)) pos :: rest) Γ (some a) fun r => .rt Δ (R r) := fun σ W F sta y hy E k => by
  cases hy
  obtain ⟨v, F1, F2, h1, h2, h3, h4⟩ := sta_take sta hi
  obtain ⟨F', s', sub⟩ := h4.weak w
  have fp := sta.fp.perm h3
  refine ⟨tSeq (tRet (tVar i)) tNever, fun X hX => pss_cons (ps_ret (pe_var (by rw [hX.N]; exact hN) (visS hv hX) hd hcd)) pss_never, v, h1, ?_⟩
  refine k v σ W F' F1 Keep.refl ((Stp.refl sta.ok).perm fun a ha => ?_) s' (s'.fp.app fp.right fun a ha => fp.disj a (sub a ha)) h2
  rcases List.mem_append.mp ha with h | h
  · exact h3.mem_iff.mpr (List.mem_append_left _ (sub a h))
  · exact h3.mem_iff.mpr (List.mem_append_right _ h)
/-- the same beside a state -/
theorem jb_retOS {x : Str} {p0 : Pos} {R : α → OP} {a : α} {s : τ} {Δ : τ → Ctx} (i : Nat) (w : Weak (Γ.set i none) (Δ s)) (hi : Γ[i]? = some (some (R a)) := by rfl) (hN : S.N[i]? = some x := by rfl) (hv : Vis S.sc x := by first | exact Or.inl rfl | exact Or.inr (Or.inl rfl) | exact Or.inr (Or.inr rfl))
    (hd : (x == ("__debug__" : Str)) = false := by decide) (hcd : (x == ("__classdict__" : Str)) = false := by decide) : JB S (.Return (some (.Name x p0)) pos :: rest) Γ (some (a, s)) fun q => .rt (Δ q.2) (R q.1) := fun σ W F sta y hy E k => by
  cases hy
  obtain ⟨v, F1, F2, h1, h2, h3, h4⟩ := sta_take sta hi
  obtain ⟨F', s', sub⟩ := h4.weak w
  have fp := sta.fp.perm h3
  refine ⟨tSeq (tRet (tVar i)) tNever, fun X hX => pss_cons (ps_ret (pe_var (by rw [hX.N]; exact hN) (visS hv hX) hd hcd)) pss_never, v, h1, ?_⟩
  refine k v σ W F' F1 Keep.refl ((Stp.refl sta.ok).perm fun a ha => ?_) s' (s'.fp.app fp.right fun a ha => fp.disj a (sub a ha)) h2
  rcases List.mem_append.mp ha with h | h
  · exact h3.mem_iff.mpr (List.mem_append_left _ (sub a h))
  · exact h3.mem_iff.mpr (List.mem_append_right _ h)
/-- a pure expression handed back beside a state -/
theorem jb_retS {m : Option α} {s : τ} {R : α → OP} {Δ : τ → Ctx} (w : Weak Γ (Δ s)) (h : JN S e Γ m R) : JB S (.Return (some e) pos :: rest) Γ (m.bind fun x => some (x, s)) fun q => .rt (Δ q.2) (R q.1) := fun σ W F sta z hz E k => by
  obtain ⟨x, h1, h2⟩ := run1 hz
  cases h2
  exact jb_ret (rest := rest) (pos := pos) w h σ W F sta x h1 E k
/-- y = x, what x owned is y's now -/
theorem js_move {x y : Str} {p0 p1 : Pos} {o : OP} (i j : Nat) (nd : S.N.Nodup) (hj : Γ[j]? = some (some o) := by rfl) (hi : (Γ[i]?).isSome = true := by rfl) (hNj : S.N[j]? = some y := by rfl) (hN : S.N[i]? = some x := by rfl) (hv : Vis S.sc y := by first | exact Or.inl rfl | exact Or.inr (Or.inl rfl) | exact Or.inr (Or.inr rfl)) (hx : Loc S.sc x := by first | exact Or.inl rfl | exact Or.inr rfl)
    (hp : (S.prot.contains i) = false := by rfl) (hd : (y == ("__debug__" : Str)) = false := by decide) (hcd : (y == ("__classdict__" : Str)) = false := by decide) (hs : ∀ env, swapsWith (.Name y p1) (some (.Name x p0)) pos.line env = pure false := by intro _; rfl) (hf : S.fn x = true ∨ S.sc.names.lookup x = some .local := by first | exact .inl rfl | exact .inr rfl) :
    JS S (.Assign [.Name x p0] (.Name y p1) pos) Γ (some ()) fun _ => .nx ((Γ.set j none).set i (some o)) := fun σ W F sta z hz E k => by
  obtain ⟨v, F1, F2, h1, h2, h3, h4⟩ := sta_take sta hj
  have hl : i < (Γ.set j none).length := by
    rw [List.length_set]
    cases h : Γ[i]? with
    | none => rw [h] at hi; cases hi
    | some o => exact (List.getElem?_eq_some_iff.mp h).1
  obtain ⟨F', s', sub⟩ := h4.put hl h2 (sta.fp.perm h3)
  refine ⟨tAsg (tVar j) (gName i), fun X hX => ps_set (by rw [hX.N]; exact nd) (by rw [hX.N]; exact hN) (locS hx hX) (pe_var (by rw [hX.N]; exact hNj) (visS hv hX) hd hcd) (hs _) (by rw [hX.fn, hX.sc]; exact hf), v, h1, ?_⟩
  exact k _ W F' (Keep.set fun z => by rw [List.contains_iff_mem.mpr z] at hp; cases hp) ((Stp.refl sta.ok).perm fun a ha => h3.mem_iff.mpr (sub a ha)) s'
/-! ### xs[::-1], xs + ys -/
theorem jn_revL {E : α → SP} {m : Option (List α)} {k : Nat} {p1 p2 p3 : Pos} (h : JR S a Γ m (lstO fun x => sh (E x))) : JN S (.Subscript a (.Slice none none (some (.UnaryOp .USub (.Constant (.int 1) k p1) p2)) p3) pos) Γ (m.bind fun xs => some xs.reverse) (lstO fun x => sh (E x)) := fun σ W F sta z hz Q kq => by
  obtain ⟨x, h1, h2⟩ := run1 hz
  cases h2
  refine ⟨tRevL S.K (tOf S a), fun X hX => hX.K ▸ pe_revL (peO hX), h σ W F sta x h1 _ fun v W' ext ⟨F1, r, al⟩ => ?_⟩
  obtain ⟨p, vs, F2, rfl, q2, rfl, q3⟩ := r
  obtain ⟨_, q4⟩ := q3.each
  exact ⟨p, vs, rfl, .inl (.inl q2), (kq.ext ext).newL ext.ok q4.rev⟩
theorem jn_revS {E : α → SP} {m : Option (List α)} {k : Nat} {p1 p2 p3 : Pos} (h : JN S a Γ m fun x => sh (lstS E x)) : JN S (.Subscript a (.Slice none none (some (.UnaryOp .USub (.Constant (.int 1) k p1) p2)) p3) pos) Γ (m.bind fun xs => some xs.reverse) (lstO fun x => sh (E x)) := fun σ W F sta z hz Q kq => by
  obtain ⟨x, h1, h2⟩ := run1 hz
  cases h2
  refine ⟨tRevL S.K (tOf S a), fun X hX => hX.K ▸ pe_revL (peO hX), h σ W F sta x h1 _ fun v W' Fv ext _ _ r => ?_⟩
  obtain ⟨_, p, vs, rfl, q2, q3⟩ := r
  exact ⟨p, vs, rfl, .inl (.inl (ext.ok p _ q2)), (kq.ext ext).newL ext.ok q3.rev⟩
def catM (xs ys : List α) : Option (List α) := if xs.length + ys.length ≤ LIM then some (xs ++ ys) else none
theorem ov_cat {E : α → SP} : OpV rCat (lstS E) (lstS E) catM (lstO fun x => sh (E x)) := fun W x y v u z ok hx hy e Q k => by
  unfold catM at e
  split at e
  · rename_i hl
    cases e
    obtain ⟨a, vs, rfl, a2, a3⟩ := hx
    obtain ⟨b, us, rfl, b2, b3⟩ := hy
    exact ⟨a, b, vs, us, rfl, rfl, ok a _ a2, ok b _ b2, lim_le (by rw [a3.len, b3.len]; exact hl), k.newL ok (a3.app b3)⟩
  · cases e
theorem oCat : ∀ X, S.In X → OpR X (binaryOp .Add) rCat := fun _ _ => op_cat
/-! ### isinstance -/
class HasTy (E : α → SP) (n : outParam String) : Prop where
  ty : ∀ K x B H v, Ex B H → (E x).P B v → TyX K H v (.type n)
instance : HasTy intS "int" := ⟨fun K x B H v _ h => by cases h; exact .base (.int x)⟩
instance : HasTy boolS "bool" := ⟨fun K x B H v _ h => by cases h; exact .base (.bl x)⟩
instance : HasTy strS "str" := ⟨fun K x B H v _ h => by cases h; exact .base (.str x)⟩
instance : HasTy (fun _ : Unit => nonS) "NoneType" := ⟨fun K x B H v _ h => by cases h; exact .base .non⟩
instance {E : α → SP} : HasTy (lstS E) "list" := ⟨fun K x B H v e h => by obtain ⟨a, vs, rfl, h2, _⟩ := h; exact .base (.lst (e a _ h2))⟩
instance {E : α → SP} : HasTy (tupS E) "tuple" := ⟨fun K x B H v e h => by obtain ⟨a, vs, rfl, h2, _⟩ := h; exact .base (.tup (e a _ h2))⟩
instance {E : α → SP} {G : β → SP} : HasTy (prS E G) "tuple" := ⟨fun K x B H v e h => by obtain ⟨a, vs, rfl, h2, _⟩ := h; exact .base (.tup (e a _ h2))⟩
theorem jn_ty {x : Str} {n : String} (hm : S.mg x = none) (hg : GlS S x := by rfl) (hv : bootBuiltins x = some (.type n) := by decide +kernel) (hn : x ≠ "__name__" := by decide) (hdb : (x == ("__debug__" : Str)) = false := by decide) : JN S (.Name x pos) Γ (some ()) fun _ => sh (valS (.ty n)) :=
  jn_c (E := fun _ : Unit => valS (.ty n)) (fun X hX => pe_bltn (v := .ty n) (hg.gl hX) (mgS hm hX) hv rfl hn hdb) fun _ => rfl
theorem jn_isi {p pc : Pos} {c : Str} {E : α → SP} {n cn : String} [ht : HasTy E n] {m : Option α} (bb : Bool) (hm : S.mg "isinstance" = none) (hmc : S.mg c = none) (h : JN S a Γ m fun x => sh (E x)) (hk : kitB n cn = some bb := by decide +kernel) (hg : GlS S "isinstance" := by rfl) (hgc : GlS S c := by rfl) (hvc : bootBuiltins c = some (.type cn) := by decide +kernel) (hn : c ≠ "__name__" := by decide) (hdb : (c == ("__debug__" : Str)) = false := by decide)
    (hs : ∀ env, starEach [a, .Name c pc] env = [(false, eval a env), (false, eval (.Name c pc) env)] := by intro _; rfl) (hs2 : ∀ env, starEach [Expr.Name c pc] env = [(false, eval (.Name c pc) env)] := by intro _; rfl) : JN S (.Call (.Name "isinstance" p) [a, .Name c pc] [] pos) Γ (m.bind fun _ => some bb) fun z => sh (boolS z) := fun σ W F sta z hz Q kq => by
  obtain ⟨x, h1, h2⟩ := run1 hz
  cases h2
  refine ⟨tCB (rIsi S.K) (tCons (tOf S a) (tCons (tC (.ty cn)) tNil)), fun X hX => pe_callB (hX.K ▸ call_isi) (hg.gl hX) (mgS hm hX) (by decide +kernel) (pa_cons (peO hX) (pa_cons (pe_bltn (v := .ty cn) (hgc.gl hX) (mgS hmc hX) hvc rfl hn hdb) pa_nil (hs2 _)) ((hs _).trans (by rw [hs2]))) (by decide) (by decide) ((hs _).trans (by rw [hs2])) (by rw [hs2]; rfl), h σ W F sta x h1 _ fun v W' Fv ext _ _ r => ?_⟩
  exact ⟨v, .ty cn, .type n, .type cn, bb, rfl, .ty cn, ht.ty S.K x W'.B W'.H v ext.ok r.2, kit_ty hk, (kq.ext ext).val ext.ok rfl⟩
/-! ### all, any, sorted -/
theorem each_bl {B : Hp} : ∀ {vs : List V} {xs : List Bool}, Each boolS B vs xs → vs = xs.map V.bl
  | [], [], _ => rfl
  | v :: vs, x :: xs, h => by
    have e : v = .bl x := h.1
    rw [e, each_bl h.2]
    rfl
  | [], _ :: _, h => h.elim
  | _ :: _, [], h => h.elim
theorem each_int {B : Hp} : ∀ {vs : List V} {xs : List Int}, Each intS B vs xs → vs = xs.map V.int
  | [], [], _ => rfl
  | v :: vs, x :: xs, h => by
    have e : v = .int x := h.1
    rw [e, each_int h.2]
    rfl
  | [], _ :: _, h => h.elim
  | _ :: _, [], h => h.elim
theorem each_of_int {B : Hp} : ∀ xs : List Int, Each intS B (xs.map V.int) xs
  | [] => trivial
  | x :: xs => ⟨rfl, each_of_int xs⟩
theorem all_lst {m : Option (List Bool)} {p : Pos} (hm : S.mg "all" = none) (h : JN S a Γ m fun x => sh (lstS boolS x)) (hg : GlS S "all" := by rfl) (hs : ∀ env, starEach [a] env = [(false, eval a env)] := by intro _; rfl) (hcm : S.calm = true := by rfl) : JN S (.Call (.Name "all" p) [a] [] pos) Γ (m.bind fun xs => some (xs.all id)) fun z => sh (boolS z) :=
  jn_b1 (f := fun xs : List Bool => some (xs.all id)) (fun X hX => hX.K ▸ cr_all (hX.calm.trans hcm)) (fun W x v z ok hh e Q k => by
    cases e
    obtain ⟨a, vs, rfl, h2, h3⟩ := hh
    rw [each_bl h3] at h2
    exact ⟨a, x, rfl, .inl (.inl (ok a _ h2)), k.val ok rfl⟩) hm h hg (by decide +kernel) (by decide) (by decide) hs
theorem any_lst {m : Option (List Bool)} {p : Pos} (hm : S.mg "any" = none) (h : JN S a Γ m fun x => sh (lstS boolS x)) (hg : GlS S "any" := by rfl) (hs : ∀ env, starEach [a] env = [(false, eval a env)] := by intro _; rfl) (hcm : S.calm = true := by rfl) : JN S (.Call (.Name "any" p) [a] [] pos) Γ (m.bind fun xs => some (xs.any id)) fun z => sh (boolS z) :=
  jn_b1 (f := fun xs : List Bool => some (xs.any id)) (fun X hX => hX.K ▸ cr_any (hX.calm.trans hcm)) (fun W x v z ok hh e Q k => by
    cases e
    obtain ⟨a, vs, rfl, h2, h3⟩ := hh
    rw [each_bl h3] at h2
    exact ⟨a, x, rfl, .inl (.inl (ok a _ h2)), k.val ok rfl⟩) hm h hg (by decide +kernel) (by decide) (by decide) hs
theorem each_mem {E : α → SP} {B : Hp} : ∀ {vs : List V} {xs : List α} {v : V}, Each E B vs xs → v ∈ vs → ∃ x, x ∈ xs ∧ (E x).P B v
  | [], [], v, _, h => by simp at h
  | u :: vs, x :: xs, v, h, hv => by
    rcases List.mem_cons.mp hv with e | hv
    · rw [e]; exact ⟨x, List.mem_cons_self, h.1⟩
    · obtain ⟨y, h1, h2⟩ := each_mem h.2 hv
      exact ⟨y, List.mem_cons_of_mem _ h1, h2⟩
  | [], _ :: _, _, h, _ => h.elim
  | _ :: _, [], _, h, _ => h.elim
theorem pr_tup {B : Hp} {p : Int × Int} {v : V} (h : (prS intS intS p).P B v) : ∃ t, v = .ref t ∧ B t = some (.tup [.int p.1, .int p.2]) := by
  obtain ⟨t, vs, rfl, h2, h3⟩ := h
  obtain ⟨v, u, rfl, h4, h5⟩ := hets2 h3
  cases h4
  cases h5
  exact ⟨t, rfl, h2⟩
theorem tup_pr {B : Hp} {p : Int × Int} {t : Addr} (h : B t = some (.tup [.int p.1, .int p.2])) : (prS intS intS p).P B (.ref t) := ⟨t, _, rfl, h, rfl, rfl, trivial⟩
open Classical in
/-- sorted of a list of pairs of whole numbers -/
theorem sorted_prs {m : Option (List (Int × Int))} {p : Pos} (hm : S.mg "sorted" = none) (h : JN S a Γ m fun x => sh (lstS (prS intS intS) x)) (hg : GlS S "sorted" := by rfl) (hs : ∀ env, starEach [a] env = [(false, eval a env)] := by intro _; rfl) : JN S (.Call (.Name "sorted" p) [a] [] pos) Γ (m.bind fun xs => some (sortP xs)) (lstO fun x => sh (prS intS intS x)) :=
  jn_b1 (f := fun xs : List (Int × Int) => some (sortP xs)) (fun X hX => hX.K ▸ cr_sortedPO) (fun W x v z ok hh e Q k => by
    cases e
    obtain ⟨a, vs, rfl, h2, h3⟩ := hh
    -- the pair behind a value
    let kk : V → Int × Int := fun u => if h : ∃ q : Int × Int, (prS intS intS q).P W.B u then h.choose else (0, 0)
    have kspec : ∀ (q : Int × Int) (u : V), (prS intS intS q).P W.B u → kk u = q := fun q u hu => by
      have hex : ∃ q : Int × Int, (prS intS intS q).P W.B u := ⟨q, hu⟩
      have e1 : kk u = hex.choose := dif_pos hex
      have e2 := hex.choose_spec
      rw [← e1] at e2
      obtain ⟨t, rfl, b1⟩ := pr_tup hu
      obtain ⟨t', e3, b2⟩ := pr_tup e2
      cases e3
      rw [b1] at b2
      injection b2 with b2
      injection b2 with b2
      injection b2 with c1 c2
      injection c2 with c2 _
      injection c1 with c1
      injection c2 with c2
      exact Prod.ext c1.symm c2.symm
    refine ⟨a, vs, kk, rfl, .inl (.inl (ok a _ h2)), fun u hu => ?_, fun ys p srt stb np => ?_⟩
    · obtain ⟨q, _, hq⟩ := each_mem h3 hu
      obtain ⟨t, rfl, b1⟩ := pr_tup hq
      rw [kspec q _ hq]
      exact ⟨t, rfl, ok t _ b1⟩
    · have perm : ys.Perm vs := SrtO.Stb.perm stb
      have hmap : vs.map kk = x := by
        clear stb perm h2 k srt np
        induction vs generalizing x with
        | nil => cases x with
          | nil => rfl
          | cons _ _ => exact h3.elim
        | cons u vs ih => cases x with
          | nil => exact h3.elim
          | cons q x => rw [List.map_cons, kspec q u h3.1, ih _ h3.2]
      have hys : ∀ u ∈ ys, (prS intS intS (kk u)).P W.B u := fun u hu => by
        obtain ⟨q, _, hq⟩ := each_mem h3 (perm.mem_iff.mp hu)
        rw [kspec q u hq]
        exact hq
      have hE : Each (prS intS intS) W.B ys (ys.map kk) := by
        clear stb perm srt
        induction ys with
        | nil => trivial
        | cons u ys ih => exact ⟨hys u List.mem_cons_self, ih fun w hw => hys w (List.mem_cons_of_mem _ hw)⟩
      have hsrt : (ys.map kk).Pairwise fun a b => leP a b = true := by
        rw [List.pairwise_map]
        refine List.Pairwise.imp (fun {u w} hn => ?_) srt
        have := SrtO.lexB_no.mp hn
        rw [leP_iff]
        omega
      have e : ys.map kk = sortP x := srt_uniq leP_an hsrt (isort_srt leP_tot leP_tr x) (by
        refine (perm.map kk).trans ?_
        rw [hmap]
        exact (isort_perm leP x).symm)
      rw [e] at hE
      exact k.newL ok hE p np) hm h hg (by decide +kernel) (by decide) (by decide) hs
/-! ### keywords and defaults -/
def tkOf (S : Stc) (kws : List Keyword) : TA := fun σ H Q => ∃ t : TA, (∀ X, S.In X → PK X kws t) ∧ t σ H Q
theorem pkO {X : Cx} {kws : List Keyword} (h : S.In X) : PK X kws (tkOf S kws) := ⟨fun pos pins s σ H Q I ⟨_, p, q⟩ => (p X h).run pos pins s σ H Q I q⟩
def JK (S : Stc) (kws : List Keyword) (Γ : Ctx) (m : Option α) (R : α → List SP) : Prop :=
  ∀ σ W F, Sta Γ σ W F → ∀ x, m = some x → ∀ Q : List V → Hp → Prop, (∀ vs W', Ext W W' → Hets W'.B vs (R x) → Q vs W'.H) → tkOf S kws σ W.H Q
theorem jk_nil : JK S [] Γ (some ()) fun _ => [] := fun σ W F st x hx Q k => ⟨tNil, fun _ _ => pk_nil, k [] W (Ext.refl st.ok) trivial⟩
theorem jk_cons {nm : Option Str} {kpos : Pos} {kws : List Keyword} {ma : Option α} {mb : Option β} {E : α → SP} {G : β → List SP} (ha : JN S e Γ ma fun x => sh (E x)) (hb : JK S kws Γ mb G) : JK S (⟨nm, e, kpos⟩ :: kws) Γ (ma.bind fun x => mb.bind fun y => some (x, y)) fun p => E p.1 :: G p.2 := fun σ W F st z hz Q k => by
  obtain ⟨x, y, h1, h2, h3⟩ := run2 hz
  cases h3
  refine ⟨tCons (tOf S e) (tkOf S kws), fun X hX => pk_cons (peO hX) (pkO hX), ?_⟩
  refine ha σ W F st x h1 _ fun v W1 F1 e1 _ _ r1 => ?_
  exact hb σ W1 F (st.ext e1) y h2 _ fun vs W2 e2 h => k (v :: vs) W2 (e1.trans e2) ⟨SP.mono _ r1.2 e2.b, h⟩
theorem Hets.app {B : Hp} : ∀ {vs us : List V} {ps qs : List SP}, Hets B vs ps → Hets B us qs → Hets B (vs ++ us) (ps ++ qs)
  | [], _, [], _, _, k => k
  | _ :: _, _, _ :: _, _, h, k => ⟨h.1, Hets.app h.2 k⟩
  | [], _, _ :: _, _, h, _ => h.elim
  | _ :: _, _, [], _, h, _ => h.elim
/-- f(e, ..), the lacking parameters by their defaults dvs -/
theorem jn_callD {x : Str} {p : Pos} {f : Addr} {fd : FuncData} {ps : List Str} {k : Nat} {G : γ → List SP} {Ga : α → List SP} {fM : γ → Option ρ} {R : ρ → OP} {m : Option α} {ds : List Value} (dvs : List V) (g : α → γ) (Fn : FnOk S.P S.w S.K S.mg S.base CX0 k f fd ps (spP G fM R)) (hm : S.mg x = some (.ref f)) (kp : PySem.W.keepIn S.K (.ref f) = true) (hd : Vals dvs ds) (hb : Binds S.K fd ps ds)
    (hG : ∀ x B vs, Hets B vs (Ga x) → Hets B (vs ++ dvs) (G (g x))) (hk : k ≤ S.k) (ha : JA S (e :: es) Γ m Ga) (hg : GlS S x := by rfl) (hdb : (x == ("__debug__" : Str)) = false := by decide) (he : ∀ env, starEach (e :: es) env = (false, eval e env) :: starEach es env := by intro _; rfl) (hpl : ∀ env, (backTo pos (starEach es env)).any (·.1) = false := by intro _; rfl) (hcm : S.calm = true := by rfl) :
    JN S (.Call (.Name x p) (e :: es) [] pos) Γ (m.bind fun y => fM (g y)) R := fun σ W F st z hz Q kk => by
  obtain ⟨y, h1, h2⟩ := run1 hz
  refine ⟨tCall (spP G fM R) dvs E0 (taOf S (e :: es)), fun X hX => pe_call (fnokS Fn hX) ((hX.room hcm).mono hk) (hg.gl hX) (mgS hm hX) (by rw [hX.K]; exact kp) (bindsS hX hb) hd passE0 (paO hX) hdb (he _) (hpl _), ha σ W F st y h1 _ fun vs W' ext hh => ?_⟩
  exact ⟨g y, W', z, rfl, ext.ok, hG y _ vs hh, h2, kk.ext ext⟩
theorem kbnS {X : Cx} {fd : FuncData} {ps ks : List Str} {n : Nat} {g : List Value → List Value → List Value} {gV : List V → List V → List V} (h : S.In X) (b : KBn S.K fd ps n ks g gV) : KBn X.K fd ps n ks g gV := by rw [h.K]; exact b
theorem jn_callN {x : Str} {p : Pos} {f : Addr} {fd : FuncData} {ps ks : List Str} {k n : Nat} {G : γ → List SP} {Ga : α → List SP} {Gk : β → List SP} {fM : γ → Option ρ} {R : ρ → OP} {m : Option α} {mk : Option β} {kws : List Keyword} {gv : List Value → List Value → List Value} {gV : List V → List V → List V} (g : α → β → γ) (Fn : FnOk S.P S.w S.K S.mg S.base CX0 k f fd ps (spP G fM R)) (hm : S.mg x = some (.ref f)) (kp : PySem.W.keepIn S.K (.ref f) = true) (hb : KBn S.K fd ps n ks gv gV)
    (hG : ∀ x z B vs zs, Hets B vs (Ga x) → Hets B zs (Gk z) → Hets B (gV vs zs) (G (g x z))) (hl : ∀ x, (Ga x).length = n) (hlk : ∀ z, (Gk z).length = ks.length) (hk : k ≤ S.k) (ha : JA S (e :: es) Γ m Ga) (hkw : JK S kws Γ mk Gk) (hg : GlS S x := by rfl) (hdb : (x == ("__debug__" : Str)) = false := by decide)
    (hall : ∀ env, (backToKw pos (keywordEach kws env)).all (·.1.isSome) = true := by intro _; rfl) (hks : ∀ env, (backToKw pos (keywordEach kws env)).filterMap (·.1) = ks := by intro _; rfl) (he : ∀ env, starEach (e :: es) env = (false, eval e env) :: starEach es env := by intro _; rfl)
    (hpl : ∀ env, ((backTo pos (starEach (e :: es) env)).any (·.1) || (backToKw pos (keywordEach kws env)).any (·.1.isNone)) = false := by intro _; rfl) (hcm : S.calm = true := by rfl) : JN S (.Call (.Name x p) (e :: es) kws pos) Γ (m.bind fun y => mk.bind fun z => fM (g y z)) R := fun σ W F st z hz Q kk => by
  obtain ⟨y, w, h1, h2, h3⟩ := run2 hz
  refine ⟨tCallN n ks.length (spP G fM R) gV E0 (taOf S (e :: es)) (tkOf S kws), fun X hX => pe_callN (fnokS Fn hX) ((hX.room hcm).mono hk) (hg.gl hX) (mgS hm hX) (by rw [hX.K]; exact kp) (kbnS hX hb) passE0 (paO hX) (pkO hX) (hall _) (hks _) hdb (he _) (hpl _), ?_⟩
  refine ha σ W F st y h1 _ fun vs W1 e1 hh => ?_
  refine hkw σ W1 F (st.ext e1) w h2 _ fun zs W2 e2 hz => ⟨hh.len.trans (hl y), hz.len.trans (hlk w), ?_⟩
  exact ⟨g y w, W2, z, rfl, e2.ok, hG y w _ vs zs (hh.mono e2.b) hz, h3, kk.ext (e1.trans e2)⟩
/-- f(k = v, ..) -/
def tCall0N (m : Nat) (sp : Sp) (gV : List V → List V → List V) (E : XK) (tk : TA) : TE := fun σ H Q => tk σ H fun zs H2 => zs.length = m ∧ sp (gV [] zs) H2 Q E
theorem pe_call0N {X : Cx} {CX : CXT} {k : Nat} {f : Addr} {fd : FuncData} {ps ks : List Str} {sp : Sp} {E : XK} {x : Str} {p pos : Pos} {kws : List Keyword} {tk : TA} {g : List Value → List Value → List Value} {gV : List V → List V → List V} (F : FnOk X.prog X.w X.K X.mg X.base CX k f fd ps sp) (hr : Room k X.A) (hg : Gl X x) (hm : X.mg x = some (.ref f)) (hk : PySem.W.keepIn X.K (.ref f) = true) (hb : KBn X.K fd ps 0 ks g gV) (hx : Passes CX X E) (hkw : PK X kws tk)
    (hall : (backToKw pos (keywordEach kws X.env)).all (·.1.isSome) = true) (hks : (backToKw pos (keywordEach kws X.env)).filterMap (·.1) = ks) (hdb : (x == ("__debug__" : Str)) = false)
    (hpl : ((backTo pos (starEach [] X.env)).any (·.1) || (backToKw pos (keywordEach kws X.env)).any (·.1.isNone)) = false) : PE X (.Call (.Name x p) [] kws pos) (tCall0N ks.length sp gV E tk) := by
  refine ⟨fun pins s σ H Q I h => ?_⟩
  refine wpAny_Call_Name_kw (ld_glob I hg hm ?_ hdb)
  refine PySem.W.callWith_KW0 (h₀ := X.base) I.ok.mod.kin hk hall ?_ hpl
  refine thn (hkw.run pos pins s σ H _ I h) fun ws s2 ⟨zs, H2, I2, rz, l2, q2⟩ => ⟨I2.kIn, ?_⟩
  rw [hks]
  exact run_fnN (us := []) (vs := []) F hr hb hx I2 .nil rz rfl l2 q2
theorem jn_call0N {x : Str} {p : Pos} {f : Addr} {fd : FuncData} {ps ks : List Str} {k : Nat} {G : γ → List SP} {Gk : β → List SP} {fM : γ → Option ρ} {R : ρ → OP} {mk : Option β} {kws : List Keyword} {gv : List Value → List Value → List Value} {gV : List V → List V → List V} (g : β → γ) (Fn : FnOk S.P S.w S.K S.mg S.base CX0 k f fd ps (spP G fM R)) (hm : S.mg x = some (.ref f)) (kp : PySem.W.keepIn S.K (.ref f) = true) (hb : KBn S.K fd ps 0 ks gv gV)
    (hG : ∀ z B zs, Hets B zs (Gk z) → Hets B (gV [] zs) (G (g z))) (hlk : ∀ z, (Gk z).length = ks.length) (hk : k ≤ S.k) (hkw : JK S kws Γ mk Gk) (hg : GlS S x := by rfl) (hdb : (x == ("__debug__" : Str)) = false := by decide)
    (hall : ∀ env, (backToKw pos (keywordEach kws env)).all (·.1.isSome) = true := by intro _; rfl) (hks : ∀ env, (backToKw pos (keywordEach kws env)).filterMap (·.1) = ks := by intro _; rfl)
    (hpl : ∀ env, ((backTo pos (starEach [] env)).any (·.1) || (backToKw pos (keywordEach kws env)).any (·.1.isNone)) = false := by intro _; rfl) (hcm : S.calm = true := by rfl) : JN S (.Call (.Name x p) [] kws pos) Γ (mk.bind fun z => fM (g z)) R := fun σ W F st z hz Q kk => by
  obtain ⟨w, h2, h3⟩ := run1 hz
  refine ⟨tCall0N ks.length (spP G fM R) gV E0 (tkOf S kws), fun X hX => pe_call0N (fnokS Fn hX) ((hX.room hcm).mono hk) (hg.gl hX) (mgS hm hX) (by rw [hX.K]; exact kp) (kbnS hX hb) passE0 (pkO hX) (hall _) (hks _) hdb (hpl _), ?_⟩
  refine hkw σ W F st w h2 _ fun zs W2 e2 hz => ⟨hz.len.trans (hlk w), ?_⟩
  exact ⟨g w, W2, z, rfl, e2.ok, hG w _ zs hz, h3, kk.ext e2⟩
end
/-- a def with keyword-only defaults -/
theorem fnd_pure {P : Program} {w : World} {K : PySem.W.Frag} {mg : Str → Option Value} {base : Heap} {x qual : Str} {st : Stmt} {f : Addr} {fd : FuncData} {dvs : List V} {kwd : List (Str × V)} {N ps : List Str} {k : Nat} {G : α → List SP} {fM : α → Option ρ} {R : ρ → OP} {Δ : Ctx} (F : FunD K x qual (defArgs st) (defBody st) (defScope st) dvs kwd f fd) (Sc : FnScope N ps (defScope st)) (hG : ∀ a, (G a).length = ps.length) (hn : ps.length ≤ N.length)
    (body : ∀ a, JB (stcOf P w K mg base N (defScope st) k []) (defBody st) (shC (G a) ++ nonC (N.length - ps.length)) (fM a) fun r => .rt Δ (R r)) : FnOk P w K mg base CX0 (k + 1) f fd ps (spP G fM R) := by
  refine F.ok Sc (fun vs H Q E h => ?_) (fun cdv A outer s H vs Q E hr h => ?_)
  · obtain ⟨a, W, r, _, _, h3, _⟩ := h
    rw [h3.len, hG]
  · obtain ⟨a, W, r, rfl, ok, h3, h4, kq⟩ := h
    refine ⟨tbOf (stcOf P w K mg base N (defScope st) k []) (defBody st), (pbO (in_cx hr)).nox, ?_⟩
    have hl : vs.length = ps.length := h3.len.trans (hG a)
    have sta : Sta (shC (G a) ++ nonC (N.length - ps.length)) (L2.start N vs) W [] := ⟨ok, FpOk.nil, by unfold L2.start shC nonC; simp [h3.len, hG, hl], by unfold L2.start; rw [hl]; exact holds_sh h3⟩
    exact body a _ W [] sta r h4 _ fun v σ' W' F' Fv _ stp _ fp rr => by
      obtain ⟨ext, fr⟩ := stp.ext
      exact kq v W' Fv ext (fun a ha => fr a (List.mem_append_right _ ha)) fp.right rr
end CC
set_option maxHeartbeats 4000000
/-! Tuples and lists of several kinds. -/
namespace CC
open PySem PySem.Spec L2
open PyProof.Rows hiding St
variable {α β γ δ τ υ ω ρ : Type}
theorem sb (x : α) (f : α → Option β) : (some x).bind f = f x := rfl
def t3S (E : α → SP) (G : β → SP) (I : γ → SP) (p : α × β × γ) : SP := htupS [E p.1, G p.2.1, I p.2.2]
def t4S (E : α → SP) (G : β → SP) (I : γ → SP) (J : δ → SP) (p : α × β × γ × δ) : SP := htupS [E p.1, G p.2.1, I p.2.2.1, J p.2.2.2]
def t5S (E : α → SP) (G : β → SP) (I : γ → SP) (J : δ → SP) (L : τ → SP) (p : α × β × γ × δ × τ) : SP := htupS [E p.1, G p.2.1, I p.2.2.1, J p.2.2.2.1, L p.2.2.2.2]
def l2S (E : α → SP) (G : β → SP) (p : α × β) : SP := hlstS [E p.1, G p.2]
def l3S (E : α → SP) (G : β → SP) (I : γ → SP) (p : α × β × γ) : SP := hlstS [E p.1, G p.2.1, I p.2.2]
def l4S (E : α → SP) (G : β → SP) (I : γ → SP) (J : δ → SP) (p : α × β × γ × δ) : SP := hlstS [E p.1, G p.2.1, I p.2.2.1, J p.2.2.2]
def l5S (E : α → SP) (G : β → SP) (I : γ → SP) (J : δ → SP) (L : τ → SP) (p : α × β × γ × δ × τ) : SP := hlstS [E p.1, G p.2.1, I p.2.2.1, J p.2.2.2.1, L p.2.2.2.2]
section
variable {S : Stc} {Γ : Ctx} {a b e : Expr} {es : List Expr} {pos : Pos}
theorem jn_nilT {E : α → SP} {k : Nat} : JN S (.Tuple [] k pos) Γ (some []) fun x => sh (tupS E x) := jn_dispT (E := E) (g := fun _ : Unit => ([] : List α)) ja_nil
theorem jn_tupG {m : Option α} {R : α → List SP} {P : β → SP} {g : α → β} {k : Nat} (h : JA S es Γ m R) (hR : ∀ x, htupS (R x) = P (g x) := by intro _; rfl) (hl : ∀ x, (R x).length ≤ 1000 := by intro _; exact Nat.le_of_ble_eq_true rfl) : JN S (.Tuple es k pos) Γ (m.bind fun x => some (g x)) fun y => sh (P y) := fun σ W F sta z hz Q kk => by
  obtain ⟨x, h1, h2⟩ := run1 hz
  cases h2
  have q := jn_tup (k := k) (pos := pos) (p := fun _ => True) h hl σ W F sta x h1 Q
  simp only [hR] at q
  exact q kk
theorem jn_hl {m : Option α} {R : α → List SP} {T : β → OP} {g : α → β} (h : JA S es Γ m R) (hR : ∀ x, hetO ((R x).map sh) = T (g x) := by intro _; rfl) (hl : ∀ x, (R x).length ≤ 1000 := by intro _; exact Nat.le_of_ble_eq_true rfl) : JN S (.List es pos) Γ (m.bind fun x => some (g x)) T := fun σ W F sta z hz Q kk => by
  obtain ⟨x, h1, h2⟩ := run1 hz
  cases h2
  have q := jn_het (pos := pos) h hl σ W F sta x h1 Q
  simp only [hR] at q
  exact q kk
theorem jn_hlS {m : Option α} {R : α → List SP} {T : β → SP} {g : α → β} (h : JA S es Γ m R) (hR : ∀ x, hlstS (R x) = T (g x) := by intro _; rfl) (hl : ∀ x, (R x).length ≤ 1000 := by intro _; exact Nat.le_of_ble_eq_true rfl) : JN S (.List es pos) Γ (m.bind fun x => some (g x)) fun y => sh (T y) := fun σ W F sta z hz Q kk => by
  obtain ⟨x, h1, h2⟩ := run1 hz
  cases h2
  have q := jn_hetS (pos := pos) h hl σ W F sta x h1 Q
  simp only [hR] at q
  exact q kk
theorem len_scr {m : Option (List Int)} {p : Pos} (hm : S.mg "len" = none) (h : JN S a Γ m fun x => sh (scrS S.K x)) (hg : GlS S "len" := by rfl) (hs : ∀ env, starEach [a] env = [(false, eval a env)] := by intro _; rfl) : JN S (.Call (.Name "len" p) [a] [] pos) Γ (m.bind fun xs => some (xs.length : Int)) fun z => sh (intS z) :=
  jn_b1 (r := fun xs H Q => ∃ p ys, xs = [.ref p] ∧ (SqL S.K H p ys ∨ SqT S.K H p ys) ∧ Q (.int ys.length) H) (f := fun xs : List Int => some (xs.length : Int)) (fun X hX => hX.K ▸ call_len_seq) (fun W x v z ok hh e Q k => by
    cases e
    obtain ⟨a, rfl, h2⟩ := hh
    have hq : SqL S.K W.H a (x.map V.int) := by
      rcases h2 with (h | ⟨o, h⟩) | h
      · exact .inl (.inl (ok _ _ h))
      · exact .inl (.inr ⟨o, ok _ _ h⟩)
      · exact .inr h
    exact ⟨a, _, rfl, .inl hq, k.val ok (by rw [List.length_map]; rfl)⟩) hm h hg PySem.boot_len (by decide) (by decide) hs
end
section
variable {S : Stc} {Γ : τ → Ctx} {s : τ} {a b e : Expr} {es : List Expr} {pos : Pos}
theorem je_tup {E : α → SP} {m : Option (List α × τ)} {p : Pos} (hm : S.mg "tuple" = none) (h : JE S a Γ s m fun x => sh (lstS E x)) (hg : GlS S "tuple" := by rfl) (hs : ∀ env, starEach [a] env = [(false, eval a env)] := by intro _; rfl) : JE S (.Call (.Name "tuple" p) [a] [] pos) Γ s (m.bind fun q => some (q.1, q.2)) fun x => sh (tupS E x) :=
  je_t1 (f := fun x : List α => some x) (fun X hX => hX.K ▸ call_tuple_of) (fun W x v z ok hh e Q k => by
    cases e
    obtain ⟨a, vs, rfl, h2, h3⟩ := hh
    exact ⟨a, vs, rfl, .inl ⟨.inl (.inl (ok a _ h2)), k.newT ok h3⟩⟩) hm h hg (by decide +kernel) (by decide) (by decide) hs
theorem je_tupG {m : Option (α × τ)} {R : α → List SP} {P : β → SP} {g : α → β} {k : Nat} (h : JEA S es Γ s m R) (hR : ∀ x, htupS (R x) = P (g x) := by intro _; rfl) (hl : ∀ x, (R x).length ≤ 1000 := by intro _; exact Nat.le_of_ble_eq_true rfl) : JE S (.Tuple es k pos) Γ s (m.bind fun q => some (g q.1, q.2)) fun y => sh (P y) := JE.of_sh fun σ W F sta z hz Q kk => by
  obtain ⟨q, h1, h2⟩ := run1 hz
  cases h2
  refine ⟨tTup (taOf S es), fun X hX => pe_tup (paO hX), h σ W F sta q h1 _ fun vs W' F' stp sa hh => ?_⟩
  refine ⟨Nat.le_trans (by rw [hh.len]; exact hl q.1) (by decide), fun l hq => ?_⟩
  have e2 := Ext.newB sa.ok (o := .tup vs) hq
  exact kk (.ref l) ⟨upd W'.H l (.tup vs), upd W'.B l (.tup vs)⟩ F' (stp.trans e2.stp0) (sa.ext e2) (by rw [← hR]; exact ⟨l, vs, rfl, upd_same, hh.mono e2.b⟩)
theorem je_dispL {E : β → SP} {m : Option (α × τ)} {R : α → List SP} {g : α → List β} (h : JEA S es Γ s m R) (hR : ∀ x, R x = (g x).map E := by intro _; rfl) (hl : ∀ x, (R x).length ≤ 1000 := by intro _; exact Nat.le_of_ble_eq_true rfl) : JE S (.List es pos) Γ s (m.bind fun q => some (g q.1, q.2)) fun y => lstO (fun x => sh (E x)) y := fun σ W F sta z hz Q kk => by
  obtain ⟨q, h1, h2⟩ := run1 hz
  cases h2
  refine ⟨tLst (taOf S es), fun X hX => pe_lst (paO hX), h σ W F sta q h1 _ fun vs W' F' stp sa hh => ?_⟩
  refine ⟨Nat.le_trans (by rw [hh.len]; exact hl q.1) (by decide), fun l hq => ?_⟩
  have e2 := Ext.new sa.ok (o := .lst vs) hq
  rw [hR] at hh
  have fr : ∀ x ∈ [l], W'.H x = none := fun x hx => by rw [List.mem_singleton.mp hx]; exact hq
  have fp1 : FpOk ⟨upd W'.H l (.lst vs), W'.B⟩ [l] := fp_one (sa.ok.back hq)
  exact kk (.ref l) ⟨upd W'.H l (.lst vs), W'.B⟩ F' [l] (stp.trans (e2.stp fr)) (sa.ext e2) (sa.fp.fresh e2 fp1 fr) ⟨l, vs, [], rfl, upd_same, rfl, Owns.of_each (W := ⟨upd W'.H l (.lst vs), W'.B⟩) hh.each⟩
theorem je_hlS {m : Option (α × τ)} {R : α → List SP} {P : β → SP} {g : α → β} (h : JEA S es Γ s m R) (hR : ∀ x, hlstS (R x) = P (g x) := by intro _; rfl) (hl : ∀ x, (R x).length ≤ 1000 := by intro _; exact Nat.le_of_ble_eq_true rfl) : JE S (.List es pos) Γ s (m.bind fun q => some (g q.1, q.2)) fun y => sh (P y) := JE.of_sh fun σ W F sta z hz Q kk => by
  obtain ⟨q, h1, h2⟩ := run1 hz
  cases h2
  refine ⟨tLst (taOf S es), fun X hX => pe_lst (paO hX), h σ W F sta q h1 _ fun vs W' F' stp sa hh => ?_⟩
  refine ⟨Nat.le_trans (by rw [hh.len]; exact hl q.1) (by decide), fun l hq => ?_⟩
  have e2 := Ext.newB sa.ok (o := .lst vs) hq
  exact kk (.ref l) ⟨upd W'.H l (.lst vs), upd W'.B l (.lst vs)⟩ F' (stp.trans e2.stp0) (sa.ext e2) (by rw [← hR]; exact ⟨l, vs, rfl, upd_same, hh.mono e2.b⟩)
end
/-- a def with state first -/
theorem fnd_state {P : Program} {w : World} {K : PySem.W.Frag} {mg : Str → Option Value} {base : Heap} {x qual : Str} {st : Stmt} {f : Addr} {fd : FuncData} {dvs : List V} {kwd : List (Str × V)} {N ps : List Str} {k : Nat} {O : τ → OP} {G : α → List SP} {fM : α → τ → Option (ρ × τ)} {R : ρ → OP} (F : FunD K x qual (defArgs st) (defBody st) (defScope st) dvs kwd f fd) (Sc : FnScope N ps (defScope st)) (hG : ∀ a, (G a).length + 1 = ps.length) (hn : ps.length ≤ N.length)
    (body : ∀ a s, JB (stcOf P w K mg base N (defScope st) k [0]) (defBody st) (some (O s) :: (shC (G a) ++ nonC (N.length - ps.length))) (fM a s) fun r => .rt (some (O r.2) :: nonC (N.length - 1)) (R r.1)) : FnOk P w K mg base CX0 (k + 1) f fd ps (spS O G fM R) := by
  refine F.ok Sc (fun vs H Q E h => ?_) (fun cdv A outer s H vs Q E hr h => ?_)
  · obtain ⟨a, s, W, F, v0, vr, r, rfl, _, _, _, _, h3, _⟩ := h
    rw [List.length_cons, h3.len, hG]
  · obtain ⟨a, s0, W, Fp, v0, vr, r, rfl, rfl, ok, fp0, h0, h3, h4, kq⟩ := h
    refine ⟨tbOf (stcOf P w K mg base N (defScope st) k [0]) (defBody st), (pbO (in_cx hr)).nox, ?_⟩
    have hl : (v0 :: vr).length = ps.length := by rw [List.length_cons, h3.len]; exact hG a
    have sta : Sta (some (O s0) :: (shC (G a) ++ nonC (N.length - ps.length))) (L2.start N (v0 :: vr)) W Fp := ⟨ok, fp0, by
      unfold L2.start shC nonC
      have := hG a
      simp [h3.len]
      omega, ⟨v0, Fp, [], rfl, (List.append_nil _).symm, h0, by
      unfold L2.start
      rw [hl]
      exact holds_sh h3⟩⟩
    refine body a s0 _ W Fp sta r h4 _ fun v σ' W' F' Fv kp stp sa fp rr => ?_
    obtain ⟨u, F1, F2, b1, b2, b3, b4⟩ := sa.hold
    have e0 : σ'[0]? = some (some v0) := (kp 0 (by simp)).trans rfl
    have eu : u = v0 := by
      rw [List.head?_eq_getElem?] at b1
      rw [e0] at b1
      exact (Option.some.inj (Option.some.inj b1)).symm
    subst eu
    have eF : F2 = [] := by
      have : ∀ (n : Nat) (σ : L2.St) (F : List Addr), Holds (nonC n) σ W' F → F = [] := by
        intro n
        induction n with
        | zero => intro σ F h; exact h
        | succ n ih => intro σ F h; exact ih σ.tail F h
      exact this _ _ _ b4
    subst eF
    rw [List.append_nil] at b2
    subst b2
    exact kq v W' F' Fv stp fp b3 rr
abbrev FnP (K : PySem.W.Frag) (x : Str) (st : Stmt) (f : Addr) (fd : FuncData) : Prop := FunD K x x (defArgs st) (defBody st) (defScope st) [] [] f fd
theorem hets_d {B : Hp} {vs dvs : List V} {ps qs rs : List SP} (h : Hets B vs ps) (hd : Hets B dvs qs) (e : rs = ps ++ qs) : Hets B (vs ++ dvs) rs := e ▸ h.app hd
/-- the law is called with its script -/
theorem law_in {K : PySem.W.Frag} {H : Hp} {a : Addr} {ns : List Int} {fM : List Int × Unit → Option Bool} {E : XK} (hS : SqL K H a (ns.map V.int)) (h : fM (ns, ()) = some true) : spP (fun a : List Int × Unit => [scrS K a.1]) fM (fun b => sh (boolS b)) [.ref a] H (fun v _ => v = .bl true) E :=
  ⟨(ns, ()), ⟨H, H⟩, true, rfl, Ex.refl _, ⟨⟨a, rfl, hS⟩, trivial⟩, h, fun v W' Fv _ _ _ r => r.2⟩
theorem sw_cell {elt : Expr} {gs : List Comprehension} {scope : Scope} {pos py : Pos} {y : Str} {l : Nat} {env : Env} (hy : env.scope.names.lookup y = some .cell) : swapsWith (.ListComp elt gs scope pos) (some (.Name y py)) l env = pure false := by
  have ky : env.kindOf y = some .cell := hy
  unfold swapsWith
  simp only [ky]
  rw [show ((some NameKind.cell == some NameKind.local) : Bool) = false from rfl, Bool.and_false, Bool.false_and, Bool.false_and]
section
variable {S : Stc} {Γ : Ctx}
theorem js_setLcC {x : Str} {py spos pos : Pos} {elt : Expr} {gs : List Comprehension} {scope : Scope} {m : Option α} {R : α → OP} (i : Nat) (nd : S.N.Nodup) (h : JN S (.ListComp elt gs scope pos) Γ m R) (hi : (Γ[i]?).isSome = true := by rfl) (hN : S.N[i]? = some x := by rfl) (hx : S.sc.names.lookup x = some .cell := by rfl) (hp : (S.prot.contains i) = false := by rfl) (hf : S.fn x = true := by rfl) :
    JS S (.Assign [.Name x py] (.ListComp elt gs scope pos) spos) Γ m fun a => .nx (Γ.set i (some (R a))) := fun σ W F sta y hy E k => by
  refine ⟨tAsg (tOf S _) (gName i), fun X hX => ps_set (by rw [hX.N]; exact nd) (by rw [hX.N]; exact hN) (locS (.inr hx) hX) (peO hX) (sw_cell (by rw [hX.sc]; exact hx)) (by rw [hX.fn]; exact .inl hf), h σ W F sta y hy _ fun v W' Fv ext fr fp r => ?_⟩
  obtain ⟨F', s', stp⟩ := sta_set sta ext fr fp r hi
  exact k _ W' F' (Keep.set (ncon hp)) stp s'
end
section
variable {S : Stc} {Γ : τ → Ctx} {s : τ}
theorem js_setLcCE {x : Str} {py spos pos : Pos} {elt : Expr} {gs : List Comprehension} {scope : Scope} {m : Option (α × τ)} {R : α → OP} (i : Nat) (nd : S.N.Nodup) (h : JE S (.ListComp elt gs scope pos) Γ s m R) (hi : ∀ s, ((Γ s)[i]?).isSome = true := by intro _; rfl) (hN : S.N[i]? = some x := by rfl) (hx : S.sc.names.lookup x = some .cell := by rfl) (hp : (S.prot.contains i) = false := by rfl) (hf : S.fn x = true := by rfl) :
    JS S (.Assign [.Name x py] (.ListComp elt gs scope pos) spos) (Γ s) m fun q => .nx ((Γ q.2).set i (some (R q.1))) := fun σ W F sta y hy E k => by
  refine ⟨tAsg (tOf S _) (gName i), fun X hX => ps_set (by rw [hX.N]; exact nd) (by rw [hX.N]; exact hN) (locS (.inr hx) hX) (peO hX) (sw_cell (by rw [hX.sc]; exact hx)) (by rw [hX.fn]; exact .inl hf), h σ W F sta y hy _ fun v W' F' Fv stp sa fp r => ?_⟩
  have hl : i < (Γ y.2).length := by
    have := hi y.2
    cases h : (Γ y.2)[i]? with
    | none => rw [h] at this; cases this
    | some o => exact (List.getElem?_eq_some_iff.mp h).1
  obtain ⟨F2, b1, b2⟩ := sa.put hl r fp
  exact k _ W' F2 (Keep.set (ncon hp)) (stp.perm b2) b1
end
end CC
set_option maxHeartbeats 4000000
/-! Values of any kind. -/
namespace CC
open PySem PySem.Spec L2
open PyProof.Rows hiding St
variable {α β γ δ τ υ ω ρ : Type}
inductive PV where
  | non
  | bl (b : Bool)
  | int (i : Int)
  | str (z : Str)
  | tup (xs : List PV)
  | lst (xs : List PV)
mutual
def anyP (B : Hp) : PV → V → Prop
  | .non, v => v = .non
  | .bl b, v => v = .bl b
  | .int i, v => v = .int i
  | .str z, v => v = .str z
  | .tup xs, v => ∃ a vs, v = .ref a ∧ B a = some (.tup vs) ∧ anysP B xs vs
  | .lst xs, v => ∃ a vs, v = .ref a ∧ B a = some (.lst vs) ∧ anysP B xs vs
def anysP (B : Hp) : List PV → List V → Prop
  | [], [] => True
  | x :: xs, v :: vs => anyP B x v ∧ anysP B xs vs
  | [], _ :: _ => False
  | _ :: _, [] => False
end
mutual
theorem anyP_mono {B B' : Hp} (e : Ex B B') : ∀ (x : PV) (v : V), anyP B x v → anyP B' x v
  | .non, v, h => by unfold anyP at h ⊢; exact h
  | .bl b, v, h => by unfold anyP at h ⊢; exact h
  | .int i, v, h => by unfold anyP at h ⊢; exact h
  | .str z, v, h => by unfold anyP at h ⊢; exact h
  | .tup xs, v, h => by
    unfold anyP at h ⊢
    obtain ⟨a, vs, h1, h2, h3⟩ := h
    exact ⟨a, vs, h1, e a _ h2, anysP_mono e xs vs h3⟩
  | .lst xs, v, h => by
    unfold anyP at h ⊢
    obtain ⟨a, vs, h1, h2, h3⟩ := h
    exact ⟨a, vs, h1, e a _ h2, anysP_mono e xs vs h3⟩
theorem anysP_mono {B B' : Hp} (e : Ex B B') : ∀ (xs : List PV) (vs : List V), anysP B xs vs → anysP B' xs vs
  | [], [], h => by unfold anysP; trivial
  | x :: xs, v :: vs, h => by
    unfold anysP at h ⊢
    exact ⟨anyP_mono e x v h.1, anysP_mono e xs vs h.2⟩
  | [], _ :: _, h => by unfold anysP at h; exact h.elim
  | _ :: _, [], h => by unfold anysP at h; exact h.elim
end
def anyS (x : PV) : SP := ⟨fun B v => anyP B x v, fun h e => anyP_mono e x _ h⟩
theorem anys_each {B : Hp} : ∀ {xs : List PV} {vs : List V}, anysP B xs vs → Each anyS B vs xs
  | [], [], h => trivial
  | x :: xs, v :: vs, h => by
    unfold anysP at h
    exact ⟨h.1, anys_each h.2⟩
  | [], _ :: _, h => by unfold anysP at h; exact h.elim
  | _ :: _, [], h => by unfold anysP at h; exact h.elim
theorem each_anys {B : Hp} : ∀ {xs : List PV} {vs : List V}, Each anyS B vs xs → anysP B xs vs
  | [], [], h => by unfold anysP; trivial
  | x :: xs, v :: vs, h => by
    unfold anysP
    exact ⟨h.1, each_anys h.2⟩
  | [], _ :: _, h => h.elim
  | _ :: _, [], h => h.elim
theorem pv_tup {B : Hp} {xs : List PV} {v : V} (h : (anyS (.tup xs)).P B v) : (tupS anyS xs).P B v := by
  have h' : anyP B (.tup xs) v := h
  unfold anyP at h'
  obtain ⟨a, vs, h1, h2, h3⟩ := h'
  exact ⟨a, vs, h1, h2, anys_each h3⟩
theorem pv_lst {B : Hp} {xs : List PV} {v : V} (h : (anyS (.lst xs)).P B v) : (lstS anyS xs).P B v := by
  have h' : anyP B (.lst xs) v := h
  unfold anyP at h'
  obtain ⟨a, vs, h1, h2, h3⟩ := h'
  exact ⟨a, vs, h1, h2, anys_each h3⟩
/-- a description that is one of any kind -/
structure AnyOf (E : α → SP) (f : α → PV) : Prop where
  go : ∀ B x v, (E x).P B v → (anyS (f x)).P B v
theorem ao_any : AnyOf anyS (fun x => x) := ⟨fun _ _ _ h => h⟩
theorem ao_int : AnyOf intS PV.int := ⟨fun B x v h => by show anyP B (.int x) v; unfold anyP; exact h⟩
theorem ao_bool : AnyOf boolS PV.bl := ⟨fun B x v h => by show anyP B (.bl x) v; unfold anyP; exact h⟩
theorem ao_str : AnyOf strS PV.str := ⟨fun B x v h => by show anyP B (.str x) v; unfold anyP; exact h⟩
theorem ao_non : AnyOf (fun _ : Unit => nonS) (fun _ => PV.non) := ⟨fun B x v h => by show anyP B .non v; unfold anyP; exact h⟩
def optV (f : α → PV) : Option α → PV
  | none => .non
  | some x => f x
theorem ao_opt {E : α → SP} {f : α → PV} (h : AnyOf E f) : AnyOf (optS E) (optV f) := ⟨fun B x v hx => by
  cases x with
  | none => exact ao_non.go B () v hx
  | some x => exact h.go B x v hx⟩
theorem ao_each {E : α → SP} {f : α → PV} (h : AnyOf E f) {B : Hp} : ∀ {xs : List α} {vs : List V}, Each E B vs xs → anysP B (xs.map f) vs
  | [], [], _ => by show anysP B [] []; unfold anysP; trivial
  | x :: xs, v :: vs, e => by
    show anysP B (f x :: xs.map f) (v :: vs)
    unfold anysP
    exact ⟨h.go B x v e.1, ao_each h e.2⟩
  | [], _ :: _, e => e.elim
  | _ :: _, [], e => e.elim
theorem ao_tup {E : α → SP} {f : α → PV} (h : AnyOf E f) : AnyOf (tupS E) (fun xs => PV.tup (xs.map f)) := ⟨fun B x v hx => by
  show anyP B (.tup _) v
  unfold anyP
  obtain ⟨a, vs, h1, h2, h3⟩ := hx
  exact ⟨a, vs, h1, h2, ao_each h h3⟩⟩
theorem ao_lst {E : α → SP} {f : α → PV} (h : AnyOf E f) : AnyOf (lstS E) (fun xs => PV.lst (xs.map f)) := ⟨fun B x v hx => by
  show anyP B (.lst _) v
  unfold anyP
  obtain ⟨a, vs, h1, h2, h3⟩ := hx
  exact ⟨a, vs, h1, h2, ao_each h h3⟩⟩
theorem hts2 {B : Hp} {p q : SP} {vs : List V} (h : Hets B vs [p, q]) : ∃ u v, vs = [u, v] ∧ p.P B u ∧ q.P B v := by
  match vs, h with
  | [u, v], h => exact ⟨u, v, rfl, h.1, h.2.1⟩
theorem hts3 {B : Hp} {p q r : SP} {vs : List V} (h : Hets B vs [p, q, r]) : ∃ u v w, vs = [u, v, w] ∧ p.P B u ∧ q.P B v ∧ r.P B w := by
  match vs, h with
  | [u, v, w], h => exact ⟨u, v, w, rfl, h.1, h.2.1, h.2.2.1⟩
theorem hts4 {B : Hp} {p q r s : SP} {vs : List V} (h : Hets B vs [p, q, r, s]) : ∃ u v w x, vs = [u, v, w, x] ∧ p.P B u ∧ q.P B v ∧ r.P B w ∧ s.P B x := by
  match vs, h with
  | [u, v, w, x], h => exact ⟨u, v, w, x, rfl, h.1, h.2.1, h.2.2.1, h.2.2.2.1⟩
theorem ao_pr {E : α → SP} {G : β → SP} {f : α → PV} {g : β → PV} (h : AnyOf E f) (k : AnyOf G g) : AnyOf (prS E G) (fun p => PV.tup [f p.1, g p.2]) := ⟨fun B x v hx => by
  show anyP B (.tup _) v
  unfold anyP
  obtain ⟨a, vs, h1, h2, h3⟩ := hx
  obtain ⟨u, w, rfl, a1, a2⟩ := hts2 h3
  exact ⟨a, _, h1, h2, each_anys ⟨h.go B _ _ a1, k.go B _ _ a2, trivial⟩⟩⟩
theorem ao_t3 {E : α → SP} {G : β → SP} {I : γ → SP} {f : α → PV} {g : β → PV} {i : γ → PV} (h : AnyOf E f) (k : AnyOf G g) (l : AnyOf I i) : AnyOf (t3S E G I) (fun p => PV.tup [f p.1, g p.2.1, i p.2.2]) := ⟨fun B x v hx => by
  show anyP B (.tup _) v
  unfold anyP
  obtain ⟨a, vs, h1, h2, h3⟩ := hx
  obtain ⟨u, w, y, rfl, a1, a2, a3⟩ := hts3 h3
  exact ⟨a, _, h1, h2, each_anys ⟨h.go B _ _ a1, k.go B _ _ a2, l.go B _ _ a3, trivial⟩⟩⟩
theorem ao_t4 {E : α → SP} {G : β → SP} {I : γ → SP} {J : δ → SP} {f : α → PV} {g : β → PV} {i : γ → PV} {j : δ → PV} (h : AnyOf E f) (k : AnyOf G g) (l : AnyOf I i) (m : AnyOf J j) : AnyOf (t4S E G I J) (fun p => PV.tup [f p.1, g p.2.1, i p.2.2.1, j p.2.2.2]) := ⟨fun B x v hx => by
  show anyP B (.tup _) v
  unfold anyP
  obtain ⟨a, vs, h1, h2, h3⟩ := hx
  obtain ⟨u, w, y, z, rfl, a1, a2, a3, a4⟩ := hts4 h3
  exact ⟨a, _, h1, h2, each_anys ⟨h.go B _ _ a1, k.go B _ _ a2, l.go B _ _ a3, m.go B _ _ a4, trivial⟩⟩⟩
def PV.tyn : PV → String
  | .non => "NoneType"
  | .bl _ => "bool"
  | .int _ => "int"
  | .str _ => "str"
  | .tup _ => "tuple"
  | .lst _ => "list"
def pT : PV → Bool
  | .tup _ => true
  | _ => false
def pL : PV → Bool
  | .lst _ => true
  | _ => false
def pI : PV → Bool
  | .int _ => true
  | .bl _ => true
  | _ => false
def pB : PV → Bool
  | .bl _ => true
  | _ => false
def pS : PV → Bool
  | .str _ => true
  | _ => false
def pN : PV → Bool
  | .non => true
  | _ => false
theorem any_ty {K : PySem.W.Frag} {B H : Hp} (e : Ex B H) : ∀ {x : PV} {v : V}, (anyS x).P B v → TyX K H v (.type x.tyn)
  | .non, v, h => by
    have h' : anyP B .non v := h
    unfold anyP at h'
    subst h'
    exact .base .non
  | .bl b, v, h => by
    have h' : anyP B (.bl b) v := h
    unfold anyP at h'
    subst h'
    exact .base (.bl b)
  | .int i, v, h => by
    have h' : anyP B (.int i) v := h
    unfold anyP at h'
    subst h'
    exact .base (.int i)
  | .str z, v, h => by
    have h' : anyP B (.str z) v := h
    unfold anyP at h'
    subst h'
    exact .base (.str z)
  | .tup xs, v, h => by
    obtain ⟨a, vs, rfl, h2, _⟩ := pv_tup h
    exact .base (.tup (e a _ h2))
  | .lst xs, v, h => by
    obtain ⟨a, vs, rfl, h2, _⟩ := pv_lst h
    exact .base (.lst (e a _ h2))
/-- == of plain values -/
def eqA : PV → PV → Option Bool
  | .non, .non => some true
  | .bl x, .bl y => some (decide (x = y))
  | .int x, .int y => some (decide (x = y))
  | .str x, .str y => some (decide (x = y))
  | _, _ => none
def lenA : PV → Option Int
  | .tup xs => some (xs.length : Int)
  | _ => none
def ixA (x : PV) (i : Int) : Option PV := match x with
  | .tup xs => atI xs i
  | _ => none
section
variable {S : Stc} {Γ : Ctx} {a b e : Expr} {es : List Expr} {pos : Pos}
theorem jn_any {E : α → SP} {f : α → PV} {m : Option α} (ao : AnyOf E f) (h : JN S e Γ m fun x => sh (E x)) : JN S e Γ (m.bind fun x => some (f x)) fun y => sh (anyS y) :=
  JN.map h fun x W v F r => ⟨r.1, ao.go W.B x v r.2⟩
theorem jn_isiA {p pc : Pos} {c : Str} {cn : String} {m : Option PV} (f : PV → Bool) (hm : S.mg "isinstance" = none) (hmc : S.mg c = none) (h : JN S a Γ m fun x => sh (anyS x)) (hk : (kitB "NoneType" cn, kitB "bool" cn, kitB "int" cn, kitB "str" cn, kitB "tuple" cn, kitB "list" cn) = (some (f .non), some (f (.bl true)), some (f (.int 0)), some (f (.str ⟨#[]⟩)), some (f (.tup [])), some (f (.lst []))) := by decide +kernel) (hf : ∀ b i z xs ys, f (.bl b) = f (.bl true) ∧ f (.int i) = f (.int 0) ∧ f (.str z) = f (.str ⟨#[]⟩) ∧ f (.tup xs) = f (.tup []) ∧ f (.lst ys) = f (.lst []) := by exact fun _ _ _ _ _ => ⟨rfl, rfl, rfl, rfl, rfl⟩) (hg : GlS S "isinstance" := by rfl) (hgc : GlS S c := by rfl) (hvc : bootBuiltins c = some (.type cn) := by decide +kernel) (hn : c ≠ "__name__" := by decide) (hdb : (c == ("__debug__" : Str)) = false := by decide)
    (hs : ∀ env, starEach [a, .Name c pc] env = [(false, eval a env), (false, eval (.Name c pc) env)] := by intro _; rfl) (hs2 : ∀ env, starEach [Expr.Name c pc] env = [(false, eval (.Name c pc) env)] := by intro _; rfl) : JN S (.Call (.Name "isinstance" p) [a, .Name c pc] [] pos) Γ (m.bind fun x => some (f x)) fun z => sh (boolS z) := fun σ W F sta z hz Q kq => by
  have hk' : ∀ x : PV, kitB x.tyn cn = some (f x) := fun x => by
    obtain ⟨k1, k⟩ := Prod.mk.inj hk
    obtain ⟨k2, k⟩ := Prod.mk.inj k
    obtain ⟨k3, k⟩ := Prod.mk.inj k
    obtain ⟨k4, k⟩ := Prod.mk.inj k
    obtain ⟨k5, k6⟩ := Prod.mk.inj k
    cases x with
    | non => exact k1
    | bl b => rw [(hf b 0 ⟨#[]⟩ [] []).1]; exact k2
    | int i => rw [(hf true i ⟨#[]⟩ [] []).2.1]; exact k3
    | str z => rw [(hf true 0 z [] []).2.2.1]; exact k4
    | tup xs => rw [(hf true 0 ⟨#[]⟩ xs []).2.2.2.1]; exact k5
    | lst xs => rw [(hf true 0 ⟨#[]⟩ [] xs).2.2.2.2]; exact k6
  obtain ⟨x, h1, h2⟩ := run1 hz
  cases h2
  refine ⟨tCB (rIsi S.K) (tCons (tOf S a) (tCons (tC (.ty cn)) tNil)), fun X hX => pe_callB (hX.K ▸ call_isi) (hg.gl hX) (mgS hm hX) (by decide +kernel) (pa_cons (peO hX) (pa_cons (pe_bltn (v := .ty cn) (hgc.gl hX) (mgS hmc hX) hvc rfl hn hdb) pa_nil (hs2 _)) ((hs _).trans (by rw [hs2]))) (by decide) (by decide) ((hs _).trans (by rw [hs2])) (by rw [hs2]; rfl), h σ W F sta x h1 _ fun v W' Fv ext _ _ r => ?_⟩
  exact ⟨v, .ty cn, .type x.tyn, .type cn, f x, rfl, .ty cn, any_ty ext.ok r.2, kit_ty (hk' x), (kq.ext ext).val ext.ok rfl⟩
theorem any_non {B : Hp} : ∀ {x : PV} {v : V}, (anyS x).P B v → decide (v = V.non) = pN x
  | .non, v, h => by
    have h' : anyP B .non v := h
    unfold anyP at h'
    subst h'
    rfl
  | .bl b, v, h => by
    have h' : anyP B (.bl b) v := h
    unfold anyP at h'
    subst h'
    rfl
  | .int i, v, h => by
    have h' : anyP B (.int i) v := h
    unfold anyP at h'
    subst h'
    rfl
  | .str z, v, h => by
    have h' : anyP B (.str z) v := h
    unfold anyP at h'
    subst h'
    rfl
  | .tup xs, v, h => by
    obtain ⟨a, vs, rfl, h2, _⟩ := pv_tup h
    rfl
  | .lst xs, v, h => by
    obtain ⟨a, vs, rfl, h2, _⟩ := pv_lst h
    rfl
theorem ov_isNA : OpV (fun x y H Q => y = .non ∧ Q (.bl (decide (x = .non))) H) anyS (fun _ : Unit => nonS) (fun x _ => some (pN x)) fun z => sh (boolS z) := fun W x y v u z ok hx hy e Q k => by
  cases e
  cases hy
  refine ⟨rfl, ?_⟩
  rw [any_non hx]
  exact k.val ok rfl
theorem ov_notNA : OpV (fun x y H Q => y = .non ∧ Q (.bl (!decide (x = .non))) H) anyS (fun _ : Unit => nonS) (fun x _ => some (!pN x)) fun z => sh (boolS z) := fun W x y v u z ok hx hy e Q k => by
  cases e
  cases hy
  refine ⟨rfl, ?_⟩
  rw [any_non hx]
  exact k.val ok rfl
theorem any_flat {B : Hp} : ∀ {x y : PV} {v u : V} {z : Bool}, (anyS x).P B v → (anyS y).P B u → eqA x y = some z → scal v u = true ∧ decide (v = u) = z
  | .non, .non, v, u, z, hx, hy, e => by
    have h1 : anyP B .non v := hx
    have h2 : anyP B .non u := hy
    unfold anyP at h1 h2
    subst h1 h2
    cases e
    exact ⟨rfl, by simp⟩
  | .bl x, .bl y, v, u, z, hx, hy, e => by
    have h1 : anyP B (.bl x) v := hx
    have h2 : anyP B (.bl y) u := hy
    unfold anyP at h1 h2
    subst h1 h2
    cases e
    exact ⟨rfl, by simp⟩
  | .int x, .int y, v, u, z, hx, hy, e => by
    have h1 : anyP B (.int x) v := hx
    have h2 : anyP B (.int y) u := hy
    unfold anyP at h1 h2
    subst h1 h2
    cases e
    exact ⟨rfl, by simp⟩
  | .str x, .str y, v, u, z, hx, hy, e => by
    have h1 : anyP B (.str x) v := hx
    have h2 : anyP B (.str y) u := hy
    unfold anyP at h1 h2
    subst h1 h2
    cases e
    exact ⟨rfl, by simp⟩
theorem ov_eqA : OpV rEq anyS anyS eqA fun z => sh (boolS z) := fun W x y v u z ok hx hy e Q k => by
  obtain ⟨h1, h2⟩ := any_flat hx hy e
  exact ⟨h1, k.val ok (by rw [h2]; rfl)⟩
theorem ov_neA : OpV rNe anyS anyS (fun x y => (eqA x y).bind fun b => some (!b)) fun z => sh (boolS z) := fun W x y v u z ok hx hy e Q k => by
  obtain ⟨b, e1, e2⟩ := run1 e
  cases e2
  obtain ⟨h1, h2⟩ := any_flat hx hy e1
  exact ⟨h1, k.val ok (by rw [h2]; rfl)⟩
theorem iv_any {K : PySem.W.Frag} : IxV (rIxT K) (fun x => sh (anyS x)) intS ixA fun x => sh (anyS x) := fun W x y v u z F1 ok hx hy e Q k => by
  cases x with
  | tup xs => exact iv_tup W xs y v u z F1 ok ⟨hx.1, pv_tup hx.2⟩ hy e Q k
  | non => cases e
  | bl _ => cases e
  | int _ => cases e
  | str _ => cases e
  | lst _ => cases e
theorem len_any {m : Option PV} {p : Pos} (hm : S.mg "len" = none) (h : JN S a Γ m fun x => sh (anyS x)) (hg : GlS S "len" := by rfl) (hs : ∀ env, starEach [a] env = [(false, eval a env)] := by intro _; rfl) : JN S (.Call (.Name "len" p) [a] [] pos) Γ (m.bind fun x => lenA x) fun z => sh (intS z) :=
  jn_b1 (r := fun xs H Q => ∃ p ys, xs = [.ref p] ∧ (SqL S.K H p ys ∨ SqT S.K H p ys) ∧ Q (.int ys.length) H) (f := lenA) (fun X hX => hX.K ▸ call_len_seq) (fun W x v z ok hh e Q k => by
    cases x with
    | tup xs =>
      cases e
      obtain ⟨p, vs, rfl, q2, q3⟩ := pv_tup hh
      exact ⟨p, vs, rfl, .inr (.inl (.inl (ok p _ q2))), k.val ok (by rw [q3.len]; rfl)⟩
    | non => cases e
    | bl _ => cases e
    | int _ => cases e
    | str _ => cases e
    | lst _ => cases e) hm h hg PySem.boot_len (by decide) (by decide) hs
end
/-- nothing is promised yet -/
theorem fn_zero {P : Program} {w : World} {K : PySem.W.Frag} {mg : Str → Option Value} {base : Heap} {x qual : Str} {st : Stmt} {f : Addr} {fd : FuncData} {dvs : List V} {kwd : List (Str × V)} {N ps : List Str} {k : Nat} {G : α → List SP} {R : ρ → OP} (F : FunD K x qual (defArgs st) (defBody st) (defScope st) dvs kwd f fd) (Sc : FnScope N ps (defScope st)) :
    FnOk P w K mg base CX0 (k + 1) f fd ps (spP G (fun _ => none) R) := by
  refine F.ok Sc (fun vs H Q E h => ?_) (fun cdv A outer s H vs Q E hr h => ?_)
  · obtain ⟨a, W, r, _, _, _, h4, _⟩ := h
    cases h4
  · obtain ⟨a, W, r, _, _, _, h4, _⟩ := h
    cases h4
end CC
set_option maxHeartbeats 4000000
/-! Exceptions. -/
namespace CC
open PySem PySem.Spec L2
open PyProof.Rows hiding St
variable {α β γ δ τ υ ω ρ ε : Type}
inductive Res (ε α : Type) where
  | ok (a : α)
  | er (e : ε)
def Res.k (r : Res ε α) (f : α → Option ω) (g : ε → Option ω) : Option ω := match r with
  | .ok a => f a
  | .er e => g e
def XD (Γl : α → Ctx) (Γx : Ctx) (Xp : ε → XP) : Res ε α → Kd
  | .ok a => .nx (Γl a)
  | .er e => .xc Γx (Xp e)
def RX (Δ Δx : Ctx) (R : α → OP) (Xp : ε → XP) : Res ε α → Kd
  | .ok a => .rt Δ (R a)
  | .er e => .xc Δx (Xp e)
def JNX (S : Stc) (e : Expr) (Γ : Ctx) (m : Option (Res ε α)) (R : α → OP) (Xp : ε → XP) : Prop :=
  ∀ σ W F, Sta Γ σ W F → ∀ r, m = some r → ∀ Q : VK, (match r with | .ok x => Got (R x) W Q | .er e => ∀ c d W', Ext W W' → (Xp e).P W'.B c d → S.W c d σ W'.H) → tOf S e σ W.H Q
def spX (G : α → List SP) (fM : α → Option (Res ε ρ)) (R : ρ → OP) (Xp : ε → XP) : Sp := fun vs H Q E => ∃ x W r, W.H = H ∧ Ex W.B W.H ∧ Hets W.B vs (G x) ∧ fM x = some r ∧ (match r with | .ok y => Got (R y) W Q | .er e => ∀ c d W', Ext W W' → (Xp e).P W'.B c d → E c d W'.H)
def tmOf (S : Stc) (e : Expr) : L2.St → Hp → XK → Prop := fun σ H Q => ∃ t : L2.St → Hp → XK → Prop, (∀ X, S.In X → PMk X e t) ∧ t σ H Q
theorem pmO {S : Stc} {X : Cx} {e : Expr} (h : S.In X) : PMk X e (tmOf S e) := fun pins s σ H Q I ⟨_, p, q⟩ => p X h pins s σ H Q I q
/-- an expression that makes an exception -/
def JM (S : Stc) (e : Expr) (Γ : Ctx) (m : Option ε) (Xp : ε → XP) : Prop :=
  ∀ σ W F, Sta Γ σ W F → ∀ x, m = some x → ∀ Q : XK, (∀ c d W', Ext W W' → (Xp x).P W'.B c d → Q c d W'.H) → tmOf S e σ W.H Q
section
variable {S : Stc} {Γ Δ : Ctx} {a b c e : Expr} {es : List Expr} {pos : Pos} {st : Stmt} {rest A B : List Stmt}
theorem jx_of {m : Option α} {R : α → OP} {Xp : ε → XP} (h : JN S e Γ m R) : JNX S e Γ (m.bind fun x => some (Res.ok x)) R Xp := fun σ W F sta r hr Q k => by
  obtain ⟨x, h1, h2⟩ := run1 hr
  cases h2
  exact h σ W F sta x h1 Q k
theorem jx_call {x : Str} {p : Pos} {f : Addr} {fd : FuncData} {ps : List Str} {k : Nat} {G : α → List SP} {fM : α → Option (Res ε ρ)} {R : ρ → OP} {Xp : ε → XP} {m : Option α} (Fn : FnOk S.P S.w S.K S.mg S.base (L2.CX S.P S.w) k f fd ps (spX G fM R Xp)) (hm : S.mg x = some (.ref f)) (kp : PySem.W.keepIn S.K (.ref f) = true) (hb : Binds S.K fd ps [])
    (hk : k ≤ S.k) (ha : JA S (e :: es) Γ m G) (hg : GlS S x := by rfl) (hdb : (x == ("__debug__" : Str)) = false := by decide) (he : ∀ env, starEach (e :: es) env = (false, eval e env) :: starEach es env := by intro _; rfl) (hpl : ∀ env, (backTo pos (starEach es env)).any (·.1) = false := by intro _; rfl) (hcm : S.calm = true := by rfl) :
    JNX S (.Call (.Name x p) (e :: es) [] pos) Γ (m.bind fun y => fM y) R Xp := fun σ W F st z hz Q kk => by
  obtain ⟨y, h1, h2⟩ := run1 hz
  refine ⟨tCallS (spX G fM R Xp) (WE S.W) (taOf S (e :: es)), fun X hX => pe_callS (fnokS Fn hX) ((hX.room hcm).mono hk) (hg.gl hX) (mgS hm hX) (by rw [hX.K]; exact kp) (by rw [hX.K]; exact hb) (fun σ => by rw [← hX.prog, ← hX.w]; exact passAt hX.tk σ) (paO hX) hdb (he _) (hpl _), ha σ W F st y h1 _ fun vs W' ext hh => ?_⟩
  refine ⟨y, W', z, rfl, ext.ok, hh, h2, ?_⟩
  cases z with
  | ok v => exact Got.ext kk ext
  | er u => exact fun c d W2 e2 hp => kk c d W2 (ext.trans e2) hp
theorem jx_if {mc : Option Bool} {ma mb : Option (Res ε α)} {R : α → OP} {Xp : ε → XP} (hc : JT S c Γ mc) (ha : JNX S a Γ ma R Xp) (hb : JNX S b Γ mb R Xp) : JNX S (.IfExp c a b pos) Γ (mc.bind fun t => bif t then ma else mb) R Xp := fun σ W F st z hz Q k => by
  obtain ⟨t, h1, h2⟩ := run1 hz
  refine ⟨tIf (ttOf S c) (tOf S a) (tOf S b), fun X hX => pe_ifExp (ptO hX) (peO hX) (peO hX), hc σ W F st t h1 _ fun W1 e1 => ?_⟩
  cases t with
  | true =>
    refine iteT (ha σ W1 F (st.ext e1) z h2 Q ?_)
    cases z with
    | ok x => exact Got.ext k e1
    | er u => exact fun c d W2 e2 hp => k c d W2 (e1.trans e2) hp
  | false =>
    refine iteF (hb σ W1 F (st.ext e1) z h2 Q ?_)
    cases z with
    | ok x => exact Got.ext k e1
    | er u => exact fun c d W2 e2 hp => k c d W2 (e1.trans e2) hp
def JAX (S : Stc) (es : List Expr) (Γ : Ctx) (m : Option (Res ε α)) (G : α → List SP) (Xp : ε → XP) : Prop :=
  ∀ σ W F, Sta Γ σ W F → ∀ r, m = some r → ∀ Q : List V → Hp → Prop, (match r with | .ok x => ∀ vs W', Ext W W' → Hets W'.B vs (G x) → Q vs W'.H | .er e => ∀ c d W', Ext W W' → (Xp e).P W'.B c d → S.W c d σ W'.H) → taOf S es σ W.H Q
def consX (r : Res ε α) (m : Option (Res ε β)) : Option (Res ε (α × β)) := r.k (fun x => m.bind fun q => q.k (fun y => some (.ok (x, y))) fun e => some (.er e)) fun e => some (.er e)
theorem jax_of {m : Option α} {G : α → List SP} {Xp : ε → XP} (h : JA S es Γ m G) : JAX S es Γ (m.bind fun x => some (Res.ok x)) G Xp := fun σ W F sta r hr Q k => by
  obtain ⟨x, h1, h2⟩ := run1 hr
  cases h2
  exact h σ W F sta x h1 Q k
theorem jax_cons {ma : Option (Res ε α)} {mb : Option (Res ε β)} {E : α → SP} {G : β → List SP} {Xp : ε → XP} (ha : JNX S e Γ ma (fun x => sh (E x)) Xp) (hb : JAX S es Γ mb G Xp) (hs : ∀ env, starEach (e :: es) env = (false, eval e env) :: starEach es env := by intro _; rfl) :
    JAX S (e :: es) Γ (ma.bind fun r => consX r mb) (fun p => E p.1 :: G p.2) Xp := fun σ W F st z hz Q k => by
  obtain ⟨r, h1, h2⟩ := run1 hz
  refine ⟨tCons (tOf S e) (taOf S es), fun X hX => pa_cons (peO hX) (paO hX) (hs _), ha σ W F st r h1 _ ?_⟩
  cases r with
  | er u =>
    cases h2
    exact k
  | ok x =>
    obtain ⟨q, h3, h4⟩ := run1 (f := fun q : Res ε β => q.k (fun y => some (Res.ok (x, y))) fun e => some (.er e)) h2
    intro v W1 F1 e1 _ _ r1
    refine hb σ W1 F (st.ext e1) q h3 _ ?_
    cases q with
    | er u =>
      cases h4
      exact fun c d W2 e2 hp => k c d W2 (e1.trans e2) hp
    | ok y =>
      cases h4
      exact fun vs W2 e2 h => k (v :: vs) W2 (e1.trans e2) ⟨SP.mono _ r1.2 e2.b, h⟩
def mapX (g : α → β) : Res ε α → Res ε β
  | .ok x => .ok (g x)
  | .er e => .er e
theorem jx_tupG {m : Option (Res ε α)} {G : α → List SP} {P : β → SP} {g : α → β} {Xp : ε → XP} {k : Nat} (h : JAX S es Γ m G Xp) (hR : ∀ x, htupS (G x) = P (g x) := by intro _; rfl) (hl : ∀ x, (G x).length ≤ 1000 := by intro _; exact Nat.le_of_ble_eq_true rfl) : JNX S (.Tuple es k pos) Γ (m.bind fun r => some (mapX g r)) (fun y => sh (P y)) Xp := fun σ W F st z hz Q kk => by
  obtain ⟨r, h1, h2⟩ := run1 hz
  cases h2
  refine ⟨tTup (taOf S es), fun X hX => pe_tup (paO hX), h σ W F st r h1 _ ?_⟩
  cases r with
  | er u => exact kk
  | ok x =>
    intro vs W' e hh
    refine ⟨Nat.le_trans (by rw [hh.len]; exact hl x) (by decide), fun q hq => ?_⟩
    have e2 := Ext.newB e.ok (o := .tup vs) hq
    exact kk (.ref q) ⟨upd W'.H q (.tup vs), upd W'.B q (.tup vs)⟩ [] (e.trans e2) (fun _ h => (List.not_mem_nil h).elim) FpOk.nil ⟨rfl, by rw [← hR]; exact ⟨q, vs, rfl, upd_same, hh.mono e2.b⟩⟩
theorem js_setX {x : Str} {pos' : Pos} {m : Option (Res ε α)} {R : α → OP} {Xp : ε → XP} (i : Nat) (nd : S.N.Nodup) (h : JNX S e Γ m R Xp) (hi : (Γ[i]?).isSome = true := by rfl) (hN : S.N[i]? = some x := by rfl) (hx : Loc S.sc x := by first | exact Or.inl rfl | exact Or.inr rfl) (hp : (S.prot.contains i) = false := by rfl)
    (hs : ∀ env, swapsWith e (some (.Name x pos')) pos.line env = pure false := by intro _; rfl) (hf : S.fn x = true ∨ S.sc.names.lookup x = some .local := by first | exact .inl rfl | exact .inr rfl) : JS S (.Assign [.Name x pos'] e pos) Γ m (XD (fun a => Γ.set i (some (R a))) Γ Xp) := fun σ W F sta y hy E k => by
  refine ⟨tAsg (tOf S e) (gName i), fun X hX => ps_set (by rw [hX.N]; exact nd) (by rw [hX.N]; exact hN) (locS hx hX) (peO hX) (hs _) (by rw [hX.fn, hX.sc]; exact hf), h σ W F sta y hy _ ?_⟩
  cases y with
  | ok v =>
    exact fun v W' Fv ext fr fp r => by
      obtain ⟨F', s', stp⟩ := sta_set sta ext fr fp r hi
      exact k _ W' F' (Keep.set (ncon hp)) stp s'
  | er u => exact fun c d W' ext hp => k c d σ W' F Keep.refl ext.stp0 (sta.ext ext) hp
theorem jb_retX {m : Option (Res ε α)} {R : α → OP} {Xp : ε → XP} {Δx : Ctx} (w : Weak Γ Δ) (wx : Weak Γ Δx) (h : JNX S e Γ m R Xp) : JB S (.Return (some e) pos :: rest) Γ m (RX Δ Δx R Xp) := fun σ W F sta y hy E k => by
  refine ⟨tSeq (tRet (tOf S e)) tNever, fun X hX => pss_cons (ps_ret (peO hX)) pss_never, h σ W F sta y hy _ ?_⟩
  cases y with
  | ok v =>
    exact fun v W' Fv ext fr fp r => by
      obtain ⟨F', s', sub⟩ := (sta.ext ext).weak w
      have stp := (ext.stp (F := F) fr).perm (F2 := F' ++ Fv) fun b hb => by
        rcases List.mem_append.mp hb with z | z
        · exact List.mem_append_left _ (sub b z)
        · exact List.mem_append_right _ z
      have fp' := sta.fp.fresh ext fp fr
      have fp2 : FpOk W' (F' ++ Fv) := s'.fp.app fp fun b hb h2 => fp'.disj b (sub b hb) h2
      exact k v σ W' F' Fv Keep.refl stp s' fp2 r
  | er u =>
    exact fun c d W' ext hp => by
      obtain ⟨F', s', sub⟩ := (sta.ext ext).weak wx
      exact k c d σ W' F' Keep.refl (ext.stp0.perm sub) s' hp
theorem jb_consX {ms : Option (Res ε α)} {Γl : α → Ctx} {Xp : ε → XP} {mr : α → Option ω} {D : ω → Kd} (ι : ε → ω) (w : Weak Γ Δ) (h : JS S st Γ ms (XD Γl Γ Xp)) (hι : ∀ e, D (ι e) = .xc Δ (Xp e)) (hr : ∀ x, JB S rest (Γl x) (mr x) D) : JB S (st :: rest) Γ (ms.bind fun r => r.k mr fun e => some (ι e)) D := fun σ W F sta z hz E k => by
  obtain ⟨r, h1, h2⟩ := run1 hz
  refine ⟨tSeq (tsOf S st) (tbOf S rest), fun X hX => pss_cons (psO hX) (pbO hX), ?_⟩
  refine h σ W F sta r h1 { E with nx := tbOf S rest E } ?_
  cases r with
  | ok x => exact fun σ' W' F' kp stp sta' => hr x σ' W' F' sta' z h2 E (k.before kp stp)
  | er u =>
    cases h2
    rw [hι] at k
    exact fun c d σ' W' F' kp stp sta' hp => by
      obtain ⟨F2, s', sub⟩ := sta'.weak w
      exact k c d σ' W' F2 kp (stp.perm sub) s' hp
theorem jb_raise {m : Option ε} {Xp : ε → XP} {D : ω → Kd} (ι : ε → ω) (w : Weak Γ Δ) (h : JM S e Γ m Xp) (hι : ∀ e, D (ι e) = .xc Δ (Xp e)) (hcm : S.calm = true := by rfl) : JB S (.Raise (some e) none pos :: rest) Γ (m.bind fun e => some (ι e)) D := fun σ W F sta z hz E k => by
  obtain ⟨u, h1, h2⟩ := run1 hz
  cases h2
  rw [hι] at k
  refine ⟨tSeq (fun _ σ H => tmOf S e σ H fun cls d H' => S.W cls d σ H') tNever, fun X hX => pss_cons (ps_raise (hX.calm.trans hcm) hX.tk (pmO hX)) pss_never, h σ W F sta u h1 _ fun c d W' ext hp => ?_⟩
  obtain ⟨F', s', sub⟩ := (sta.ext ext).weak w
  exact k c d σ W' F' Keep.refl (ext.stp0.perm sub) s' hp
end
/-- a def that may raise -/
theorem in_cxX {P : Program} {w : World} {K : PySem.W.Frag} {mg : Str → Option Value} {base : Heap} {N : List Str} {st : Stmt} {k : Nat} {prot : List Nat} {qual : Str} {f : Addr} {cdv : Value} {A : Around} {outer : List Env} {s : Shared} {H : Hp} {E : XK} (hr : Room k (A.deeper (envOfC qual (defScope st) s.heap.objs.size f cdv))) :
    ({ stcOf P w K mg base N (defScope st) k prot with W := fun c d _ H => E c d H } : Stc).In (cxOf (L2.CX P w) P w K mg base N qual (defScope st) f cdv A outer s H E) := ⟨rfl, rfl, rfl, rfl, rfl, rfl, rfl, rfl, rfl, fun _ => hr, hr.units, passes_of rfl, takes_of rfl rfl rfl rfl, fun _ => ⟨rfl, rfl⟩, nofun⟩
theorem fnd_pureX {P : Program} {w : World} {K : PySem.W.Frag} {mg : Str → Option Value} {base : Heap} {x qual : Str} {st : Stmt} {f : Addr} {fd : FuncData} {dvs : List V} {kwd : List (Str × V)} {N ps : List Str} {k : Nat} {G : α → List SP} {fM : α → Option (Res ε ρ)} {R : ρ → OP} {Xp : ε → XP} {Δ : Ctx} (F : FunD K x qual (defArgs st) (defBody st) (defScope st) dvs kwd f fd) (Sc : FnScope N ps (defScope st)) (hG : ∀ a, (G a).length = ps.length) (hn : ps.length ≤ N.length)
    (body : ∀ a (wx : WX), JB { stcOf P w K mg base N (defScope st) k [] with W := wx } (defBody st) (shC (G a) ++ nonC (N.length - ps.length)) (fM a) (RX Δ Δ R Xp)) : FnOk P w K mg base (L2.CX P w) (k + 1) f fd ps (spX G fM R Xp) := by
  refine F.ok Sc (fun vs H Q E h => ?_) (fun cdv A outer s H vs Q E hr h => ?_)
  · obtain ⟨a, W, r, _, _, h3, _⟩ := h
    rw [h3.len, hG]
  · obtain ⟨a, W, r, rfl, ok, h3, h4, kq⟩ := h
    refine ⟨tbOf { stcOf P w K mg base N (defScope st) k [] with W := fun c d _ H => E c d H } (defBody st), pbO (in_cxX hr), ?_⟩
    have hl : vs.length = ps.length := h3.len.trans (hG a)
    have sta : Sta (shC (G a) ++ nonC (N.length - ps.length)) (L2.start N vs) W [] := ⟨ok, FpOk.nil, by unfold L2.start shC nonC; simp [h3.len, hG, hl], by unfold L2.start; rw [hl]; exact holds_sh h3⟩
    refine body a _ _ W [] sta r h4 _ ?_
    cases r with
    | ok y =>
      intro v σ' W' F' Fv _ stp _ fp rr
      obtain ⟨ext, fr⟩ := stp.ext
      exact kq v W' Fv ext (fun a ha => fr a (List.mem_append_right _ ha)) fp.right rr
    | er u => exact fun c d σ' W' F' _ stp _ hp => kq c d W' stp.ext.1 hp
/-! ### what is raised -/
/-- an exception of the class at C, without attributes -/
def clsX (C : Addr) : XP := ⟨fun _ c d => c = .ref C ∧ d = none, fun h _ => h⟩
/-- what the top tells of such a class -/
structure ExcF (K : PySem.W.Frag) (C : Addr) : Prop where
  q : PySem.W.excIn K C He.veBase "ValueError.__new__" = true
  kp : PySem.W.keepIn K (.ref C) = true
  s : PySem.W.subIn K (.ref C) (.type "BaseException") = some true
  t : PySem.W.typeIn K (.ref C) = some (.type "type")
theorem pmk_own0 {X : Cx} {C : Addr} {bmB : List Value} {B newId initId : String} {x : Str} {p pos : Pos} (F : ExcBaseFacts B newId initId bmB) (q : PySem.W.excIn X.K C bmB newId = true) (gC : X.mg x = some (.ref C))
    (kC : PySem.W.keepIn X.K (.ref C) = true) (r : Raises X (.ref C)) (hg : Gl X x) (hdb : (x == ("__debug__" : Str)) = false := by decide) :
    PMk X (.Call (.Name x p) [] [] pos) (fun _ H Q => Q (.ref C) none H) := by
  intro pins s σ H Q I h
  refine wpAny_Call_Name_kw (ld_glob I hg gC ?_ hdb)
  refine PySem.W.callWith_K0 I.kIn kC ?_
  show wpAny _ _ (call (.ref C) []) _ _ _
  obtain ⟨bm, N, nm, qn, bs, hdct, sn, sub, ab, col, dd, k0, k1, k2, k3, k5, mN, hC, hN, hni, T⟩ := exc_obj I.kIn q
  refine wpAny_call_exc_subT F T hC hN hni (fun h' e hm => ?_) (by show 0 ≤ sizeLine; exact Nat.zero_le _)
  exact mk_of I hm r h (I.hok.gone hm.new)
section
variable {S : Stc} {Γ Δ : Ctx} {a b c e : Expr} {es : List Expr} {pos : Pos} {st : Stmt} {rest A B : List Stmt}
theorem jm_own0 {x : Str} {p : Pos} {C : Addr} {u : ε} {Xp : ε → XP} (F : ExcF S.K C) (hm : S.mg x = some (.ref C)) (hX : Xp u = clsX C := by rfl) (hg : GlS S x := by rfl) (hdb : (x == ("__debug__" : Str)) = false := by decide) : JM S (.Call (.Name x p) [] [] pos) Γ (some u) Xp := fun σ W F' sta y hy Q k => by
  cases hy
  refine ⟨fun _ H Q => Q (.ref C) none H, fun X hX' => pmk_own0 PySem.F.excBase_ValueError (by rw [hX'.K]; exact F.q) (mgS hm hX') (by rw [hX'.K]; exact F.kp) (raises_own (by rw [hX'.K]; exact F.s) (by rw [hX'.K]; exact F.t)) (hg.gl hX') hdb, k _ _ W (Ext.refl sta.ok) ?_⟩
  rw [hX]
  exact ⟨rfl, rfl⟩
theorem jm_ownA {x : Str} {p : Pos} {C : Addr} {m : Option α} {G : α → List SP} {u : α → ε} {Xp : ε → XP} (F : ExcF S.K C) (hm : S.mg x = some (.ref C)) (ha : JA S (e :: es) Γ m G) (hX : ∀ y, Xp (u y) = clsX C := by intro _; rfl) (hl : ∀ y, (G y).length ≤ 1000 := by intro _; exact Nat.le_of_ble_eq_true rfl) (hg : GlS S x := by rfl) (hdb : (x == ("__debug__" : Str)) = false := by decide)
    (he : ∀ env, starEach (e :: es) env = (false, eval e env) :: starEach es env := by intro _; rfl) (hpl : ∀ env, (backTo pos (starEach es env)).any (·.1) = false := by intro _; rfl) : JM S (.Call (.Name x p) (e :: es) [] pos) Γ (m.bind fun y => some (u y)) Xp := fun σ W F' sta y hy Q k => by
  obtain ⟨y, h1, h2⟩ := run1 hy
  cases h2
  refine ⟨fun σ H Q => taOf S (e :: es) σ H fun vs H1 => vs.length ≤ sizeLine ∧ Q (.ref C) none H1, fun X hX' => pmk_ownA PySem.F.excBase_ValueError (by rw [hX'.K]; exact F.q) (mgS hm hX') (by rw [hX'.K]; exact F.kp) (raises_own (by rw [hX'.K]; exact F.s) (by rw [hX'.K]; exact F.t)) (hg.gl hX') (paO hX') hdb (he _) (hpl _), ha σ W F' sta y h1 _ fun vs W1 ext hh => ⟨?_, k _ _ W1 ext ?_⟩⟩
  · rw [hh.len]
    exact Nat.le_trans (hl y) (by decide)
  · rw [hX]
    exact ⟨rfl, rfl⟩
/-! ### try .. except C: (every exception of the body is C's) -/
/-- the context of an except suite -/
abbrev Stc.sui (S : Stc) : Stc := { S with W := fun _ _ _ _ => False, calm := false, top := false, ex := none }
theorem Stc.In.sui {X : Cx} (h : S.In X) (a : Addr) (pn : List (Addr × Obj)) : S.sui.In (X.suite a pn) :=
  ⟨h.prog, h.w, h.K, h.mg, h.base, h.N, h.sc, h.fn, rfl, nofun, h.un, PassesOwn.never, takes_none, nofun, nofun⟩
theorem Stc.In.tr {X : Cx} (h : S.In X) (hx : S.ex = none) {W : WX} {pn : List (Addr × Obj)} {xe : Value → Shared → Prop} (tk : Takes (X.tr pn xe) W) (pass : PassesOwn (model X.prog X.w) X.A X.env xe) : ({ S with W := W } : Stc).In (X.tr pn xe) :=
  ⟨h.prog, h.w, h.K, h.mg, h.base, h.N, h.sc, h.fn, h.calm, h.room, h.un, pass, tk, h.top, fun a C z => by have : S.ex = some (a, C) := z; rw [hx] at this; cases this⟩
/-- what the handler does with the body's outcome -/
def tryM (m : Option (Res ε ω)) (f : ε → Option ω) : Option ω := m.bind fun r => r.k (fun x => some x) f
def TD (D : ω → Kd) (Γx : Ctx) (Xp : ε → XP) : Res ε ω → Kd
  | .ok x => D x
  | .er e => .xc Γx (Xp e)
theorem js_try {x : Str} {c : Value} {np pos' : Pos} {b₀ : Stmt} {mb : Option (Res ε ω)} {ms : ε → Option ω} {Xp : ε → XP} {D : ω → Kd} (Γx : Ctx) (hb : ∀ wx : WX, JB { S with W := wx } B Γ mb (TD D Γx Xp)) (hs : ∀ u, JB S.sui (b₀ :: A) Γx (ms u) D) (hm : S.mg x = some c) (hx : ∀ u B c' d, (Xp u).P B c' d → PySem.W.exmOne S.K c' c = some true)
    (hx0 : ∀ o, ∀ Γ' R, D o ≠ .xc Γ' R) (hg : GlS S x := by rfl) (hdb : (x == ("__debug__" : Str)) = false := by decide) (htop : S.top = true := by rfl) (hex : S.ex = none := by rfl) : JS S (.Try B [.ExceptHandler (some (.Name x np)) none (b₀ :: A) pos'] [] [] pos) Γ (tryM mb ms) D := fun σ W F sta z hz E k => by
  obtain ⟨r, h1, h2⟩ := run1 hz
  refine ⟨fun D σ H => tbOf { S with W := wOnly S.K c (fun _ _ _ => tbOf S.sui (b₀ :: A)) S.W D } B D σ H, fun X hX => ?_, ?_⟩
  · obtain ⟨t1, t2⟩ := hX.top htop
    have := ps_try_only (pos := pos) (pos' := pos') (np := np) t1 t2 (c := c) (x := x) (b₀ := b₀) (suite := A) (body := B) (ts := fun _ _ _ => tbOf S.sui (b₀ :: A)) (tb := fun W => tbOf { S with W := W } B) ⟨hg.gl hX, hdb, .inl (mgS hm hX)⟩ hX.tk (fun W pn xe tk pass => pbO (hX.tr hex tk pass)) (fun a oe cls d pn _ _ => pbO (hX.sui a _))
    rw [hX.K] at this
    exact this
  · refine hb _ σ W F sta r h1 E ?_
    cases r with
    | ok o =>
      cases h2
      show Post _ S.prot σ W F E (D z)
      generalize hq : D z = q at k
      cases q with
      | nx Γ => exact k
      | bk Γ => exact k
      | ct Γ => exact k
      | rt Γ R => exact k
      | xc Γ R => exact absurd hq (hx0 z Γ R)
    | er u =>
      intro c' d σ' W' F' kp stp sa hp
      refine ⟨true, hx u _ _ _ hp, fun _ a ha => ?_, fun q => nomatch q⟩
      refine hs u σ' W' F' sa z h2 E ?_
      have k' := k.before kp stp
      generalize hq : D z = q at k'
      cases q with
      | nx Γ => exact k'
      | bk Γ => exact k'
      | ct Γ => exact k'
      | rt Γ R => exact k'
      | xc Γ R => exact absurd hq (hx0 z Γ R)
end
end CC
set_option maxHeartbeats 4000000
/-! More operators. -/
namespace CC
open PySem PySem.Spec L2
open PyProof.Rows hiding St
variable {α β γ δ τ υ ω ρ ε : Type}
/-! ### in -/
structure FlatE [DecidableEq α] (E : α → SP) (V : α → V) : Prop where
  eq : ∀ {B x v}, (E x).P B v → v = V x
  flat : ∀ x, flatV (V x) = true
  inj : ∀ x y, eqV (V x) (V y) = decide (x = y)
theorem fl_int : FlatE intS V.int := ⟨fun h => h, fun _ => rfl, fun x y => by show (x == y) = _; rw [Bool.eq_iff_iff]; simp⟩
theorem fl_str : FlatE strS V.str := ⟨fun h => h, fun _ => rfl, fun x y => by show (x == y) = _; rw [Bool.eq_iff_iff]; simp⟩
theorem fl_bool : FlatE boolS V.bl := ⟨fun h => h, fun _ => rfl, fun x y => by show (x == y) = _; rw [Bool.eq_iff_iff]; simp⟩
theorem each_flat [DecidableEq α] {E : α → SP} {V : α → V} (f : FlatE E V) {B : Hp} : ∀ {vs : List L2.V} {xs : List α}, Each E B vs xs → vs = xs.map V
  | [], [], _ => rfl
  | v :: vs, x :: xs, h => by rw [f.eq h.1, each_flat f h.2]; rfl
  | [], _ :: _, h => h.elim
  | _ :: _, [], h => h.elim
theorem flat_all [DecidableEq α] {E : α → SP} {V : α → V} (f : FlatE E V) (xs : List α) : (xs.map V).all flatV = true := by
  rw [List.all_map]
  exact List.all_eq_true.mpr fun x _ => f.flat x
theorem flat_in [DecidableEq α] {E : α → SP} {V : α → V} (f : FlatE E V) (x : α) (xs : List α) : inV (V x) (xs.map V) = decide (x ∈ xs) := by
  unfold inV
  rw [List.any_map]
  have e : ((fun y => eqV y (V x)) ∘ V) = fun y => decide (y = x) := funext fun y => f.inj y x
  rw [e]
  rw [Bool.eq_iff_iff]
  simp
theorem ov_inT [DecidableEq α] {K : PySem.W.Frag} {E : α → SP} {V : α → V} (f : FlatE E V) : OpV (rIn K false) E (tupS E) (fun x xs => some (decide (x ∈ xs))) fun z => sh (boolS z) := fun W x y v u z ok hx hy e Q k => by
  cases e
  obtain ⟨a, vs, rfl, h2, h3⟩ := hy
  have e1 := each_flat f h3
  have e2 := f.eq hx
  subst e1 e2
  exact ⟨a, _, rfl, .inr (.inl (.inl (ok a _ h2))), f.flat x, flat_all f y, k.val ok (by show L2.V.bl (inV (V x) (y.map V)) = _; rw [flat_in f])⟩
theorem ov_inL [DecidableEq α] {K : PySem.W.Frag} {E : α → SP} {V : α → V} (f : FlatE E V) : OpV (rIn K false) E (lstS E) (fun x xs => some (decide (x ∈ xs))) fun z => sh (boolS z) := fun W x y v u z ok hx hy e Q k => by
  cases e
  obtain ⟨a, vs, rfl, h2, h3⟩ := hy
  have e1 := each_flat f h3
  have e2 := f.eq hx
  subst e1 e2
  exact ⟨a, _, rfl, .inl (.inl (.inl (ok a _ h2))), f.flat x, flat_all f y, k.val ok (by show L2.V.bl (inV (V x) (y.map V)) = _; rw [flat_in f])⟩
theorem ov_ninT [DecidableEq α] {K : PySem.W.Frag} {E : α → SP} {V : α → V} (f : FlatE E V) : OpV (rIn K true) E (tupS E) (fun x xs => some (!decide (x ∈ xs))) fun z => sh (boolS z) := fun W x y v u z ok hx hy e Q k => by
  cases e
  obtain ⟨a, vs, rfl, h2, h3⟩ := hy
  have e1 := each_flat f h3
  have e2 := f.eq hx
  subst e1 e2
  exact ⟨a, _, rfl, .inr (.inl (.inl (ok a _ h2))), f.flat x, flat_all f y, k.val ok (by show L2.V.bl (!inV (V x) (y.map V)) = _; rw [flat_in f])⟩
theorem ov_ninL [DecidableEq α] {K : PySem.W.Frag} {E : α → SP} {V : α → V} (f : FlatE E V) : OpV (rIn K true) E (lstS E) (fun x xs => some (!decide (x ∈ xs))) fun z => sh (boolS z) := fun W x y v u z ok hx hy e Q k => by
  cases e
  obtain ⟨a, vs, rfl, h2, h3⟩ := hy
  have e1 := each_flat f h3
  have e2 := f.eq hx
  subst e1 e2
  exact ⟨a, _, rfl, .inl (.inl (.inl (ok a _ h2))), f.flat x, flat_all f y, k.val ok (by show L2.V.bl (!inV (V x) (y.map V)) = _; rw [flat_in f])⟩
theorem oIn {S : Stc} : ∀ X, S.In X → OpR X (compareOp .In) (rIn S.K false) := fun _ h => h.K ▸ op_in_seq
theorem oNotIn {S : Stc} : ∀ X, S.In X → OpR X (compareOp .NotIn) (rIn S.K true) := fun _ h => h.K ▸ op_notIn_seq
/-! ### tuple +, list * -/
theorem oCatT {S : Stc} : ∀ X, S.In X → OpR X (binaryOp .Add) (rCatA S.K) := fun _ h => h.K ▸ op_catA
theorem ov_catT {K : PySem.W.Frag} {E : α → SP} : OpV (rCatA K) (tupS E) (tupS E) catM fun x => sh (tupS E x) := fun W x y v u z ok hx hy e Q k => by
  unfold catM at e
  split at e
  · rename_i hl
    cases e
    obtain ⟨a, vs, rfl, a2, a3⟩ := hx
    obtain ⟨b, us, rfl, b2, b3⟩ := hy
    refine ⟨a, b, vs, us, rfl, rfl, .inl (.inl (ok a _ a2)), .inl (.inl (ok b _ b2)), lim_le (by rw [a3.len, b3.len]; exact hl), fun h => ?_, fun _ h => ?_, fun _ _ => k.newT ok (a3.app b3)⟩
    · have : x = [] := List.eq_nil_of_length_eq_zero (by rw [← a3.len, h]; rfl)
      subst this
      exact k.val ok ⟨b, us, rfl, b2, b3⟩
    · have : y = [] := List.eq_nil_of_length_eq_zero (by rw [← b3.len, h]; rfl)
      subst this
      rw [List.append_nil] at k
      exact k.val ok ⟨a, vs, rfl, a2, a3⟩
  · cases e
def repM (xs : List α) (k : Int) : Option (List α) := if xs.length * k.toNat ≤ LIM ∧ -1000000 ≤ k ∧ k ≤ 1000000 then some (List.replicate k.toNat xs).flatten else none
theorem oRep {S : Stc} : ∀ X, S.In X → OpR X (binaryOp .Mult) rRep := fun _ _ => op_rep
theorem each_rep {E : α → SP} {B : Hp} {vs : List V} {xs : List α} (h : Each E B vs xs) : ∀ n : Nat, Each E B (List.replicate n vs).flatten (List.replicate n xs).flatten
  | 0 => trivial
  | n + 1 => by
    rw [List.replicate_succ, List.replicate_succ, List.flatten_cons, List.flatten_cons]
    exact h.app (each_rep h n)
theorem ov_rep {E : α → SP} : OpV rRep (lstS E) intS repM (lstO fun x => sh (E x)) := fun W x y v u z ok hx hy e Q k => by
  unfold repM at e
  split at e
  · rename_i hl
    cases e
    cases hy
    obtain ⟨a, vs, rfl, a2, a3⟩ := hx
    exact ⟨a, y, vs, rfl, rfl, ok a _ a2, by omega, by omega, lim_le (by rw [a3.len]; exact hl.1), k.newL ok (each_rep a3 _)⟩
  · cases e
/-! ### a < b < c -/
section
variable {S : Stc} {Γ : Ctx} {a b c e : Expr} {pos : Pos}
theorem jn_chain {op op' : CmpOp} {r r' : R2} {E : α → SP} {G : β → SP} {I : γ → SP} {f : α → β → Option Bool} {g : β → γ → Option Bool} {ma : Option α} {mb : Option β} {mc : Option γ} (ho : ∀ X, S.In X → OpR X (compareOp op) r) (hr : OpV r E G f fun z => sh (boolS z)) (ho' : ∀ X, S.In X → OpR X (compareOp op') r') (hr' : OpV r' G I g fun z => sh (boolS z))
    (ha : JN S a Γ ma fun x => sh (E x)) (hb : JN S b Γ mb fun x => sh (G x)) (hc : JN S c Γ mc fun x => sh (I x)) (hm : lastMarks [op, op'] [b, c] = false := by with_unfolding_all rfl) :
    JN S (.Compare a [op, op'] [b, c] pos) Γ (ma.bind fun x => mb.bind fun y => (f x y).bind fun t => bif t then mc.bind fun z => g y z else some false) fun z => sh (boolS z) := fun σ W F st z hz Q k => by
  obtain ⟨x, y, h1, h2, h3⟩ := run2 hz
  obtain ⟨t, h4, h5⟩ := run1 h3
  refine ⟨tChain r r' (tOf S a) (tOf S b) (tOf S c), fun X hX => pe_chain (ho X hX) (ho' X hX) (peO hX) (peO hX) (peO hX) hm, ?_⟩
  refine ha σ W F st x h1 _ fun v W1 F1 e1 _ _ r1 => hb σ W1 F (st.ext e1) y h2 _ fun u W2 F2 e2 _ _ r2 => ?_
  refine hr W2 x y v u t e2.ok (SP.mono _ r1.2 e2.b) r2.2 h4 _ fun w W3 F3 e3 _ _ r3 => ?_
  have e13 := (e1.trans e2).trans e3
  refine ⟨t, r3.2, ?_⟩
  cases t with
  | false =>
    cases h5
    rw [if_neg (fun z => nomatch z)]
    exact (k.ext e13).val e3.ok rfl
  | true =>
    rw [if_pos rfl]
    obtain ⟨q, h6, h7⟩ := run1 (f := fun z => g y z) h5
    refine hc σ W3 F (st.ext e13) q h6 _ fun w' W4 F4 e4 _ _ r4 => ?_
    exact hr' W4 y q u w' z e4.ok (SP.mono _ (SP.mono _ r2.2 e3.b) e4.b) r4.2 h7 Q (k.ext (e13.trans e4))
theorem sum_lst {m : Option (List Int)} {p : Pos} (hm : S.mg "sum" = none) (h : JN S a Γ m fun x => sh (lstS intS x)) (hg : GlS S "sum" := by rfl) (hs : ∀ env, starEach [a] env = [(false, eval a env)] := by intro _; rfl) (hcm : S.calm = true := by rfl) : JN S (.Call (.Name "sum" p) [a] [] pos) Γ (m.bind fun x => some x.sum) fun z => sh (intS z) :=
  jn_b1 (f := fun x : List Int => some x.sum) (fun X hX => hX.K ▸ cr_sum (hX.calm.trans hcm)) (fun W x v z ok hh e Q k => by
    cases e
    obtain ⟨a, vs, rfl, h2, h3⟩ := hh
    have e1 := each_flat fl_int h3
    subst e1
    exact ⟨a, x, rfl, .inl (.inl (ok a _ h2)), k.val ok rfl⟩) hm h hg (by decide +kernel) (by decide) (by decide) hs
end
end CC
set_option maxHeartbeats 4000000
/-! Dicts: keys are ints (texts), values are shared; records with written keys. -/
namespace CC
open PySem PySem.Spec L2
open PyProof.Rows hiding St
variable {α β γ δ τ υ ω ρ ε κ : Type}
structure KeyE (kE : κ → SP) (kk : κ → Key) : Prop where
  eq : ∀ {B k v}, (kE k).P B v → v = kV (kk k)
  inj : ∀ {a b}, kk a = kk b → a = b
theorem ke_int : KeyE intS Sum.inl := ⟨fun h => h, fun h => Sum.inl.inj h⟩
theorem ke_str : KeyE strS Sum.inr := ⟨fun h => h, fun h => Sum.inr.inj h⟩
def DRel (kk : κ → Key) (E : α → SP) (B : Hp) : List (Key × V) → List (κ × α) → Prop
  | [], [] => True
  | p :: r, q :: s => p.1 = kk q.1 ∧ (E q.2).P B p.2 ∧ DRel kk E B r s
  | _, _ => False
theorem DRel.mono {kk : κ → Key} {E : α → SP} {B B' : Hp} (e : Ex B B') : ∀ {r : List (Key × V)} {s : List (κ × α)}, DRel kk E B r s → DRel kk E B' r s
  | [], [], _ => trivial
  | _ :: _, _ :: _, h => ⟨h.1, SP.mono _ h.2.1 e, DRel.mono e h.2.2⟩
  | [], _ :: _, h => h.elim
  | _ :: _, [], h => h.elim
theorem DRel.len {kk : κ → Key} {E : α → SP} {B : Hp} : ∀ {r : List (Key × V)} {s : List (κ × α)}, DRel kk E B r s → r.length = s.length
  | [], [], _ => rfl
  | _ :: _, _ :: _, h => by rw [List.length_cons, List.length_cons, DRel.len h.2.2]
  | [], _ :: _, h => h.elim
  | _ :: _, [], h => h.elim
variable [DecidableEq κ]
def getM : List (κ × α) → κ → Option α
  | [], _ => none
  | q :: s, k => if q.1 = k then some q.2 else getM s k
def putR : List (κ × α) → κ → α → List (κ × α)
  | [], _, _ => []
  | q :: s, k, x => (if q.1 = k then (q.1, x) else q) :: putR s k x
def putM (s : List (κ × α)) (k : κ) (x : α) : List (κ × α) := if (getM s k).isSome then putR s k x else s ++ [(k, x)]
theorem DRel.get {kE : κ → SP} {kk : κ → Key} (K : KeyE kE kk) {E : α → SP} {B : Hp} : ∀ {r : List (Key × V)} {s : List (κ × α)} (k : κ), DRel kk E B r s → match getM s k with | none => valV r (kk k) = none | some x => ∃ v, valV r (kk k) = some v ∧ (E x).P B v
  | [], [], k, _ => rfl
  | p :: r, q :: s, k, h => by
    unfold getM
    by_cases e : q.1 = k
    · rw [if_pos e]
      exact ⟨p.2, valV_pos (h.1.trans (by rw [e])), h.2.1⟩
    · rw [if_neg e]
      have := DRel.get K k h.2.2
      rw [valV_neg (fun z => e (K.inj (h.1.symm.trans z)))]
      exact this
  | [], _ :: _, _, h => h.elim
  | _ :: _, [], _, h => h.elim
theorem DRel.repl {kE : κ → SP} {kk : κ → Key} (K : KeyE kE kk) {E : α → SP} {B : Hp} {k : κ} {x : α} {v : V} (hv : (E x).P B v) : ∀ {r : List (Key × V)} {s : List (κ × α)}, DRel kk E B r s → DRel kk E B (r.map fun kv => if kv.1 = kk k then (kv.1, v) else kv) (putR s k x)
  | [], [], _ => trivial
  | p :: r, q :: s, h => by
    have ih := DRel.repl K (k := k) hv h.2.2
    rw [List.map_cons]
    unfold putR
    by_cases e : q.1 = k
    · rw [if_pos e, if_pos (h.1.trans (by rw [e]))]
      exact ⟨h.1, hv, ih⟩
    · rw [if_neg e, if_neg (fun z => e (K.inj (h.1.symm.trans z)))]
      exact ⟨h.1, h.2.1, ih⟩
  | [], _ :: _, h => h.elim
  | _ :: _, [], h => h.elim
theorem DRel.snoc {kk : κ → Key} {E : α → SP} {B : Hp} {k : κ} {x : α} {v : V} (hv : (E x).P B v) : ∀ {r : List (Key × V)} {s : List (κ × α)}, DRel kk E B r s → DRel kk E B (r ++ [(kk k, v)]) (s ++ [(k, x)])
  | [], [], _ => ⟨rfl, hv, trivial⟩
  | _ :: _, _ :: _, h => ⟨h.1, h.2.1, DRel.snoc hv h.2.2⟩
  | [], _ :: _, h => h.elim
  | _ :: _, [], h => h.elim
theorem DRel.put {kE : κ → SP} {kk : κ → Key} (K : KeyE kE kk) {E : α → SP} {B : Hp} {r : List (Key × V)} {s : List (κ × α)} {k : κ} {x : α} {v : V} (hv : (E x).P B v) (h : DRel kk E B r s) : DRel kk E B (putK r (kk k) v) (putM s k x) := by
  have g := h.get K k
  unfold putK putM
  rw [valV_any]
  cases q : getM s k with
  | none =>
    rw [q] at g
    rw [show (valV r (kk k)).isSome = false by rw [g]; rfl, if_neg (fun z => nomatch z), if_neg (fun z => nomatch z)]
    exact h.snoc hv
  | some y =>
    rw [q] at g
    obtain ⟨u, g, _⟩ := g
    rw [show (valV r (kk k)).isSome = true by rw [g]; rfl, if_pos rfl, if_pos (show (some y).isSome = true from rfl)]
    exact h.repl K hv
omit [DecidableEq κ] in
theorem DRel.nil {kk : κ → Key} {E : α → SP} {B : Hp} : DRel kk E B [] ([] : List (κ × α)) := trivial
/-- a dict that stands still; one of one's own -/
def dkS (kk : κ → Key) (E : α → SP) (s : List (κ × α)) : SP := ⟨fun B v => ∃ a r, v = .ref a ∧ B a = some (.dK r) ∧ DRel kk E B r s, fun h e => by
  obtain ⟨a, r, h1, h2, h3⟩ := h
  exact ⟨a, r, h1, e a _ h2, h3.mono e⟩⟩
def dkO (kk : κ → Key) (E : α → SP) (s : List (κ × α)) : OP := ⟨fun W v F => ∃ a r, v = .ref a ∧ W.H a = some (.dK r) ∧ F = [a] ∧ DRel kk E W.B r s, fun h e k => by
  obtain ⟨a, r, h1, h2, rfl, h4⟩ := h
  exact ⟨a, r, h1, (k a List.mem_cons_self).trans h2, rfl, h4.mono e⟩⟩
omit [DecidableEq κ] in
theorem fz_dk {kk : κ → Key} {E : α → SP} (s : List (κ × α)) : FrzN (dkO kk E s) (dkS kk E s) := ⟨fun {W v F} h nd fr ok => by
  obtain ⟨a, r, rfl, h2, rfl, h4⟩ := h
  have na : W.B a = none := fr a List.mem_cons_self
  refine ⟨upd W.B a (.dK r), Ex.new na, fun b o e => ?_, fun b hb n => ?_, a, r, rfl, upd_same, h4.mono (Ex.new na)⟩
  · by_cases z : b = a
    · subst z
      rw [upd_same] at e
      rw [h2]
      exact e
    · rw [upd_ne z] at e
      exact ok b o e
  · have z : b ≠ a := fun z => n (z ▸ List.mem_cons_self)
    rw [upd_ne z]
    exact hb⟩
section
variable {S : Stc} {Γ : Ctx} {a b e : Expr} {es : List Expr} {pos : Pos}
omit [DecidableEq κ] in
theorem jn_dnew {kk : κ → Key} {E : α → SP} : JN S (.Dict [] [] pos) Γ (some []) (dkO kk E) := fun σ W F sta z hz Q kq => by
  cases hz
  refine ⟨tDNewK, fun X hX => pe_dnewK, fun p hp => ?_⟩
  exact kq (.ref p) ⟨upd W.H p (.dK []), W.B⟩ [p] (Ext.new sta.ok hp) (fun x hx => by rw [List.mem_singleton.mp hx]; exact hp) (fp_one (sta.ok.back hp)) ⟨p, [], rfl, upd_same, rfl, DRel.nil⟩
/-- what is read of either -/
def DRd (kk : κ → Key) (E : α → SP) (R : List (κ × α) → OP) : Prop := ∀ W s v F, Ex W.B W.H → (R s).C W v F → ∃ a r, v = .ref a ∧ W.H a = some (.dK r) ∧ DRel kk E W.B r s
omit [DecidableEq κ] in
theorem rd_dkS {kk : κ → Key} {E : α → SP} : DRd kk E (fun s => sh (dkS kk E s)) := fun W s v F ok h => by
  obtain ⟨_, a, r, h1, h2, h3⟩ := h
  exact ⟨a, r, h1, ok a _ h2, h3⟩
omit [DecidableEq κ] in
theorem rd_dkO {kk : κ → Key} {E : α → SP} : DRd kk E (dkO kk E) := fun W s v F ok h => by
  obtain ⟨a, r, h1, h2, _, h3⟩ := h
  exact ⟨a, r, h1, h2, h3⟩
theorem jn_din {kE : κ → SP} {kk : κ → Key} {E : α → SP} {R : List (κ × α) → OP} {ma : Option κ} {mb : Option (List (κ × α))} (K : KeyE kE kk) (D : DRd kk E R) (ha : JN S a Γ ma fun k => sh (kE k)) (hb : JR S b Γ mb R) (h1 : behindInMarks .In b = false := by first | exact nobehind _ (by decide) (by decide) | rfl) :
    JN S (.Compare a [.In] [b] pos) Γ (ma.bind fun k => mb.bind fun s => some (getM s k).isSome) fun z => sh (boolS z) := fun σ W F st z hz Q kq => by
  obtain ⟨k, s, m1, m2, m3⟩ := run2 hz
  cases m3
  refine ⟨tDIn (tOf S a) (tOf S b), fun X hX => pe_cmp (pc_din (by have := hX.un; omega) (peO hX) (peO hX)) h1, ?_⟩
  refine ha σ W F st k m1 _ fun v W1 F1 e1 _ _ r1 => hb σ W1 F (st.ext e1) s m2 _ fun u W2 e2 ⟨F2, r2, _⟩ => ?_
  obtain ⟨p, r, rfl, h2, h3⟩ := D W2 s u F2 e2.ok r2
  have ek := K.eq r1.2
  subst ek
  refine ⟨p, _, rfl, DGet.k h2, ?_⟩
  have g := h3.get K k
  have e : (valV r (kk k)).isSome = (getM s k).isSome := by
    cases q : getM s k with
    | none => rw [q] at g; rw [g]; rfl
    | some y =>
      rw [q] at g
      obtain ⟨u, g, _⟩ := g
      rw [g]
      rfl
  exact (kq.ext (e1.trans e2)).val e2.ok (by rw [e]; rfl)
theorem jn_dnin {kE : κ → SP} {kk : κ → Key} {E : α → SP} {R : List (κ × α) → OP} {ma : Option κ} {mb : Option (List (κ × α))} (K : KeyE kE kk) (D : DRd kk E R) (ha : JN S a Γ ma fun k => sh (kE k)) (hb : JR S b Γ mb R) (h1 : behindInMarks .NotIn b = false := by first | exact nobehind _ (by decide) (by decide) | rfl) :
    JN S (.Compare a [.NotIn] [b] pos) Γ (ma.bind fun k => mb.bind fun s => some (!(getM s k).isSome)) fun z => sh (boolS z) := fun σ W F st z hz Q kq => by
  obtain ⟨k, s, m1, m2, m3⟩ := run2 hz
  cases m3
  refine ⟨tDNotIn (tOf S a) (tOf S b), fun X hX => pe_cmp (pc_dnotin (by have := hX.un; omega) (peO hX) (peO hX)) h1, ?_⟩
  refine ha σ W F st k m1 _ fun v W1 F1 e1 _ _ r1 => hb σ W1 F (st.ext e1) s m2 _ fun u W2 e2 ⟨F2, r2, _⟩ => ?_
  obtain ⟨p, r, rfl, h2, h3⟩ := D W2 s u F2 e2.ok r2
  have ek := K.eq r1.2
  subst ek
  refine ⟨p, _, rfl, DGet.k h2, ?_⟩
  have g := h3.get K k
  have e : (valV r (kk k)).isSome = (getM s k).isSome := by
    cases q : getM s k with
    | none => rw [q] at g; rw [g]; rfl
    | some y =>
      rw [q] at g
      obtain ⟨u, g, _⟩ := g
      rw [g]
      rfl
  exact (kq.ext (e1.trans e2)).val e2.ok (by rw [e]; rfl)
theorem jn_dget {kE : κ → SP} {kk : κ → Key} {E : α → SP} {R : List (κ × α) → OP} {ma : Option κ} {mb : Option (List (κ × α))} (K : KeyE kE kk) (D : DRd kk E R) (hb : JR S b Γ mb R) (ha : JN S a Γ ma fun k => sh (kE k)) (hs : NoSl a := by exact fun _ _ => rfl) :
    JN S (.Subscript b a pos) Γ (mb.bind fun s => ma.bind fun k => getM s k) fun z => sh (E z) := fun σ W F st z hz Q kq => by
  obtain ⟨s, k, m1, m2, m3⟩ := run2 hz
  refine ⟨tDGet (tOf S b) (tOf S a), fun X hX => pe_dget (by have := hX.un; omega) (peO hX) (peO hX) hs, ?_⟩
  refine hb σ W F st s m1 _ fun u W1 e1 ⟨F2, r2, al⟩ => ha σ W1 F (st.ext e1) k m2 _ fun v W2 F1 e2 _ _ r1 => ?_
  have r2' : (R s).C W2 u F2 := OP.loc _ r2 e2.b fun x hx => e2.h.eq (al x hx)
  obtain ⟨p, r, rfl, h2, h3⟩ := D W2 s u F2 e2.ok r2'
  have ek := K.eq r1.2
  subst ek
  have g := h3.get K k
  rw [m3] at g
  obtain ⟨w, g1, g2⟩ := g
  exact ⟨p, w, rfl, by have := DGet.k (k := kk k) h2; rwa [g1] at this, (kq.ext (e1.trans e2)).val e2.ok g2⟩
omit [DecidableEq κ] in
theorem len_dk {kk : κ → Key} {E : α → SP} {R : List (κ × α) → OP} {m : Option (List (κ × α))} {p : Pos} (D : DRd kk E R) (hm : S.mg "len" = none) (h : JR S a Γ m R) (hg : GlS S "len" := by rfl) (hs : ∀ env, starEach [a] env = [(false, eval a env)] := by intro _; rfl) : JN S (.Call (.Name "len" p) [a] [] pos) Γ (m.bind fun xs => some (xs.length : Int)) fun z => sh (intS z) := fun σ W F sta z hz Q kq => by
  obtain ⟨s, h1, h2⟩ := run1 hz
  cases h2
  refine ⟨tCB (fun xs H Q => ∃ a kvs, xs = [V.ref a] ∧ H a = some (.dK kvs) ∧ Q (.int kvs.length) H) (tCons (tOf S a) tNil), fun X hX => pe_callB call_lenD (hg.gl hX) (mgS hm hX) PySem.boot_len (pa_cons (peO hX) pa_nil (hs _)) (by decide) (by decide) (hs _) rfl, h σ W F sta s h1 _ fun v W' ext ⟨F1, r0, al⟩ => ?_⟩
  obtain ⟨p, r, rfl, h2, h3⟩ := D W' s v F1 ext.ok r0
  exact ⟨p, r, rfl, h2, (kq.ext ext).val ext.ok (by rw [h3.len]; rfl)⟩
def putMO (s : List (κ × α)) (k : κ) (x : α) : Option (List (κ × α)) := if s.length < LIM then some (putM s k x) else none
theorem js_dput {x : Str} {p0 tpos : Pos} {kE : κ → SP} {kk : κ → Key} {E : α → SP} {s : List (κ × α)} {mv : Option α} {mk : Option κ} (i : Nat) (K : KeyE kE kk) (h : JN S e Γ mv fun x => sh (E x)) (hk : JN S b Γ mk fun k => sh (kE k)) (hi : Γ[i]? = some (some (dkO kk E s)) := by rfl) (hN : S.N[i]? = some x := by rfl) (hv : Vis S.sc x := by first | exact Or.inl rfl | exact Or.inr (Or.inl rfl) | exact Or.inr (Or.inr rfl))
    (hd : (x == ("__debug__" : Str)) = false := by decide) (hcd : (x == ("__classdict__" : Str)) = false := by decide) (hs : ∀ env, swapsWith e (some (.Subscript (.Name x p0) b tpos)) pos.line env = pure false := by intro _; rfl) :
    JS S (.Assign [.Subscript (.Name x p0) b tpos] e pos) Γ (mv.bind fun y => mk.bind fun k => putMO s k y) fun s' => .nx (Γ.set i (some (dkO kk E s'))) := fun σ W F sta z hz Ed kq => by
  obtain ⟨y, k, m1, m2, m3⟩ := run2 hz
  unfold putMO at m3
  split at m3
  · rename_i hlen
    cases m3
    refine ⟨sDPut (tVar i) (tOf S b) (tOf S e), fun X hX => ps_dput (by have := hX.un; omega) (pe_var (by rw [hX.N]; exact hN) (visS hv hX) hd hcd) (peO hX) (peO hX) (hs _), ?_⟩
    refine h σ W F sta y m1 _ fun u W1 Fv ext fr fp r => ?_
    obtain ⟨rfl, r⟩ := r
    obtain ⟨v, F1, F2, a1, a2, a3, a4⟩ := (sta.ext ext).hold.at hi
    refine ⟨v, a1, hk σ W1 F (sta.ext ext) k m2 _ fun w W3 Fv3 ext3 _ _ r3 => ?_⟩
    have sta3 := (sta.ext ext).ext ext3
    obtain ⟨v', F1', F2', c1, c2, c3, c4⟩ := sta3.hold.at hi
    have ev : v' = v := by rw [a1] at c1; exact (Option.some.inj (Option.some.inj c1)).symm
    subst ev
    obtain ⟨p, rr, rfl, d2, rfl, d4⟩ := c2
    have ek := K.eq r3.2
    subst ek
    have hB : W3.B p = none := (sta3.fp.perm c3).fr p (by simp)
    refine ⟨p, _, rfl, DPut.k d2 (lim_lt (by rw [d4.len]; exact hlen)), ?_⟩
    have d5 : DRel kk E W3.B (putK rr (kk k) u) (putM s k y) := d4.put K (SP.mono _ r ext3.b)
    have fpA := (sta3.fp.perm c3).left
    obtain ⟨F', s', stp⟩ := sta_own (W' := ⟨upd W3.H p (.dK (putK rr (kk k) u)), W3.B⟩) (F1' := [p]) (o' := dkO kk E (putM s k y)) [] sta3 (by rw [List.append_nil]; exact sta3.fp) c1 c3 c4 (wr_ok ext3.ok hB) rfl (fun a ha _ => upd_ne fun z => ha (z ▸ List.mem_cons_self)) wr_al
      ⟨fpA.nd, fun a ha => wr_al a (fpA.al a ha), fpA.fr⟩ (fun a ha => .inl ha) ⟨p, _, rfl, upd_same, rfl, d5⟩
    rw [List.append_nil] at stp
    exact kq σ _ F' Keep.refl ((ext.stp0.trans ext3.stp0).trans stp) s'
  · cases m3
end
end CC
set_option maxHeartbeats 4000000
/-! Records: a dict of one's own with written keys. -/
namespace CC
open PySem PySem.Spec L2
open PyProof.Rows hiding St
variable {α β γ δ τ υ ω ρ ε κ : Type}
def kvz : List Str → List V → List (Key × V)
  | k :: ks, v :: vs => (.inr k, v) :: kvz ks vs
  | _, _ => []
theorem kvz_len : ∀ {ks : List Str} {vs : List V}, vs.length = ks.length → (kvz ks vs).length = ks.length
  | [], [], _ => rfl
  | k :: ks, v :: vs, h => by
    show (kvz ks vs).length + 1 = _
    rw [kvz_len (by simpa using h)]
    rfl
  | [], _ :: _, h => by simp at h
  | _ :: _, [], h => by simp at h
theorem kvz_val : ∀ {ks : List Str} {vs : List V} {i : Nat} {x : Str} {v : V}, ks.Nodup → ks[i]? = some x → vs[i]? = some v → valV (kvz ks vs) (.inr x) = some v
  | k :: ks, u :: vs, 0, x, v, nd, h1, h2 => by
    have e1 : k = x := by simpa using h1
    have e2 : u = v := by simpa using h2
    subst e1 e2
    exact valV_pos rfl
  | k :: ks, u :: vs, i + 1, x, v, nd, h1, h2 => by
    have h1' : ks[i]? = some x := by simpa using h1
    have ne : ¬ ((.inr k : Key) = .inr x) := fun z => by
      have := Sum.inr.inj z
      exact (List.nodup_cons.mp nd).1 (this ▸ List.mem_of_getElem? h1')
    show valV ((.inr k, u) :: kvz ks vs) (.inr x) = _
    rw [valV_neg ne]
    exact kvz_val (List.nodup_cons.mp nd).2 h1' (by simpa using h2)
  | [], _, _, _, _, _, h1, _ => by simp at h1
  | _ :: _, [], _, _, _, _, _, h2 => by simp at h2
theorem kvz_map : ∀ {ks : List Str} {vs : List V} {x : Str} {u : V}, x ∉ ks → (kvz ks vs).map (fun kv => if kv.1 = (.inr x : Key) then (kv.1, u) else kv) = kvz ks vs
  | [], _, _, _, _ => rfl
  | _ :: _, [], _, _, _ => rfl
  | k :: ks, v :: vs, x, u, h => by
    have ne : ¬ ((.inr k : Key) = .inr x) := fun z => h (by rw [Sum.inr.inj z]; exact List.mem_cons_self)
    show (if (.inr k : Key) = .inr x then _ else _) :: (kvz ks vs).map _ = _
    rw [if_neg ne, kvz_map (fun z => h (List.mem_cons_of_mem _ z))]
    rfl
theorem kvz_put : ∀ {ks : List Str} {vs : List V} {i : Nat} {x : Str} {u : V}, ks.Nodup → vs.length = ks.length → ks[i]? = some x → (kvz ks vs).map (fun kv => if kv.1 = (.inr x : Key) then (kv.1, u) else kv) = kvz ks (vs.set i u)
  | k :: ks, v :: vs, 0, x, u, nd, hl, h1 => by
    have e1 : k = x := by simpa using h1
    subst e1
    show (if (.inr k : Key) = .inr k then _ else _) :: (kvz ks vs).map _ = _
    rw [if_pos rfl, kvz_map (List.nodup_cons.mp nd).1]
    rfl
  | k :: ks, v :: vs, i + 1, x, u, nd, hl, h1 => by
    have h1' : ks[i]? = some x := by simpa using h1
    have ne : ¬ ((.inr k : Key) = .inr x) := fun z => by
      have := Sum.inr.inj z
      exact (List.nodup_cons.mp nd).1 (this ▸ List.mem_of_getElem? h1')
    show (if (.inr k : Key) = .inr x then _ else _) :: (kvz ks vs).map _ = _
    rw [if_neg ne, kvz_put (List.nodup_cons.mp nd).2 (by simpa using hl) h1']
    rfl
  | [], _, _, _, _, _, _, h1 => by simp at h1
  | _ :: _, [], _, _, _, _, hl, _ => by simp at hl
theorem kvz_putK {ks : List Str} {vs : List V} {i : Nat} {x : Str} {u v : V} (nd : ks.Nodup) (hl : vs.length = ks.length) (h1 : ks[i]? = some x) (h2 : vs[i]? = some v) : putK (kvz ks vs) (.inr x) u = kvz ks (vs.set i u) := by
  unfold putK
  rw [valV_any, kvz_val nd h1 h2, if_pos (show (some v).isSome = true from rfl), kvz_put nd hl h1]
theorem kvz_merge : ∀ {ks : List Str} {vs : List V} {acc : List (Key × V)}, ks.Nodup → (∀ k ∈ ks, valV acc (.inr k) = none) → mergeK acc (kvz ks vs) = acc ++ kvz ks vs
  | [], _, acc, _, _ => by
    show acc = acc ++ []
    rw [List.append_nil]
  | _ :: _, [], acc, _, _ => by
    show acc = acc ++ []
    rw [List.append_nil]
  | k :: ks, v :: vs, acc, nd, h => by
    show mergeK (putK acc (.inr k) v) (kvz ks vs) = _
    rw [putK_new v (h k List.mem_cons_self), kvz_merge (List.nodup_cons.mp nd).2 fun j hj => ?_, List.append_assoc]
    · rfl
    · rw [valV_snoc _ _ _ _ (h k List.mem_cons_self), if_neg (fun z => (List.nodup_cons.mp nd).1 (by have e : j = k := Sum.inr.inj z; rw [← e]; exact hj))]
      exact h j (List.mem_cons_of_mem _ hj)
/-- the record with the keys ks -/
def recO (ks : List Str) (ps : List OP) : OP := ⟨fun W v F => ∃ a vs F2, v = .ref a ∧ W.H a = some (.dK (kvz ks vs)) ∧ F = a :: F2 ∧ HetO W vs ps F2, fun h e k => by
  obtain ⟨a, vs, F2, h1, h2, h3, h4⟩ := h
  subst h3
  exact ⟨a, vs, F2, h1, (k a List.mem_cons_self).trans h2, rfl, h4.loc e fun b hb => k b (List.mem_cons_of_mem _ hb)⟩⟩
section
variable {S : Stc} {Γ : Ctx} {a b e : Expr} {es : List Expr} {pos : Pos}
theorem jr_ixD {ks : List Str} {ps : α → List OP} {R : β → OP} {g : α → β} {m : Option α} {x : Str} {kk p'} (k : Nat) (h : JR S a Γ m fun x => recO ks (ps x)) (hk : ∀ x, (ps x)[k]? = some (R (g x)) := by intro _; rfl) (hx : ks[k]? = some x := by rfl) (nd : ks.Nodup := by decide) :
    JR S (.Subscript a (.Constant (.str x) kk p') pos) Γ (m.bind fun x => some (g x)) R := fun σ W F sta z hz Q kq => by
  obtain ⟨y, h1, h2⟩ := run1 hz
  cases h2
  refine ⟨tDGet (tOf S a) (tC (.str x)), fun X hX => pe_dget (by have := hX.un; omega) (peO hX) pe_str (fun _ _ => rfl), h σ W F sta y h1 _ fun v W' ext ⟨F1, r, al⟩ => ?_⟩
  obtain ⟨p, vs, F2, rfl, q2, rfl, q3⟩ := r
  obtain ⟨u, G1, G2, u1, u2, u3, _⟩ := q3.at (hk y)
  have gd : DGet W'.H p (kV (.inr x)) (valV (kvz ks vs) (.inr x)) := DGet.k q2
  rw [kvz_val nd hx u1] at gd
  exact ⟨p, u, rfl, gd, kq u W' ext ⟨G1, u2, fun b hb => al b (List.mem_cons_of_mem _ (u3.mem_iff.mpr (List.mem_append_left _ hb)))⟩⟩
theorem js_setD {x y : Str} {p0 tpos : Pos} {ks : List Str} {ps : List OP} {E : α → SP} {o : OP} {mv : Option α} {kk p'} (i k : Nat) (h : JN S e Γ mv fun x => sh (E x)) (hi : Γ[i]? = some (some (recO ks ps)) := by rfl) (hk : ps[k]? = some o := by rfl) (hx : ks[k]? = some y := by rfl) (hl : ps.length = ks.length := by rfl) (nd : ks.Nodup := by decide) (hle : ks.length ≤ 1000 := by decide) (hN : S.N[i]? = some x := by rfl) (hv : Vis S.sc x := by first | exact Or.inl rfl | exact Or.inr (Or.inl rfl) | exact Or.inr (Or.inr rfl))
    (hd : (x == ("__debug__" : Str)) = false := by decide) (hcd : (x == ("__classdict__" : Str)) = false := by decide) (hs : ∀ env, swapsWith e (some (.Subscript (.Name x p0) (.Constant (.str y) kk p') tpos)) pos.line env = pure false := by intro _; rfl) :
    JS S (.Assign [.Subscript (.Name x p0) (.Constant (.str y) kk p') tpos] e pos) Γ mv fun z => .nx (Γ.set i (some (recO ks (ps.set k (sh (E z)))))) := fun σ W F sta z m1 Ed kq => by
  refine ⟨sDPut (tVar i) (tC (.str y)) (tOf S e), fun X hX => ps_dput (by have := hX.un; omega) (pe_var (by rw [hX.N]; exact hN) (visS hv hX) hd hcd) pe_str (peO hX) (hs _), ?_⟩
  refine h σ W F sta z m1 _ fun u W1 Fv ext fr fp r => ?_
  obtain ⟨rfl, r⟩ := r
  have sta1 := sta.ext ext
  obtain ⟨v, F1, F2, a1, a2, a3, a4⟩ := sta1.hold.at hi
  obtain ⟨p, vs, G2, rfl, b2, rfl, b4⟩ := a2
  have hB : W1.B p = none := (sta1.fp.perm a3).fr p (by simp)
  obtain ⟨w0, K1, K2, k1, k2, k3, k4⟩ := b4.at hk
  have fpA := (sta1.fp.perm a3).left
  have hvl : vs.length = ks.length := by rw [b4.len]; exact hl
  have nP : ∀ a ∈ G2, a ≠ p := fun a ha z => (List.nodup_cons.mp fpA.nd).1 (z ▸ ha)
  obtain ⟨G', g1, g2⟩ := k4 ⟨upd W1.H p (.dK (kvz ks (vs.set k u))), W1.B⟩ (sh (E z)) u [] (fun _ _ h => h) (fun a ha => upd_ne (nP a (k3.mem_iff.mpr (List.mem_append_right _ ha)))) ⟨rfl, r⟩
  have sub : ∀ a ∈ p :: G', a ∈ p :: G2 := fun a ha => by
    rcases List.mem_cons.mp ha with z | z
    · exact z ▸ List.mem_cons_self
    · exact List.mem_cons_of_mem _ (k3.mem_iff.mpr (List.mem_append_right _ (by simpa using g2.mem_iff.mp z)))
  have fpB : FpOk W1 (p :: G') := by
    refine FpOk.left (F' := K1) (fpA.perm ?_)
    refine List.Perm.cons p ?_
    refine k3.trans (List.perm_append_comm.trans (List.Perm.append_right K1 ?_))
    simpa using g2.symm
  refine ⟨.ref p, a1, p, _, rfl, DPut.k (k := .inr y) b2 (by rw [kvz_len hvl]; exact Nat.lt_of_le_of_lt hle (by decide)), ?_⟩
  rw [kvz_putK nd hvl hx k1]
  obtain ⟨F', s', stp⟩ := sta_own (W' := ⟨upd W1.H p (.dK (kvz ks (vs.set k u))), W1.B⟩) (F1' := p :: G') (o' := recO ks (ps.set k (sh (E z)))) [] sta1 (by rw [List.append_nil]; exact sta1.fp) a1 a3 a4 (wr_ok ext.ok hB) rfl (fun a ha _ => upd_ne fun z => ha (z ▸ List.mem_cons_self)) wr_al
    ⟨fpB.nd, fun a ha => wr_al a (fpB.al a ha), fpB.fr⟩ (fun a ha => .inl (sub a ha)) ⟨p, vs.set k u, G', rfl, upd_same, rfl, g1⟩
  rw [List.append_nil] at stp
  exact kq σ _ F' Keep.refl (ext.stp0.trans stp) s'
/-! ### {'a': e, ..} -/
def pz : List Str → List V → List (V × V)
  | k :: ks, v :: vs => (.str k, v) :: pz ks vs
  | _, _ => []
theorem pz_eq : ∀ (ks : List Str) (vs : List V), pz ks vs = (kvz ks vs).map fun kv => (kV kv.1, kv.2)
  | [], _ => rfl
  | _ :: _, [] => rfl
  | k :: ks, v :: vs => by
    show (V.str k, v) :: pz ks vs = (kV (.inr k), v) :: _
    rw [pz_eq ks vs]
    rfl
def JP (S : Stc) (pos : Pos) (ks : List Str) (keys : List (Option Expr)) (vals : List Expr) (Γ : Ctx) (m : Option α) (R : α → List SP) : Prop :=
  ∃ trs, (∀ X, S.In X → PPs X pos keys vals trs) ∧ ∀ σ W F, Sta Γ σ W F → ∀ x, m = some x → ∀ Q : List (V × V) → Hp → Prop, (∀ vs W', Ext W W' → Hets W'.B vs (R x) → Q (pz ks vs) W'.H) → tPairs trs σ W.H Q
theorem jp_nil : JP S pos [] [] [] Γ (some ()) fun _ => [] := ⟨[], fun X _ => pps_nil, fun σ W F sta x hx Q k => k [] W (Ext.refl sta.ok) trivial⟩
theorem jp_cons {x : Str} {kk p'} {ks : List Str} {keys : List (Option Expr)} {vals : List Expr} {ma : Option α} {mb : Option β} {E : α → SP} {G : β → List SP} (ha : JN S e Γ ma fun x => sh (E x)) (hb : JP S pos ks keys vals Γ mb G) :
    JP S pos (x :: ks) (some (.Constant (.str x) kk p') :: keys) (e :: vals) Γ (ma.bind fun x => mb.bind fun y => some (x, y)) fun p => E p.1 :: G p.2 := by
  obtain ⟨trs, t1, t2⟩ := hb
  refine ⟨(tC (.str x), tOf S e) :: trs, fun X hX => pps_cons pe_str (peO hX) (t1 X hX), fun σ W F st z hz Q k => ?_⟩
  obtain ⟨y, w, h1, h2, h3⟩ := run2 hz
  cases h3
  show tOf S e σ W.H _
  refine ha σ W F st y h1 _ fun v W1 F1 e1 _ _ r1 => t2 σ W1 F (st.ext e1) w h2 _ fun vs W2 e2 h => ?_
  exact k (v :: vs) W2 (e1.trans e2) ⟨SP.mono _ r1.2 e2.b, h⟩
theorem HetO.of_hts {W : Wd} : ∀ {vs : List V} {ps : List SP}, Hets W.B vs ps → HetO W vs (ps.map sh) []
  | [], [], _ => rfl
  | _ :: _, _ :: _, h => ⟨[], [], rfl, ⟨rfl, h.1⟩, HetO.of_hts h.2⟩
  | [], _ :: _, h => h.elim
  | _ :: _, [], h => h.elim
theorem jn_rec {ks : List Str} {keys : List (Option Expr)} {vals : List Expr} {m : Option α} {R : α → List SP} {T : β → OP} {g : α → β} (h : JP S pos ks keys vals Γ m R) (hR : ∀ x, recO ks ((R x).map sh) = T (g x) := by intro _; rfl) (nd : ks.Nodup := by decide) (hks : ks.length ≤ 15 := by decide) (hl : ∀ x, (R x).length = ks.length := by intro _; rfl)
    (hall : keys.all (·.isSome) = true := by rfl) (hl2 : keys.length = vals.length := by rfl) (h0 : keys ≠ [] := by exact fun z => nomatch z) (h15 : keys.length ≤ 15 := by exact Nat.le_of_ble_eq_true rfl) : JN S (.Dict keys vals pos) Γ (m.bind fun x => some (g x)) T := fun σ W F sta z hz Q kk => by
  obtain ⟨x, h1, h2⟩ := run1 hz
  cases h2
  obtain ⟨trs, t1, t2⟩ := h
  refine ⟨tDisp trs, fun X hX => pe_disp (t1 X hX) hall hl2 h0 h15, fun p hp => ?_⟩
  have e1 : Ext W ⟨upd W.H p (.dK []), W.B⟩ := Ext.new sta.ok hp
  refine t2 σ ⟨upd W.H p (.dK []), W.B⟩ F (sta.ext e1) x h1 _ fun vs W2 e2 hh => ?_
  have hp2 : W2.H p = some (.dK []) := e2.h p _ upd_same
  have hvl : vs.length = ks.length := hh.len.trans (hl x)
  refine ⟨hp2, kvz ks vs, pz_eq ks vs, by rw [kvz_len hvl]; exact hks, ?_⟩
  rw [kvz_merge nd (fun _ _ => rfl), List.nil_append]
  have hB : W2.B p = none := e2.fr p (by show upd W.H p (.dK []) p ≠ none; rw [upd_same]; exact fun z => nomatch z) (sta.ok.back hp)
  have e3 : Ext W ⟨upd W2.H p (.dK (kvz ks vs)), W2.B⟩ := by
    refine ⟨wr_ok e2.ok hB, fun a o h => ?_, e2.b, fun a h3 h4 => ?_⟩
    · have na : a ≠ p := fun z => by rw [z, hp] at h; cases h
      show upd W2.H p _ a = _
      rw [upd_ne na]
      exact e2.h a o (e1.h a o h)
    · exact (e1.trans e2).fr a h3 h4
  have fp3 : FpOk ⟨upd W2.H p (.dK (kvz ks vs)), W2.B⟩ [p] := by
    refine ⟨List.nodup_cons.mpr ⟨by simp, List.nodup_nil⟩, fun a ha => ?_, fun a ha => ?_⟩
    · rw [List.mem_singleton.mp ha]
      show upd W2.H p _ p ≠ none
      rw [upd_same]
      exact fun z => nomatch z
    · rw [List.mem_singleton.mp ha]
      exact hB
  exact kk (.ref p) _ [p] e3 (fun a ha => by rw [List.mem_singleton.mp ha]; exact hp) fp3
    (by rw [← hR]; exact ⟨p, vs, [], rfl, upd_same, rfl, HetO.of_hts (W := ⟨upd W2.H p (.dK (kvz ks vs)), W2.B⟩) hh⟩)
end
end CC
set_option maxHeartbeats 4000000
/-! Comprehensions of two clauses. -/
namespace CC
open PySem PySem.Spec L2
open PyProof.Rows hiding St
variable {α β γ δ τ υ ω ρ ε κ : Type}
/-- a new list at D is being made: bs of ys is left (W' stood behind the making) -/
def Bld (R : β → OP) (W' : Wd) (D : Addr) (ys bs : List β) (W1 : Wd) : Prop := W'.H D = none ∧ Ext W' W1 ∧ ∃ (acc : List V) (as : List β) (Fa : List Addr), W1.H D = some (.lst acc) ∧ W1.B D = none ∧ as ++ bs = ys ∧ Owns R W1 acc as Fa ∧ FpOk W1 Fa ∧ D ∉ Fa ∧ ∀ a ∈ Fa, W'.H a = none
theorem Bld.start {R : β → OP} {W' : Wd} {D : Addr} {ys : List β} (ok : Ex W'.B W'.H) (hD : W'.H D = none) : Bld R W' D ys ys ⟨upd W'.H D (.lst []), W'.B⟩ :=
  ⟨hD, Ext.new ok hD, [], [], [], upd_same, ok.back hD, rfl, rfl, FpOk.nil, by simp, by simp⟩
theorem Bld.ext {R : β → OP} {W' W1 W2 : Wd} {D : Addr} {ys bs : List β} (b : Bld R W' D ys bs W1) (e : Ext W1 W2) : Bld R W' D ys bs W2 := by
  obtain ⟨hD, e1, acc, as, Fa, d1, d2, c2, o1, o2, o3, o4⟩ := b
  exact ⟨hD, e1.trans e, acc, as, Fa, e.h D _ d1, e.fr D (by rw [d1]; exact fun z => nomatch z) d2, c2, o1.loc e.b fun a ha => e.h.eq (o2.al a ha), o2.ext e, o3, o4⟩
theorem Bld.step {R : β → OP} {W' W1 W4 : Wd} {D : Addr} {ys bs : List β} {y : β} {u : V} {Fu : List Addr} (b : Bld R W' D ys (y :: bs) W1) (hl : ys.length ≤ LIM) (e4 : Ext W1 W4) (fr4 : ∀ a ∈ Fu, W1.H a = none) (fp4 : FpOk W4 Fu) (r4 : (R y).C W4 u Fu) :
    ∃ acc, W4.H D = some (.lst acc) ∧ acc.length < sizeLine ∧ Bld R W' D ys bs ⟨upd W4.H D (.lst (acc ++ [u])), W4.B⟩ := by
  obtain ⟨hD, e1, acc, as, Fa, d1, d2, c2, o1, o2, o3, o4⟩ := b
  have hD4 : W4.H D = some (.lst acc) := e4.h D _ d1
  have hB4 : W4.B D = none := e4.fr D (by rw [d1]; exact fun z => nomatch z) d2
  have ha4 : acc.length < LIM := by
    have h1 := o1.len
    have h2 := congrArg List.length c2
    rw [List.length_append, List.length_cons] at h2
    omega
  refine ⟨acc, hD4, lim_lt ha4, hD, ?_, acc ++ [u], as ++ [y], Fa ++ Fu, upd_same, hB4, by rw [List.append_assoc]; exact c2, ?_, ?_, ?_, ?_⟩
  · have q := e1.trans e4
    refine ⟨fun a o h => ?_, fun a o h => ?_, q.b, q.fr⟩
    · have z : a ≠ D := fun z => by
        rw [z] at h
        rw [show W4.B D = some o from h] at hB4
        cases hB4
      show upd W4.H D _ a = some o
      rw [upd_ne z]
      exact q.ok a o h
    · show upd W4.H D _ a = some o
      rw [upd_ne (ne_of_none h hD)]
      exact q.h a o h
  · have nD : ∀ a ∈ Fa ++ Fu, a ≠ D := fun a ha z => by
      rcases List.mem_append.mp ha with h | h
      · exact o3 (z ▸ h)
      · have q2 := fr4 a h
        rw [z, d1] at q2
        cases q2
    have A1 : Owns R W4 acc as Fa := o1.loc e4.b fun a ha => e4.h.eq (o2.al a ha)
    have A2 : Owns R W4 [u] [y] Fu := ⟨Fu, [], (List.append_nil _).symm, r4, rfl⟩
    have A3 : Owns R W4 (acc ++ [u]) (as ++ [y]) (Fa ++ Fu) := A1.app A2
    refine Owns.loc (W := W4) (W' := ⟨upd W4.H D (.lst (acc ++ [u])), W4.B⟩) (fun _ _ h => h) A3 fun a ha => ?_
    show upd W4.H D (.lst (acc ++ [u])) a = W4.H a
    exact upd_ne (nD a ha)
  · have fpA : FpOk W4 (Fa ++ Fu) := o2.fresh e4 fp4 fr4
    refine ⟨fpA.nd, fun a ha => ?_, fpA.fr⟩
    show upd W4.H D _ a ≠ none
    by_cases z : a = D
    · rw [z, upd_same]
      exact fun z => nomatch z
    · rw [upd_ne z]
      exact fpA.al a ha
  · intro h
    rcases List.mem_append.mp h with h | h
    · exact o3 h
    · have q2 := fr4 D h
      rw [d1] at q2
      cases q2
  · intro a ha
    rcases List.mem_append.mp ha with h | h
    · exact o4 a h
    · exact e1.h.back (fr4 a h)
theorem Sta.via {Γ : Ctx} {σ : L2.St} {W' W3 W5 : Wd} {F F2 : List Addr} (s : Sta Γ σ W3 F2) (sub : ∀ a ∈ F2, a ∈ F) (fp : FpOk W' F) (e3 : Ext W' W3) (e5 : Ext W' W5) (eb : Ex W3.B W5.B) : Sta Γ σ W5 F2 :=
  ⟨e5.ok, ⟨s.fp.nd, fun a h => e5.h.ne (fp.al a (sub a h)), fun a h => e5.fr a (fp.al a (sub a h)) (fp.fr a (sub a h))⟩, s.len, s.hold.loc eb fun a h => (e5.h.eq (fp.al a (sub a h))).trans (e3.h.eq (fp.al a (sub a h))).symm⟩
def comp2Go (t : α → Option Bool) (it : α → Option (List β)) (t1 : α → β → Option Bool) (f : α → β → Option γ) : List α → Option (List γ)
  | [] => some []
  | x :: xs => (t x).bind fun b => bif b then (it x).bind fun zs => (compGo (t1 x) (f x) zs).bind fun ys => (comp2Go t it t1 f xs).bind fun r => some (ys ++ r) else comp2Go t it t1 f xs
def comp2M (t : α → Option Bool) (it : α → Option (List β)) (t1 : α → β → Option Bool) (f : α → β → Option γ) (xs : List α) : Option (List γ) := (comp2Go t it t1 f xs).bind fun ys => if ys.length ≤ LIM then some ys else none
def JC2 (S : Stc) (elt tg iter : Expr) (ifs : List Expr) (tg1 iter1 : Expr) (ifs1 : List Expr) (scope : Scope) (Γ : Ctx) (m : Option α) (R : α → OP) : Prop :=
  ∃ (own : List (Str × Nat)) (vs1 : List Nat), BlkOk S.N S.sc scope own ∧ (∀ i ∈ vs1, i ∈ own.map (·.2)) ∧ ∀ σ W F, Sta Γ σ W F → ∀ x, m = some x → ∀ Q : VK, Got (R x) W Q → tLc2 (tiOf S tg iter) (tgOf (S.blk scope) tg) (ttsOf (S.blk scope) ifs) (tiOf (S.blk scope) tg1 iter1) (tgOf (S.blk scope) tg1) (ttsOf (S.blk scope) ifs1) (tOf (S.blk scope) elt) (own.map (·.2)) vs1 σ W.H Q
section
variable {S : Stc} {Γ : Ctx} {elt tg iter tg1 iter1 : Expr} {ifs ifs1 : List Expr} {pos : Pos}
theorem jn_lc2 {scope : Scope} {m : Option α} {R : α → OP} (nd : S.N.Nodup) (h : JC2 S elt tg iter ifs tg1 iter1 ifs1 scope Γ m R) (hs : ∀ env x, foldedSetIterable iter env x = pure x := by intro _ _; rfl) (hs1 : ∀ env x, foldedSetIterable iter1 env x = pure x := by intro _ _; rfl) (hcm : S.calm = true := by rfl) :
    JN S (.ListComp elt [⟨tg, iter, ifs, 0⟩, ⟨tg1, iter1, ifs1, 0⟩] scope pos) Γ m R := fun σ W F st x hx Q k => by
  obtain ⟨own, vs1, ok, hv, go⟩ := h
  exact ⟨_, fun X hX => pe_lc2 (hX.calm.trans hcm) (by rw [hX.N]; exact nd) (piO hX) (by rw [hX.N, hX.sc]; exact ok) hv (fun s H C cl fp => pgO (hX.blk scope s H C cl fp)) (fun s H C cl fp => ptsO (hX.blk scope s H C cl fp)) (fun s H C cl fp => piO (hX.blk scope s H C cl fp)) (fun s H C cl fp => pgO (hX.blk scope s H C cl fp)) (fun s H C cl fp => ptsO (hX.blk scope s H C cl fp)) (fun s H C cl fp => peO (hX.blk scope s H C cl fp)) (hs _) hs1, go σ W F st x hx Q k⟩
theorem jc2_of {scope : Scope} {mi : Option (List α)} {E : α → SP} {E1 : β → SP} {up : α → Ctx → Ctx} {up1 : β → Ctx → Ctx} {ws ws1 : List Nat} {mt : α → Option Bool} {mi1 : α → Option (List β)} {mt1 : α → β → Option Bool} {me : α → β → Option γ} {R : γ → OP} (own : List (Str × Nat)) (vs1 : List Nat) (hi : JIc S tg iter Γ mi E) (ok : blkC S.N S.sc scope own = true) (hg : JG (S.blk scope) tg E up ws)
    (hw : ∀ i ∈ ws, i ∈ own.map (·.2)) (hl : ∀ i ∈ ws, i < Γ.length) (ht : ∀ x, JTs (S.blk scope) ifs (up x (wipeC Γ (own.map (·.2)))) (mt x)) (hv : ∀ i ∈ vs1, i ∈ own.map (·.2))
    (hi1 : ∀ x, JI (S.blk scope) tg1 iter1 (up x (wipeC Γ (own.map (·.2)))) (mi1 x) E1) (hg1 : JG (S.blk scope) tg1 E1 up1 ws1) (hw1 : ∀ i ∈ ws1, i ∈ vs1) (hl1 : ∀ x, ∀ i ∈ ws1, i < (up x (wipeC Γ (own.map (·.2)))).length)
    (ht1 : ∀ x z, JTs (S.blk scope) ifs1 (up1 z (wipeC (up x (wipeC Γ (own.map (·.2)))) vs1)) (mt1 x z)) (he : ∀ x z, JN (S.blk scope) elt (up1 z (wipeC (up x (wipeC Γ (own.map (·.2)))) vs1)) (me x z) R) :
    JC2 S elt tg iter ifs tg1 iter1 ifs1 scope Γ (mi.bind fun xs => comp2M mt mi1 mt1 me xs) fun ys => lstO R ys := by
  refine ⟨own, vs1, blkOk_by ok, hv, fun σ W F st ys hx Q k => ?_⟩
  obtain ⟨xs, h1, h2⟩ := run1 hx
  unfold comp2M at h2
  obtain ⟨ys', h2, h3⟩ := run1 h2
  split at h3
  · rename_i hlen
    cases h3
    refine hi σ W F st xs h1 _ fun J W' ext iok => fun D hD => ?_
    have st' := st.ext ext
    refine ⟨fun i m H => m = xs.length - i ∧ i ≤ xs.length ∧ ∃ (W1 : Wd) (bs : List γ), W1.H = H ∧ Bld R W' D ys bs W1 ∧ comp2Go mt mi1 mt1 me (xs.drop i) = some bs, ⟨xs.length, by simp, Nat.zero_le _, _, ys, rfl, Bld.start ext.ok hD, by simpa using h2⟩, ?_⟩
    rintro i m H ⟨rfl, hi', W1, bs, rfl, bd, c1⟩
    obtain ⟨iok1, iok2⟩ := iok W1 bd.2.1
    by_cases hlt : i < xs.length
    · obtain ⟨g1, g2⟩ := iok1 i xs[i] (List.getElem?_eq_getElem hlt)
      refine .inr ⟨g1, fun H' => ∃ m', m' < xs.length - i ∧ (m' = xs.length - (i + 1) ∧ i + 1 ≤ xs.length ∧ ∃ (W1 : Wd) (bs : List γ), W1.H = H' ∧ Bld R W' D ys bs W1 ∧ comp2Go mt mi1 mt1 me (xs.drop (i + 1)) = some bs), fun H' h => h, fun v H' y => ?_⟩
      obtain ⟨W2, rfl, e2, p2⟩ := g2 v H' y
      have hDrop : xs.drop i = xs[i] :: xs.drop (i + 1) := List.drop_eq_getElem_cons hlt
      rw [hDrop] at c1
      obtain ⟨b, t1, t2⟩ := run1 (f := fun b => bif b then (mi1 xs[i]).bind fun zs => (compGo (mt1 xs[i]) (me xs[i]) zs).bind fun ys => (comp2Go mt mi1 mt1 me (xs.drop (i + 1))).bind fun r => some (ys ++ r) else comp2Go mt mi1 mt1 me (xs.drop (i + 1))) c1
      obtain ⟨Fw, sw, subw⟩ := (st'.ext (bd.2.1.trans e2)).wipe (own.map (·.2))
      refine hg _ _ W2 Fw xs[i] v sw (fun j hj => by rw [wipeC_len]; exact hl j hj) p2 _ fun σ2 F2 wp _ s2 sub2 => ⟨?_, ?_⟩
      · rw [wp _ hw]
        exact jc_of.wipe_wipe σ (own.map (·.2))
      refine ht xs[i] σ2 W2 F2 s2 b t1 _ fun W3 e3 => ?_
      have bd3 := (bd.ext e2).ext e3
      cases b with
      | false => exact iteF ⟨xs.length - (i + 1), by omega, rfl, hlt, W3, bs, rfl, bd3, t2⟩
      | true =>
        obtain ⟨zs, u1, u2⟩ := run1 (f := fun zs => (compGo (mt1 xs[i]) (me xs[i]) zs).bind fun ys => (comp2Go mt mi1 mt1 me (xs.drop (i + 1))).bind fun r => some (ys ++ r)) t2
        obtain ⟨ys1, r1, u3, u4, u5⟩ := run2 (f := fun ys r => some (ys ++ r)) u2
        cases u5
        refine iteT (hi1 xs[i] σ2 W3 F2 (s2.ext e3) zs u1 _ fun J1 W4 ext4 jok => ?_)
        have s4 := (s2.ext e3).ext ext4
        refine ⟨fun j m H => m = zs.length - j ∧ j ≤ zs.length ∧ ∃ (W5 : Wd) (cs : List γ), W5.H = H ∧ Ex W4.B W5.B ∧ Bld R W' D ys (cs ++ r1) W5 ∧ compGo (mt1 xs[i]) (me xs[i]) (zs.drop j) = some cs, ⟨zs.length, by simp, Nat.zero_le _, W4, ys1, rfl, Ex.refl _, bd3.ext ext4, by simpa using u3⟩, ?_⟩
        rintro j m H ⟨rfl, hj', W5, cs, rfl, e5, bd5, c5⟩
        obtain ⟨jok1, jok2⟩ := jok W5 ⟨bd5.2.1.ok, e5⟩
        by_cases hltj : j < zs.length
        · obtain ⟨q1, q2⟩ := jok1 j zs[j] (List.getElem?_eq_getElem hltj)
          refine .inr ⟨q1, fun H' => ∃ m', m' < zs.length - j ∧ (m' = zs.length - (j + 1) ∧ j + 1 ≤ zs.length ∧ ∃ (W5 : Wd) (cs : List γ), W5.H = H' ∧ Ex W4.B W5.B ∧ Bld R W' D ys (cs ++ r1) W5 ∧ compGo (mt1 xs[i]) (me xs[i]) (zs.drop (j + 1)) = some cs), fun H' h => h, fun v1 H' y1 => ?_⟩
          obtain ⟨W6, rfl, e6, p6⟩ := q2 v1 H' y1
          have hDrop1 : zs.drop j = zs[j] :: zs.drop (j + 1) := List.drop_eq_getElem_cons hltj
          rw [hDrop1] at c5
          obtain ⟨b1, w1, w2⟩ := run1 (f := fun b => bif b then (me xs[i] zs[j]).bind fun y => (compGo (mt1 xs[i]) (me xs[i]) (zs.drop (j + 1))).bind fun ys => some (y :: ys) else compGo (mt1 xs[i]) (me xs[i]) (zs.drop (j + 1))) c5
          obtain ⟨Fv, sv, subv⟩ := ((s4.via (fun a ha => subw a (sub2 a ha)) st'.fp ((bd3.ext ext4).2.1) bd5.2.1 e5).ext e6).wipe vs1
          refine hg1 _ _ W6 Fv zs[j] v1 sv (fun l hl' => by rw [wipeC_len]; exact hl1 xs[i] l hl') p6 _ fun σ3 F3 wp3 _ s3 sub3 => ⟨?_, ?_⟩
          · rw [wp3 _ hw1]
            exact jc_of.wipe_wipe σ2 vs1
          refine ht1 xs[i] zs[j] σ3 W6 F3 s3 b1 w1 _ fun W7 e7 => ?_
          have e57 : Ex W4.B W7.B := e5.trans (e6.trans e7).b
          cases b1 with
          | false => exact iteF ⟨zs.length - (j + 1), by omega, rfl, hltj, W7, cs, rfl, e57, (bd5.ext e6).ext e7, w2⟩
          | true =>
            obtain ⟨y2, cs2, w3, w4, w5⟩ := run2 (f := fun y ys => some (y :: ys)) w2
            cases w5
            refine iteT (he xs[i] zs[j] σ3 W7 F3 (s3.ext e7) y2 w3 _ fun u W8 Fu e8 fr8 fp8 r8 => ?_)
            obtain ⟨acc, a1, a2, a3⟩ := ((bd5.ext e6).ext e7).step hlen e8 fr8 fp8 r8
            exact ⟨acc, a1, a2, zs.length - (j + 1), by omega, rfl, hltj, ⟨upd W8.H D (.lst (acc ++ [u])), W8.B⟩, cs2, rfl, e57.trans e8.b, a3, w4⟩
        · have ej : j = zs.length := by omega
          subst ej
          rw [List.drop_length] at c5
          cases c5
          exact .inl ⟨jok2 _ (Nat.le_refl _), xs.length - (i + 1), by omega, rfl, hlt, W5, r1, rfl, bd5, u4⟩
    · have ei : i = xs.length := by omega
      subst ei
      rw [List.drop_length] at c1
      cases c1
      obtain ⟨hD0, e1, acc, as, Fa, d1, d2, c2, o1, o2, o3, o4⟩ := bd
      rw [List.append_nil] at c2
      subst c2
      refine .inl ⟨iok2 _ (Nat.le_refl _), k (.ref D) W1 (D :: Fa) (ext.trans e1) (fun a ha => ?_) ?_ ⟨D, acc, Fa, rfl, d1, rfl, o1⟩⟩
      · rcases List.mem_cons.mp ha with z | z
        · rw [z]; exact ext.h.back hD
        · exact ext.h.back (o4 a z)
      · refine ⟨List.nodup_cons.mpr ⟨o3, o2.nd⟩, fun a ha => ?_, fun a ha => ?_⟩
        · rcases List.mem_cons.mp ha with z | z
          · rw [z, d1]; exact fun z => nomatch z
          · exact o2.al a z
        · rcases List.mem_cons.mp ha with z | z
          · rw [z]; exact d2
          · exact o2.fr a z
  · cases h3
theorem js_setLc2 {x : Str} {py spos : Pos} {scope : Scope} {m : Option α} {R : α → OP} (i : Nat) (nd : S.N.Nodup) (h : JC2 S elt tg iter ifs tg1 iter1 ifs1 scope Γ m R) (hi : (Γ[i]?).isSome = true := by rfl) (hN : S.N[i]? = some x := by rfl) (hx : S.sc.names.lookup x = some .local := by rfl) (hp : (S.prot.contains i) = false := by rfl)
    (hk : S.sc.kind = .function := by rfl) (hl : (py.line == pos.line) = true := by rfl) (hown : (scope.names.any fun (n, k) => n == x && (k == .local || k == .cell)) = false := by decide +kernel) (hs : ∀ env x, foldedSetIterable iter env x = pure x := by intro _ _; rfl) (hs1 : ∀ env x, foldedSetIterable iter1 env x = pure x := by intro _ _; rfl) (hcm : S.calm = true := by rfl) :
    JS S (.Assign [.Name x py] (.ListComp elt [⟨tg, iter, ifs, 0⟩, ⟨tg1, iter1, ifs1, 0⟩] scope pos) spos) Γ m fun a => .nx (Γ.set i (some (R a))) := fun σ W F sta y hy E k => by
  obtain ⟨own, vs1, ok, hv, go⟩ := h
  refine ⟨_, fun X hX => ps_setLc2 (hX.calm.trans hcm) (by rw [hX.N]; exact nd) (by rw [hX.N]; exact hN) (by rw [hX.sc]; exact hx) (sw_true (by rw [hX.sc]; exact hk) (by rw [hX.sc]; exact hx) hl hown) (piO hX) (by rw [hX.N, hX.sc]; exact ok) hv (fun s H C cl fp => pgO (hX.blk scope s H C cl fp)) (fun s H C cl fp => ptsO (hX.blk scope s H C cl fp)) (fun s H C cl fp => piO (hX.blk scope s H C cl fp)) (fun s H C cl fp => pgO (hX.blk scope s H C cl fp)) (fun s H C cl fp => ptsO (hX.blk scope s H C cl fp)) (fun s H C cl fp => peO (hX.blk scope s H C cl fp)) (hs _) hs1, go σ W F sta y hy _ fun v W' Fv ext fr fp r => ?_⟩
  obtain ⟨F', s', stp⟩ := sta_set sta ext fr fp r hi
  exact k _ W' F' (Keep.set (ncon hp)) stp s'
end
end CC
set_option maxHeartbeats 4000000
/-! Calls with keywords in any order; an item of a list in a list taken out; written numbers of the module. -/
namespace CC
open PySem PySem.Spec L2
open PyProof.Rows hiding St
variable {α β γ δ τ υ ω ρ ε κ : Type}
def sel (l : List α) (is : List Nat) : List α := is.filterMap fun i => l[i]?
theorem vals_sel {vs : List V} {us : List Value} (h : Vals vs us) : ∀ is : List Nat, Vals (sel vs is) (sel us is)
  | [] => .nil
  | i :: is => by
    have ih := vals_sel h is
    unfold sel at ih ⊢
    cases e : vs[i]? with
    | none =>
      have e2 : us[i]? = none := by
        rw [List.getElem?_eq_none_iff] at e ⊢
        rw [← h.length]
        exact e
      rw [List.filterMap_cons_none e, List.filterMap_cons_none e2]
      exact ih
    | some v =>
      obtain ⟨u, e2, r⟩ := h.get e
      rw [List.filterMap_cons_some e, List.filterMap_cons_some e2]
      exact .cons r ih
theorem hets_sel {B : Hp} {vs : List V} {ps : List SP} (h : Hets B vs ps) : ∀ is : List Nat, Hets B (sel vs is) (sel ps is)
  | [] => trivial
  | i :: is => by
    have ih := hets_sel h is
    unfold sel at ih ⊢
    cases e : ps[i]? with
    | none =>
      have e2 : vs[i]? = none := by
        rw [List.getElem?_eq_none_iff] at e ⊢
        rw [h.len]
        exact e
      rw [List.filterMap_cons_none e, List.filterMap_cons_none e2]
      exact ih
    | some p =>
      obtain ⟨v, e2, r⟩ := h.get e
      rw [List.filterMap_cons_some e, List.filterMap_cons_some e2]
      exact ⟨r, ih⟩
theorem hets_s {B : Hp} {vs zs : List V} {ps qs rs : List SP} {is : List Nat} (h : Hets B vs ps) (k : Hets B zs qs) (e : rs = sel (ps ++ qs) is) : Hets B (sel (vs ++ zs) is) rs := e ▸ hets_sel (h.app k) is
theorem kb_plain {K : PySem.W.Frag} {x qual : Str} {params : Arguments} {body : List Stmt} {scope : Scope} {f : Addr} {fd : FuncData} {ps : List Str} (F : FunD K x qual params body scope [] [] f fd) (n : Nat) (ks : List Str) (is : List Nat)
    (h : ∀ (kV doc pm : Value) (an : Option Addr) (cdv ct : Value) (us ws : List Value), us.length = n → ws.length = ks.length → bindArgs (PySem.W.fnOf x qual params body scope .none kV doc pm an cdv ct) ⟨us, ks.zip ws⟩ = pure (ps.zip (sel (us ++ ws) is))) :
    KBn K fd ps n ks (fun us ws => sel (us ++ ws) is) (fun vs zs => sel (vs ++ zs) is) := by
  obtain ⟨oc, od, dV, kV, doc, pm, an, cdv, ct, osl, rfl, lk, hcd, hD, hK⟩ := F.ex
  rcases hD with ⟨_, rfl⟩ | ⟨e, _⟩
  · exact ⟨fun s us ws X l1 l2 => .of_eq (h kV doc pm an cdv ct us ws l1 l2), fun r q => vals_sel (r.append q) is⟩
  · exact absurd rfl e
section
variable {S : Stc} {Γ : Ctx} {a b e : Expr} {es : List Expr} {pos : Pos}
/-- a number of the module -/
theorem jn_gint {x : Str} {i : Int} (hm : ∃ t, S.mg x = some (.int i t)) (hg : GlS S x := by rfl) (hd : (x == ("__debug__" : Str)) = false := by decide) : JN S (.Name x pos) Γ (some i) fun z => sh (intS z) := by
  obtain ⟨t, hm⟩ := hm
  exact jn_c (v := .int i) (E := intS) (a := i) (fun X hX => pe_glob (hg.gl hX) (mgS hm hX) ⟨t, rfl⟩ hd) fun _ => rfl
end
section
variable {S : Stc} {Γ : τ → Ctx} {s : τ} {tg iter : Expr} {pos : Pos} {A : List Stmt}
theorem js_forE1 {mi : Option (List α × τ)} {E : α → SP} {up : α → Ctx → Ctx} {ws : List Nat} {Γl : υ → Ctx} {T : ρ → Kd} {f : α → υ → Option (Out υ ρ)} (s0 : τ → υ) (hi : JIE S tg iter Γ s mi E) (hg : JG S tg E up ws) (w : ∀ s, Weak (Γ s) (Γl (s0 s))) (hl : ∀ s, ∀ i ∈ ws, i < (Γl s).length)
    (hT : ∀ r, NoNx (T r) ∧ (∀ Δ, T r ≠ .bk Δ) ∧ ∀ Δ, T r ≠ .ct Δ) (hb : ∀ x s, JB S A (up x (Γl s)) (f x s) (DL Γl T)) (hs : ∀ env x, foldedSetIterable iter env x = pure x := by intro _ _; rfl) (hcm : S.calm = true := by rfl) :
    JS S (.For tg iter A [] pos) (Γ s) (mi.bind fun q => loopGo f q.1 (s0 q.2)) (DF Γl T) := fun σ W F sta z hz Ed k => by
  obtain ⟨q, h1, h2⟩ := run1 hz
  exact js_forE (Γl := fun _ => Γl) (f := fun _ => f) s0 hi hg w (fun _ => hl) hT (fun _ => hb) hs hcm σ W F sta (q.2, z) (by rw [h1]; show (loopGo f q.1 (s0 q.2)).bind _ = _; rw [h2]; rfl) Ed k
theorem js_forSE {mi : Option (List α × τ)} {E : α → SP} {up : α → Ctx → Ctx} {ws : List Nat} {Γl : υ → Ctx} {f : α → υ → Option υ} (s0 : τ → υ) (hi : JIE S tg iter Γ s mi E) (hg : JG S tg E up ws) (w : ∀ s, Weak (Γ s) (Γl (s0 s))) (hl : ∀ s, ∀ i ∈ ws, i < (Γl s).length)
    (hb : ∀ x s, JB S A (up x (Γl s)) (f x s) fun s' => .nx (Γl s')) (hs : ∀ env x, foldedSetIterable iter env x = pure x := by intro _ _; rfl) (hcm : S.calm = true := by rfl) :
    JS S (.For tg iter A [] pos) (Γ s) (mi.bind fun q => foldGo f q.1 (s0 q.2)) fun s => .nx (Γl s) := fun σ W F sta z hz Ed k => by
  have h := js_forE1 (ρ := Empty) (T := fun r => nomatch r) (f := fun x s => (f x s).bind fun s' => some (.nx s')) (pos := pos) s0 hi hg w hl (fun r => nomatch r) (fun x s => JB.map (hb x s) fun s' => rfl) hs hcm
  refine h σ W F sta (.nx z) ?_ Ed k
  obtain ⟨q, h1, h2⟩ := run1 hz
  rw [h1]
  show loopGo _ q.1 (s0 q.2) = _
  rw [loopGo_fold, h2]
  rfl
end
/-- a def with state first that falls off its end -/
theorem fnd_stateN {P : Program} {w : World} {K : PySem.W.Frag} {mg : Str → Option Value} {base : Heap} {x qual : Str} {st : Stmt} {f : Addr} {fd : FuncData} {dvs : List V} {kwd : List (Str × V)} {N ps : List Str} {k : Nat} {O : τ → OP} {G : α → List SP} {fM : α → τ → Option τ} (F : FunD K x qual (defArgs st) (defBody st) (defScope st) dvs kwd f fd) (Sc : FnScope N ps (defScope st)) (hG : ∀ a, (G a).length + 1 = ps.length) (hn : ps.length ≤ N.length)
    (body : ∀ a s, JB (stcOf P w K mg base N (defScope st) k [0]) (defBody st) (some (O s) :: (shC (G a) ++ nonC (N.length - ps.length))) (fM a s) fun r => .nx (some (O r) :: nonC (N.length - 1))) : FnOk P w K mg base CX0 (k + 1) f fd ps (spS O G (fun a s => (fM a s).bind fun s' => some ((), s')) fun _ => sh nonS) := by
  refine F.ok Sc (fun vs H Q E h => ?_) (fun cdv A outer s H vs Q E hr h => ?_)
  · obtain ⟨a, s, W, F, v0, vr, r, rfl, _, _, _, _, h3, _⟩ := h
    rw [List.length_cons, h3.len, hG]
  · obtain ⟨a, s0, W, Fp, v0, vr, r, rfl, rfl, ok, fp0, h0, h3, h4, kq⟩ := h
    obtain ⟨s1, h5, h6⟩ := run1 h4
    cases h6
    refine ⟨tbOf (stcOf P w K mg base N (defScope st) k [0]) (defBody st), (pbO (in_cx hr)).nox, ?_⟩
    have hl : (v0 :: vr).length = ps.length := by rw [List.length_cons, h3.len]; exact hG a
    have sta : Sta (some (O s0) :: (shC (G a) ++ nonC (N.length - ps.length))) (L2.start N (v0 :: vr)) W Fp := ⟨ok, fp0, by
      unfold L2.start shC nonC
      have := hG a
      simp [h3.len]
      omega, ⟨v0, Fp, [], rfl, (List.append_nil _).symm, h0, by
      unfold L2.start
      rw [hl]
      exact holds_sh h3⟩⟩
    refine body a s0 _ W Fp sta s1 h5 _ fun σ' W' F' kp stp sa => ?_
    obtain ⟨u, F1, F2, b1, b2, b3, b4⟩ := sa.hold
    have e0 : σ'[0]? = some (some v0) := (kp 0 (by simp)).trans rfl
    have eu : u = v0 := by
      rw [List.head?_eq_getElem?] at b1
      rw [e0] at b1
      exact (Option.some.inj (Option.some.inj b1)).symm
    subst eu
    have eF : F2 = [] := by
      have : ∀ (n : Nat) (σ : L2.St) (F : List Addr), Holds (nonC n) σ W' F → F = [] := by
        intro n
        induction n with
        | zero => intro σ F h; exact h
        | succ n ih => intro σ F h; exact ih σ.tail F h
      exact this _ _ _ b4
    subst eF
    rw [List.append_nil] at b2
    subst b2
    exact kq .non W' F' [] (by rw [List.append_nil]; exact stp) (by rw [List.append_nil]; exact sa.fp) b3 ⟨rfl, rfl⟩
end CC
set_option maxHeartbeats 4000000
/-! A row of a table under a second name. -/
namespace CC
open PySem PySem.Spec L2
open PyProof.Rows hiding St
variable {α β γ δ τ υ ω ρ ε κ : Type}
/-- all owned but the k-th -/
def OwnsBut (E : α → OP) (W : Wd) : Nat → List V → List α → List Addr → Prop
  | 0, _ :: vs, _ :: xs, F => Owns E W vs xs F
  | k + 1, v :: vs, x :: xs, F => ∃ F1 F2, F = F1 ++ F2 ∧ (E x).C W v F1 ∧ OwnsBut E W k vs xs F2
  | _, [], _, _ => False
  | _, _ :: _, [], _ => False
theorem OwnsBut.loc {E : α → OP} {W W' : Wd} (e : Ex W.B W'.B) : ∀ {k : Nat} {vs : List V} {xs : List α} {F : List Addr}, OwnsBut E W k vs xs F → (∀ a ∈ F, W'.H a = W.H a) → OwnsBut E W' k vs xs F
  | 0, _ :: _, _ :: _, _, h, q => Owns.loc e h q
  | k + 1, _ :: _, _ :: _, _, ⟨F1, F2, h1, h2, h3⟩, q => by
    subst h1
    exact ⟨F1, F2, rfl, OP.loc _ h2 e fun a ha => q a (List.mem_append_left _ ha), OwnsBut.loc e h3 fun a ha => q a (List.mem_append_right _ ha)⟩
  | 0, [], _, _, h, _ => h.elim
  | 0, _ :: _, [], _, h, _ => h.elim
  | _ + 1, [], _, _, h, _ => h.elim
  | _ + 1, _ :: _, [], _, h, _ => h.elim
theorem Owns.split {E : α → OP} {W : Wd} : ∀ {k : Nat} {vs : List V} {xs : List α} {F : List Addr} {x : α}, Owns E W vs xs F → xs[k]? = some x → ∃ v F1 F2, vs[k]? = some v ∧ (E x).C W v F1 ∧ OwnsBut E W k vs xs F2 ∧ F.Perm (F1 ++ F2)
  | 0, v :: vs, y :: xs, _, x, ⟨F1, F2, h1, h2, h3⟩, e => by
    have : y = x := by simpa using e
    subst this h1
    exact ⟨v, F1, F2, rfl, h2, h3, .refl _⟩
  | k + 1, v :: vs, y :: xs, _, x, ⟨F1, F2, h1, h2, h3⟩, e => by
    subst h1
    obtain ⟨u, G1, G2, a1, a2, a3, a4⟩ := Owns.split (k := k) h3 (by simpa using e)
    refine ⟨u, G1, F1 ++ G2, by simpa using a1, a2, ⟨F1, G2, rfl, h2, a3⟩, ?_⟩
    refine (List.Perm.append_left F1 a4).trans ?_
    rw [← List.append_assoc, ← List.append_assoc]
    exact List.Perm.append_right G2 List.perm_append_comm
  | _, [], [], _, _, _, e => by simp at e
  | _, [], _ :: _, _, _, h, _ => h.elim
  | _, _ :: _, [], _, _, h, _ => h.elim
theorem OwnsBut.join {E : α → OP} {W : Wd} : ∀ {k : Nat} {vs : List V} {xs : List α} {F2 F1 : List Addr} {x : α} {v : V}, OwnsBut E W k vs xs F2 → vs[k]? = some v → (E x).C W v F1 → ∃ F, Owns E W vs (xs.set k x) F ∧ F.Perm (F1 ++ F2)
  | 0, u :: vs, y :: xs, F2, F1, x, v, h, e, c => by
    have : u = v := by simpa using e
    subst this
    exact ⟨F1 ++ F2, ⟨F1, F2, rfl, c, h⟩, .refl _⟩
  | k + 1, u :: vs, y :: xs, _, F1, x, v, ⟨G1, G2, h1, h2, h3⟩, e, c => by
    subst h1
    obtain ⟨F, a1, a2⟩ := OwnsBut.join (k := k) h3 (by simpa using e) c
    refine ⟨G1 ++ F, ⟨G1, F, rfl, h2, a1⟩, ?_⟩
    refine (List.Perm.append_left G1 a2).trans ?_
    rw [← List.append_assoc, ← List.append_assoc]
    exact List.Perm.append_right G2 List.perm_append_comm
  | 0, [], _, _, _, _, _, h, _, _ => h.elim
  | 0, _ :: _, [], _, _, _, _, h, _, _ => h.elim
  | _ + 1, [], _, _, _, _, _, h, _, _ => h.elim
  | _ + 1, _ :: _, [], _, _, _, _, h, _, _ => h.elim
/-- a list whose k-th item, the value v, is lent -/
def holeO (E : α → OP) (k : Nat) (v : V) (xs : List α) : OP := ⟨fun W w F => ∃ a vs F2, w = .ref a ∧ W.H a = some (.lst vs) ∧ F = a :: F2 ∧ vs[k]? = some v ∧ OwnsBut E W k vs xs F2, fun h e q => by
  obtain ⟨a, vs, F2, h1, h2, h3, h4, h5⟩ := h
  subst h3
  exact ⟨a, vs, F2, h1, (q a List.mem_cons_self).trans h2, rfl, h4, h5.loc e fun b hb => q b (List.mem_cons_of_mem _ hb)⟩⟩
/-- the very value v -/
def alO (o : OP) (v : V) : OP := ⟨fun W w F => w = v ∧ o.C W w F, fun h e q => ⟨h.1, o.loc h.2 e q⟩⟩
section
variable {S : Stc} {Γ Δ : Ctx} {a b e : Expr} {pos : Pos} {st : Stmt} {rest : List Stmt}
theorem jb_borrow {r u : Str} {p0 p1 p2 : Pos} {E : α → OP} {xss : List α} {mi : Option Int} {mr : Nat → α → Option ω} {D : ω → Kd} (iu ir : Nat) (nd : S.N.Nodup) (ha : JN S a Γ mi fun z => sh (intS z)) (hi : Γ[iu]? = some (some (lstO E xss)) := by rfl) (hir : (Γ[ir]?).isSome = true := by rfl) (hne : iu ≠ ir := by decide)
    (hr : ∀ k v x, JB S rest ((Γ.set iu (some (holeO E k v xss))).set ir (some (alO (E x) v))) (mr k x) D)
    (hNu : S.N[iu]? = some u := by rfl) (hNr : S.N[ir]? = some r := by rfl) (hvu : Vis S.sc u := by first | exact Or.inl rfl | exact Or.inr (Or.inl rfl) | exact Or.inr (Or.inr rfl)) (hd : (u == ("__debug__" : Str)) = false := by decide) (hcd : (u == ("__classdict__" : Str)) = false := by decide)
    (hx : Loc S.sc r := by first | exact Or.inl rfl | exact Or.inr rfl) (hp : (S.prot.contains ir) = false := by rfl) (hpl : PlainIx a := by exact fun _ _ => rfl)
    (hs : ∀ env, swapsWith (.Subscript (.Name u p0) a p1) (some (.Name r p2)) pos.line env = pure false := by intro _; rfl) (hf : S.fn r = true ∨ S.sc.names.lookup r = some .local := by first | exact .inl rfl | exact .inr rfl) :
    JB S (.Assign [.Name r p2] (.Subscript (.Name u p0) a p1) pos :: rest) Γ (mi.bind fun i => (ixN xss.length i).bind fun k => (xss[k]?).bind fun x => mr k x) D := fun σ W F sta z hz Ed kk => by
  obtain ⟨i, m1, m2⟩ := run1 hz
  obtain ⟨k, m3, m4⟩ := run1 (f := fun k => (xss[k]?).bind fun x => mr k x) m2
  obtain ⟨x, m5, m6⟩ := run1 (f := fun x => mr k x) m4
  refine ⟨tSeq (tAsg (tOp (rIxL S.K) (tVar iu) (tOf S a)) (gName ir)) (tbOf S rest), fun X hX => pss_cons (ps_set (by rw [hX.N]; exact nd) (by rw [hX.N]; exact hNr) (locS hx hX) (pe_ix (oIxL X hX) (pe_var (by rw [hX.N]; exact hNu) (visS hvu hX) hd hcd) (peO hX) hpl) (hs _) (by rw [hX.fn, hX.sc]; exact hf)) (pbO hX), ?_⟩
  obtain ⟨w, F1, F2, a1, _⟩ := sta.hold.at hi
  refine ⟨w, a1, ha σ W F sta i m1 _ fun t W1 _ ext _ _ r1 => ?_⟩
  obtain ⟨_, rfl⟩ := r1
  have sta1 := sta.ext ext
  obtain ⟨w', F1', F2', c1, c2, c3, c4⟩ := sta1.hold.at hi
  have ev : w' = w := by rw [a1] at c1; exact (Option.some.inj (Option.some.inj c1)).symm
  subst ev
  obtain ⟨p, vs, G2, rfl, d2, rfl, d4⟩ := c2
  obtain ⟨v, K1, K2, k1, k2, k3, k4⟩ := d4.split m5
  refine ⟨p, vs, i, v, rfl, rfl, .inl (.inl d2), by unfold atI; rw [d4.len, m3]; exact k1, ?_⟩
  obtain ⟨F', s1, s2⟩ := c4 W1 (holeO E k v xss) (.ref p) (p :: K2) (fun _ _ h => h) (fun _ _ => rfl) ⟨p, vs, K2, rfl, d2, rfl, k1, k3⟩
  rw [set_back c1] at s1
  have pF : F.Perm (F' ++ K1) := by
    refine c3.trans ?_
    refine List.Perm.trans ?_ (List.Perm.append_right K1 s2.symm)
    have e1 : ((p :: G2) ++ F2').Perm ((p :: (K2 ++ K1)) ++ F2') := List.Perm.append_right F2' (List.Perm.cons p (k4.trans List.perm_append_comm))
    refine e1.trans ?_
    show ((p :: K2) ++ K1 ++ F2').Perm _
    rw [List.append_assoc, List.append_assoc]
    exact List.Perm.append_left _ List.perm_append_comm
  have fpA := sta1.fp.perm pF
  have s3 : Sta (Γ.set iu (some (holeO E k v xss))) σ W1 F' := ⟨sta1.ok, fpA.left, by rw [List.length_set]; exact sta1.len, s1⟩
  have hlt : ir < (Γ.set iu (some (holeO E k v xss))).length := by
    rw [List.length_set]
    cases h : Γ[ir]? with
    | none => rw [h] at hir; cases hir
    | some o => exact (List.getElem?_eq_some_iff.mp h).1
  obtain ⟨F3, s4, sub⟩ := s3.put (o := alO (E x) v) (v := v) (F1 := K1) hlt ⟨rfl, k2⟩ fpA
  refine hr k v x (σ.set ir (some v)) W1 F3 s4 z m6 Ed (kk.before (Keep.set (ncon hp)) ?_)
  exact ext.stp0.perm fun b hb => pF.mem_iff.mpr (sub b hb)
/-- what was lent is put back -/
theorem jb_back {sts : List Stmt} {E : α → OP} {xss : List α} {m : Option ω} {D : ω → Kd} {k : Nat} {v : V} {x : α} (iu ir : Nat) (hu : (Γ.set ir none)[iu]? = some (some (holeO E k v xss))) (hr : Γ[ir]? = some (some (alO (E x) v))) (h : JB S sts ((Γ.set ir none).set iu (some (lstO E (xss.set k x)))) m D) : JB S sts Γ m D := fun σ W F sta z hz Ed kk => by
  obtain ⟨w, F1, F2, a1, ⟨rfl, a2⟩, a3, s1⟩ := sta_take sta hr
  obtain ⟨w', G1, G2, c1, c2, c3, c4⟩ := s1.hold.at hu
  obtain ⟨p, vs, H2, rfl, d2, rfl, d3, d4⟩ := c2
  obtain ⟨F', e1, e2⟩ := d4.join d3 a2
  obtain ⟨F3, t1, t2⟩ := c4 W (lstO E (xss.set k x)) (.ref p) (p :: F') (fun _ _ h => h) (fun _ _ => rfl) ⟨p, vs, F', rfl, d2, rfl, e1⟩
  rw [set_back c1] at t1
  have pF : F.Perm F3 := by
    refine a3.trans ?_
    refine (List.Perm.append_right F1 c3).trans ?_
    refine List.Perm.trans ?_ t2.symm
    show ((p :: H2) ++ G2 ++ F1).Perm (p :: F' ++ G2)
    refine List.Perm.trans ?_ (List.Perm.append_right G2 (List.Perm.cons p e2.symm))
    show (p :: (H2 ++ G2 ++ F1)).Perm (p :: ((F1 ++ H2) ++ G2))
    refine List.Perm.cons p ?_
    rw [List.append_assoc F1]
    exact List.perm_append_comm
  have s2 : Sta ((Γ.set ir none).set iu (some (lstO E (xss.set k x)))) σ W F3 := ⟨sta.ok, sta.fp.perm pF, by rw [List.length_set]; exact s1.len, t1⟩
  exact h σ W F3 s2 z hz Ed (kk.before Keep.refl ((Stp.refl sta.ok).perm fun b hb => pF.mem_iff.mpr hb))
theorem ts_prot {D : Ends} {σ : L2.St} {H : Hp} {p : List Nat} (h : tsOf { S with prot := p } st D σ H) : tsOf S st D σ H := by
  obtain ⟨t, h1, h2⟩ := h
  exact ⟨t, fun X hX => h1 X ⟨hX.prog, hX.w, hX.K, hX.mg, hX.base, hX.N, hX.sc, hX.fn, hX.calm, hX.room, hX.un, hX.pass, hX.tk, hX.top, hX.ex⟩, h2⟩
/-- a statement over the lent row, which keeps its slot -/
theorem js_al {o : OP} {o' : τ → OP} {v : V} {m : Option τ} {Γl : τ → Ctx} (ir : Nat) (hi : Γ[ir]? = some (some (alO o v))) (h : JS { S with prot := ir :: S.prot } st (Γ.set ir (some o)) m fun x => .nx (Γl x)) (hl : ∀ x, (Γl x)[ir]? = some (some (o' x)) := by intro _; rfl) :
    JS S st Γ m fun x => .nx ((Γl x).set ir (some (alO (o' x) v))) := fun σ W F sta z hz Ed kk => by
  obtain ⟨w, F1, F2, a1, ⟨rfl, a2⟩, a3, a4⟩ := sta.hold.at hi
  obtain ⟨F', s1, s2⟩ := a4 W o w F1 (fun _ _ h => h) (fun _ _ => rfl) a2
  rw [set_back a1] at s1
  have pF : F.Perm F' := a3.trans s2.symm
  have sta' : Sta (Γ.set ir (some o)) σ W F' := ⟨sta.ok, sta.fp.perm pF, by rw [List.length_set]; exact sta.len, s1⟩
  refine ts_prot (p := ir :: S.prot) (h σ W F' sta' z hz Ed fun σ' W' F2' kp stp sa => ?_)
  have e0 : σ'[ir]? = some (some w) := (kp ir List.mem_cons_self).trans a1
  obtain ⟨w', G1, G2, b1, b2, b3, b4⟩ := sa.hold.at (hl z)
  have ew : w' = w := by rw [e0] at b1; exact (Option.some.inj (Option.some.inj b1)).symm
  subst ew
  obtain ⟨F3, t1, t2⟩ := b4 W' (alO (o' z) w') w' G1 (fun _ _ h => h) (fun _ _ => rfl) ⟨rfl, b2⟩
  rw [set_back b1] at t1
  have pG : F2'.Perm F3 := b3.trans t2.symm
  refine kk σ' W' F3 (fun p hp => kp p (List.mem_cons_of_mem _ hp)) ?_ ⟨sa.ok, sa.fp.perm pG, by rw [List.length_set]; exact sa.len, t1⟩
  exact (stp.permL fun b hb => pF.mem_iff.mpr hb).perm fun b hb => pG.mem_iff.mpr hb
end
theorem iv_alO {K : PySem.W.Frag} {E : α → OP} {v : V} : IxV (rIxL K) (fun xs => alO (lstO E xs) v) intS (fun xs i => atI xs i) E := fun W x y v u z F1 ok hx hy e Q k => iv_lstO W x y v u z F1 ok hx.2 hy e Q k
section
variable {S : Stc} {Γ Δ : Ctx} {a b e : Expr} {pos : Pos} {st : Stmt} {rest : List Stmt}
theorem sta_frz {σ : L2.St} {W : Wd} {F : List Addr} {i : Nat} {o : OP} {p : SP} (st : Sta Γ σ W F) (hi : Γ[i]? = some (some o)) (f : FrzN o p) : ∃ B' F', Ex W.B B' ∧ Sta (Γ.set i (some (sh p))) σ ⟨W.H, B'⟩ F' := by
  obtain ⟨v, F1, F2, a1, a2, a3, a4⟩ := st.hold.at hi
  have fp := st.fp.perm a3
  obtain ⟨B', b1, b2, b3, b4⟩ := f.run a2 fp.left.nd fp.left.fr st.ok
  obtain ⟨F', c1, c2⟩ := a4 ⟨W.H, B'⟩ (sh p) v [] b1 (fun _ _ => rfl) ⟨rfl, b4⟩
  have fp' : FpOk ⟨W.H, B'⟩ F' := by
    refine FpOk.perm (F := F2) ?_ (by simpa using c2.symm)
    exact ⟨fp.right.nd, fp.right.al, fun a ha => b3 a (fp.right.fr a ha) fun z => fp.disj a z ha⟩
  rw [set_back a1] at c1
  exact ⟨B', F', b1, b2, fp', by rw [List.length_set]; exact st.len, c1⟩
theorem ext_thaw {W W' : Wd} {B' : Hp} (ok : Ex W.B W.H) (b : Ex W.B B') (e : Ext ⟨W.H, B'⟩ W') : Ext W ⟨W'.H, W.B⟩ := ⟨ok.trans e.h, e.h, Ex.refl _, fun _ _ h => h⟩
/-- what is owned is read as if it stood still; the value does not lean on it -/
theorem jn_thaw {m : Option α} {E : α → SP} {i : Nat} {o : OP} {p : SP} (hE : ∀ x B B' v, (E x).P B v → (E x).P B' v) (hi : Γ[i]? = some (some o)) (f : FrzN o p) (h : JN S e (Γ.set i (some (sh p))) m fun x => sh (E x)) : JN S e Γ m fun x => sh (E x) := fun σ W F st x hx Q k => by
  obtain ⟨B', F', b, st'⟩ := sta_frz st hi f
  exact h σ ⟨W.H, B'⟩ F' st' x hx Q fun v W' Fv ext fr fp r => k v ⟨W'.H, W.B⟩ [] (ext_thaw st.ok b ext) (by simp) FpOk.nil ⟨rfl, hE _ _ _ _ r.2⟩
theorem jt_thaw {m : Option Bool} {i : Nat} {o : OP} {p : SP} (hi : Γ[i]? = some (some o)) (f : FrzN o p) (h : JT S e (Γ.set i (some (sh p))) m) : JT S e Γ m := fun σ W F st x hx Q k => by
  obtain ⟨B', F', b, st'⟩ := sta_frz st hi f
  exact h σ ⟨W.H, B'⟩ F' st' x hx Q fun W' ext => k ⟨W'.H, W.B⟩ (ext_thaw st.ok b ext)
theorem flat_int : ∀ (x : Int) (B B' : Hp) (v : V), (intS x).P B v → (intS x).P B' v := fun _ _ _ _ h => h
theorem flat_bool : ∀ (x : Bool) (B B' : Hp) (v : V), (boolS x).P B v → (boolS x).P B' v := fun _ _ _ _ h => h
theorem flat_str : ∀ (x : Str) (B B' : Hp) (v : V), (strS x).P B v → (strS x).P B' v := fun _ _ _ _ h => h
end
section
variable {S : Stc} {Γ : Ctx} {a b e : Expr} {pos : Pos}
theorem each_ints {B : Hp} : ∀ {ns : List Int}, Each intS B (ns.map V.int) ns
  | [] => trivial
  | _ :: _ => ⟨rfl, each_ints⟩
theorem sorted_ints {m : Option (List Int)} {p : Pos} (hm : S.mg "sorted" = none) (h : JN S a Γ m fun x => sh (lstS intS x)) (hg : GlS S "sorted" := by rfl) (hs : ∀ env, starEach [a] env = [(false, eval a env)] := by intro _; rfl) : JN S (.Call (.Name "sorted" p) [a] [] pos) Γ (m.bind fun xs => some (sortI xs)) (lstO fun x => sh (intS x)) :=
  jn_b1 (f := fun xs : List Int => some (sortI xs)) (fun X hX => hX.K ▸ cr_sortedI) (fun W x v z ok hh e Q k => by
    cases e
    obtain ⟨a, vs, rfl, h2, h3⟩ := hh
    have e1 := each_flat fl_int h3
    subst e1
    refine ⟨a, x, rfl, .inl (.inl (ok a _ h2)), fun ys p perm srt np => ?_⟩
    have e : ys = sortI x := srt_uniq leI_an (List.Pairwise.imp (fun {u w} hn => by unfold leI; simpa using hn) srt) (isort_srt leI_tot leI_tr x) (perm.trans (isort_perm leI x).symm)
    subst e
    exact k.newL ok each_ints p np) hm h hg (by decide +kernel) (by decide) (by decide) hs
end
end CC
set_option maxHeartbeats 4000000
/-! A list of one's own within a list of several kinds. -/
namespace CC
open PySem PySem.Spec L2
open PyProof.Rows hiding St
variable {α β γ δ τ υ ω ρ ε κ : Type}
section
variable {S : Stc} {Γ : Ctx} {a b e : Expr} {es : List Expr} {pos : Pos}
/-- [fresh, shared, ..] -/
theorem jn_hl1 {m0 : Option α} {m : Option β} {R0 : α → OP} {G : β → List SP} {T : γ → OP} {g : α → β → γ} (h0 : JN S e Γ m0 R0) (h : JA S es Γ m G) (hR : ∀ x y, hetO (R0 x :: (G y).map sh) = T (g x y) := by intro _ _; rfl) (hl : ∀ x, (G x).length ≤ 1000 := by intro _; exact Nat.le_of_ble_eq_true rfl) (hs : ∀ env, starEach (e :: es) env = (false, eval e env) :: starEach es env := by intro _; rfl) :
    JN S (.List (e :: es) pos) Γ (m0.bind fun x => m.bind fun y => some (g x y)) T := fun σ W F sta z hz Q kk => by
  obtain ⟨x, y, h1, h2, h3⟩ := run2 hz
  cases h3
  refine ⟨tLst (tCons (tOf S e) (taOf S es)), fun X hX => pe_lst (pa_cons (peO hX) (paO hX) (hs _)), ?_⟩
  refine h0 σ W F sta x h1 _ fun v W1 Fv e1 fr fp r => ?_
  refine h σ W1 F (sta.ext e1) y h2 _ fun vs W2 e2 hh => ?_
  refine ⟨Nat.le_trans (by rw [List.length_cons, hh.len]; exact Nat.succ_le_succ (hl y)) (by decide), fun q hq => ?_⟩
  have e3 : Ext W2 ⟨upd W2.H q (.lst (v :: vs)), W2.B⟩ := Ext.new e2.ok hq
  have r2 : (R0 x).C W2 v Fv := (R0 x).ext r e2 fp
  have nq : ∀ b ∈ Fv, b ≠ q := fun b hb z => (fp.ext e2).al b hb (z ▸ hq)
  have r3 : (R0 x).C ⟨upd W2.H q (.lst (v :: vs)), W2.B⟩ v Fv := (R0 x).loc r2 (fun _ _ h => h) fun b hb => upd_ne (nq b hb)
  refine kk (.ref q) ⟨upd W2.H q (.lst (v :: vs)), W2.B⟩ (q :: Fv) ((e1.trans e2).trans e3) (fun b hb => ?_) ?_ (by rw [← hR]; exact ⟨q, v :: vs, Fv, rfl, upd_same, rfl, Fv, [], (List.append_nil _).symm, r3, HetO.of_hts (W := ⟨upd W2.H q (.lst (v :: vs)), W2.B⟩) hh⟩)
  · rcases List.mem_cons.mp hb with z | z
    · rw [z]; exact (e1.trans e2).h.back hq
    · exact fr b z
  · have f2 := fp.ext e2
    refine ⟨List.nodup_cons.mpr ⟨fun hb => nq q hb rfl, f2.nd⟩, fun b hb => wr_al' b hb f2, fun b hb => ?_⟩
    rcases List.mem_cons.mp hb with z | z
    · rw [z]
      exact e2.ok.back hq
    · exact f2.fr b z
where
  wr_al' {W2 : Wd} {q : Addr} {o : HO} {Fv : List Addr} (b : Addr) (hb : b ∈ q :: Fv) (f2 : FpOk W2 Fv) : upd W2.H q o b ≠ none := by
    by_cases z : b = q
    · rw [z, upd_same]
      exact fun z => nomatch z
    · rw [upd_ne z]
      exact f2.al b ((List.mem_cons.mp hb).resolve_left z)
end
section
variable {S : Stc} {Γ : τ → Ctx} {s : τ} {e : Expr} {pos : Pos}
/-- x[k].pop(e), x a list of several kinds, its k-th item a list of its own -/
theorem je_popH {x : Str} {p0 apos p2 : Pos} {kk p'} {ps : τ → List OP} {E : α → SP} {mi : Option Int} {j : Int} (i k : Nat) (get : τ → List α) (put : τ → List α → τ) (h : JN S e (Γ s) mi fun z => sh (intS z)) (hi : ∀ s, (Γ s)[i]? = some (some (hetO (ps s))) := by intro _; rfl) (hk : ∀ s, (ps s)[k]? = some (lstO (fun y => sh (E y)) (get s)) := by intro _; rfl)
    (hp : ∀ s u, (Γ s).set i (some (hetO ((ps s).set k (lstO (fun y => sh (E y)) u)))) = Γ (put s u) := by intro _ _; rfl) (hj : j = (k : Int) := by rfl)
    (hN : S.N[i]? = some x := by rfl) (hv : Vis S.sc x := by first | exact Or.inl rfl | exact Or.inr (Or.inl rfl) | exact Or.inr (Or.inr rfl)) (hd : (x == ("__debug__" : Str)) = false := by decide) (hcd : (x == ("__classdict__" : Str)) = false := by decide)
    (hbase : ∀ env, attributeBase (.Subscript (.Name x p0) (.Constant (.int j) kk p') p2) "pop" env (eval (.Subscript (.Name x p0) (.Constant (.int j) kk p') p2) env) = eval (.Subscript (.Name x p0) (.Constant (.int j) kk p') p2) env := by intro _; rfl)
    (hfew : ∀ env, ((backTo pos (starEach [e] env)).all (fun x => !x.1) && (backToKw pos (keywordEach [] env)).all (fun x => x.1.isSome) && decide ([e].length + ([] : List Keyword).length + (if ([] : List Keyword).isEmpty then 0 else 1) < 30)) = true := by intro _; rfl)
    (hline : (apos.endLine == pos.line) = true := by rfl) (hs : ∀ env, starEach [e] env = (false, eval e env) :: starEach [] env := by intro _; rfl) :
    JE S (.Call (.Attribute (.Subscript (.Name x p0) (.Constant (.int j) kk p') p2) "pop" apos) [e] [] pos) Γ s (mi.bind fun z => (popAt (get s) z).bind fun r => some (r.1, put s r.2)) fun y => sh (E y) := fun σ W F sta z hz Q kq => by
  obtain ⟨q, h1, h2⟩ := run1 hz
  obtain ⟨r, h3, h4⟩ := run1 (f := fun r : α × List α => some (r.1, put s r.2)) h2
  cases h4
  unfold popAt at h3
  split at h3
  · rename_i hb
    obtain ⟨y, h5, h6⟩ := run1 (f := fun y : α => some (y, (get s).eraseIdx q.toNat)) h3
    cases h6
    refine ⟨tBM S.K "list" rPopAt (tOp (rIxL S.K) (tVar i) (tC (.int j))) (tCons (tOf S e) tNil), fun X hX => hX.K ▸ pe_bm PySem.F.plainAttrs_list PySem.F.slot_list_pop PySem.F.type_list_pop mt_popAt (pe_ix (hX.K ▸ oIxL X hX) (pe_var (by rw [hX.N]; exact hN) (visS hv hX) hd hcd) pe_int (fun _ _ => rfl)) (pa_cons (peO hX) pa_nil (hs _)) (hbase _) (hfew _) hline (hs _) rfl, ?_⟩
    obtain ⟨v, F1, F2, a1, a2, a3, a4⟩ := sta.hold.at (hi s)
    obtain ⟨a, vs, G2, rfl, b2, rfl, b4⟩ := id a2
    obtain ⟨w, K1, K2, k1, k2, k3, k4⟩ := b4.at (hk s)
    obtain ⟨p, us, L2', rfl, l2, rfl, l4⟩ := k2
    refine ⟨.ref a, a1, a, vs, j, .ref p, rfl, rfl, .inl (.inl b2), by rw [hj]; exact atI_k k1, ?_⟩
    refine ⟨.inl ⟨rfl, us, .inl (.inl l2)⟩, h σ W F sta q h1 _ fun u W1 Fa ext _ _ r1 => ?_⟩
    obtain ⟨_, rfl⟩ := r1
    have sta1 := sta.ext ext
    obtain ⟨v', F1', F2', c1, c2, c3, c4⟩ := sta1.hold.at (hi s)
    have ev : v' = .ref a := by rw [a1] at c1; exact (Option.some.inj (Option.some.inj c1)).symm
    subst ev
    obtain ⟨a', vs', G3, e1, d2, rfl, d4⟩ := c2
    cases e1
    have evs : vs' = vs := by
      rw [ext.h a _ b2] at d2
      cases d2
      rfl
    subst evs
    obtain ⟨w', M1, M2, n1, n2, n3, n4⟩ := d4.at (hk s)
    rw [k1] at n1
    cases n1
    obtain ⟨p', us', L3, e2, o2, rfl, o4⟩ := n2
    cases e2
    obtain ⟨rfl, o5⟩ := o4.each
    have fpA := (sta1.fp.perm c3).left
    have hB : W1.B p = none := fpA.fr p (List.mem_cons_of_mem _ (n3.mem_iff.mpr (by simp)))
    have hne : a ≠ p := fun z => (List.nodup_cons.mp fpA.nd).1 (z ▸ n3.mem_iff.mpr (by simp))
    have hK : ∀ b ∈ M2, b ≠ p := fun b hb z => by
      have nd := (n3.nodup_iff.mp (List.nodup_cons.mp fpA.nd).2)
      exact (List.nodup_cons.mp nd).1 (z ▸ hb)
    obtain ⟨t, t1, t2⟩ := o5.get h5
    have hlen := o5.len
    have hlt : q.toNat < (get s).length := (List.getElem?_eq_some_iff.mp h5).1
    have z : LIM = 1000000 := rfl
    have eseq : seqIndex? q us'.length = some q.toNat := by
      have hx : ixN us'.length q = some q.toNat := by
        unfold ixN
        rw [if_pos hb.1, if_pos (by omega)]
      exact (ixN_seq hx).1
    refine ⟨p, us', q, q.toNat, t, rfl, rfl, o2, by omega, by omega, eseq, t1, ?_⟩
    have rN : (lstO (fun x => sh (E x)) ((get s).eraseIdx q.toNat)).C ⟨upd W1.H p (.lst (us'.eraseIdx q.toNat)), W1.B⟩ (.ref p) [p] :=
      ⟨p, _, [], rfl, upd_same, rfl, Owns.of_each (o5.eraseIdx q.toNat)⟩
    obtain ⟨G', g1, g2⟩ := n4 ⟨upd W1.H p (.lst (us'.eraseIdx q.toNat)), W1.B⟩ (lstO (fun x => sh (E x)) ((get s).eraseIdx q.toNat)) (.ref p) [p] (fun _ _ h => h) (fun b hb => upd_ne (hK b hb)) rN
    have hset : vs'.set k (.ref p) = vs' := by
      refine List.ext_getElem? fun n => ?_
      by_cases z : k = n
      · subst z
        rw [k1, List.getElem?_set_self (List.getElem?_eq_some_iff.mp k1).1]
      · rw [List.getElem?_set_ne z]
    rw [hset] at g1
    have pG : (a :: G').Perm (a :: G3) := List.Perm.cons a (g2.trans n3.symm)
    have fpB := fpA.perm pG.symm
    obtain ⟨F', s', stp⟩ := sta_own (W' := ⟨upd W1.H p (.lst (us'.eraseIdx q.toNat)), W1.B⟩) (F1' := a :: G') (o' := hetO ((ps s).set k (lstO (fun x => sh (E x)) ((get s).eraseIdx q.toNat)))) [] sta1 (by rw [List.append_nil]; exact sta1.fp) c1 c3 c4 (wr_ok ext.ok hB) rfl
      (fun b hb _ => upd_ne fun z => hb (z ▸ List.mem_cons_of_mem _ (n3.mem_iff.mpr (by simp)))) wr_al ⟨fpB.nd, fun b hb => wr_al b (fpB.al b hb), fpB.fr⟩ (fun b hb => .inl (pG.mem_iff.mp hb)) ⟨a, vs', G', rfl, (upd_ne hne).trans d2, rfl, g1⟩
    rw [List.append_nil] at stp
    rw [hp] at s'
    refine kq t _ F' [] (by rw [List.append_nil]; exact ext.stp0.trans stp) s' (by rw [List.append_nil]; exact s'.fp) ⟨rfl, t2⟩
  · cases h3
end
section
variable {S : Stc} {Γ : τ → Ctx} {s : τ} {a e : Expr} {pos : Pos}
theorem je_abs {m : Option (Int × τ)} {p : Pos} (hm : S.mg "abs" = none) (h : JE S a Γ s m fun x => sh (intS x)) (hg : GlS S "abs" := by rfl) (hs : ∀ env, starEach [a] env = [(false, eval a env)] := by intro _; rfl) : JE S (.Call (.Name "abs" p) [a] [] pos) Γ s (m.bind fun q => some (absI q.1, q.2)) fun z => sh (intS z) :=
  je_b1 (f := fun x : Int => some (absI x)) (fun X hX => call_abs) (fun W x v z ok hh e Q k => by
    cases e
    cases hh
    exact ⟨_, rfl, k.val ok rfl⟩) hm h hg (by decide +kernel) (by decide) (by decide) hs
end
/-! ### == of values of any kind -/
mutual
def toD : PV → PyData
  | .non => .none
  | .bl b => .bool b
  | .int i => .int i
  | .str z => .str z
  | .tup xs => .tuple (toDs xs)
  | .lst xs => .list (toDs xs)
def toDs : List PV → List PyData
  | [] => []
  | x :: xs => toD x :: toDs xs
end
mutual
theorem any_dp {K : PySem.W.Frag} {B H : Hp} (e : Ex B H) : ∀ (x : PV) (v : V), anyP B x v → Dp K H v (toD x)
  | .non, v, h => by unfold anyP at h; unfold toD; subst h; exact .non
  | .bl b, v, h => by unfold anyP at h; unfold toD; subst h; exact .bl b
  | .int i, v, h => by unfold anyP at h; unfold toD; subst h; exact .int i
  | .str z, v, h => by unfold anyP at h; unfold toD; subst h; exact .str z
  | .tup xs, v, h => by
    unfold anyP at h
    unfold toD
    obtain ⟨a, vs, rfl, h2, h3⟩ := h
    exact .tup (.inl (.inl (e a _ h2))) (anys_dp e xs vs h3)
  | .lst xs, v, h => by
    unfold anyP at h
    unfold toD
    obtain ⟨a, vs, rfl, h2, h3⟩ := h
    exact .lst (.inl (.inl (e a _ h2))) (anys_dp e xs vs h3)
theorem anys_dp {K : PySem.W.Frag} {B H : Hp} (e : Ex B H) : ∀ (xs : List PV) (vs : List V), anysP B xs vs → DpAll K H vs (toDs xs)
  | [], [], _ => by unfold toDs; exact .nil
  | x :: xs, v :: vs, h => by
    unfold anysP at h
    unfold toDs
    exact .cons (any_dp e x v h.1) (anys_dp e xs vs h.2)
  | [], _ :: _, h => by unfold anysP at h; exact h.elim
  | _ :: _, [], h => by unfold anysP at h; exact h.elim
end
def eqP (x y : PV) : Option Bool := if SeqAt.shaped (toD x) = true ∧ SeqAt.shaped (toD y) = true then some (PyData.eqv (toD x) (toD y)) else none
def neP (x y : PV) : Option Bool := (eqP x y).bind fun b => some (!b)
theorem oEqD {S : Stc} : ∀ X, S.In X → OpR X (compareOp .Eq) (rEqD S.K) := fun _ h => h.K ▸ op_eqD h.un
theorem oNeD {S : Stc} : ∀ X, S.In X → OpR X (compareOp .NotEq) (rNeD S.K) := fun _ h => h.K ▸ op_neD h.un
theorem ov_eqP {K : PySem.W.Frag} : OpV (rEqD K) anyS anyS eqP fun z => sh (boolS z) := fun W x y v u z ok hx hy e Q k => by
  unfold eqP at e
  split at e
  · rename_i hs
    cases e
    exact ⟨_, _, any_dp ok x v hx, any_dp ok y u hy, hs.1, hs.2, k.val ok rfl⟩
  · cases e
theorem ov_neP {K : PySem.W.Frag} : OpV (rNeD K) anyS anyS neP fun z => sh (boolS z) := fun W x y v u z ok hx hy e Q k => by
  unfold neP eqP at e
  split at e
  · rename_i hs
    cases e
    exact ⟨_, _, any_dp ok x v hx, any_dp ok y u hy, hs.1, hs.2, k.val ok rfl⟩
  · cases e
end CC
set_option maxHeartbeats 4000000
/-! What the top has left: further facts by tests of one's own. -/
namespace CC
open PySem PySem.Spec L2
open PyProof.Rows hiding St
abbrev Tst := PySem.W.Frag → Bool
def obsX (mo : List Tst) (fa : List He.Fa) (fn : List He.DefD) (K : PySem.W.Frag) : Bool × He.AlD := (mo.all fun f => f K, He.obsD fa fn K)
def SaysX (mo : List Tst) (fa : List He.Fa) (fn : List He.DefD) (K : PySem.W.Frag) : Prop := obsX mo fa fn K = (true, He.valD fn)
def obsXG (n : Nat) (mo : List Tst) (fa : List He.Fa) (fn : List He.DefD) (g : Addr → Option Obj) : Bool × He.AlD := obsX mo fa fn (He.frG g (He.asD g n))
def hookX (n : Nat) (mo : List Tst) (fa : List He.Fa) (fn : List He.DefD) : PySem.W.Hook where
  α := Bool × He.AlD
  obs := fun s => obsXG n mo fa fn s.heap.get?
  val := fun _ => (true, He.valD fn)
  says := fun _ h => ∃ K : PySem.W.Frag, K.In h ∧ SaysX mo fa fn K
  of := fun _ _ e => ⟨_, He.frG_in, e⟩
  keeps := fun _ _ _ ⟨K, hK, c⟩ k => ⟨K, PySem.W.Frag.In.keeps hK k, c⟩
theorem obsXG_eq {n : Nat} {mo : List Tst} {fa : List He.Fa} {fn : List He.DefD} {g : Addr → Option Obj} {s : Shared} (h : ∀ a, g a = s.heap.get? a) : obsXG n mo fa fn g = (hookX n mo fa fn).obs s := by
  have e : g = s.heap.get? := funext h
  rw [e] <;> rfl
theorem SaysX.d {mo : List Tst} {fa : List He.Fa} {fn : List He.DefD} {K : PySem.W.Frag} (c : SaysX mo fa fn K) : He.SaysD fa fn K := congrArg (fun z : Bool × He.AlD => z.2) c
theorem SaysX.t {mo : List Tst} {fa : List He.Fa} {fn : List He.DefD} {K : PySem.W.Frag} (c : SaysX mo fa fn K) (i : Nat) {f : Tst} (h : mo[i]? = some f := by rfl) : f K = true := by
  have c1 : (mo.all fun f => f K) = true := congrArg (fun z : Bool × He.AlD => z.1) c
  exact List.all_eq_true.mp c1 f (List.mem_of_getElem? h)
/-- isinstance of an exception of x by the class y, by a built-in type -/
def tKit (x y : Str) (b : Bool) : Tst := fun K => decide (PySem.W.kitOne K (.ref (He.ga K x)) (.ref (He.ga K y)) = some b)
def tKitT (x : Str) (T : String) (b : Bool) : Tst := fun K => decide (PySem.W.kitOne K (.ref (He.ga K x)) (.type T) = some b)
/-- an exception class whose instances may be asked -/
def tExcC (x : Str) : Tst := fun K => decide (PySem.W.findIn K (.ref (He.ga K x)) "__getattribute__" = some (some (.builtin "BaseException.__getattribute__"))) && (decide (PySem.W.findIn K (.ref (He.ga K x)) "__getattr__" = some none) && (decide (PySem.W.subIn K (.ref (He.ga K x)) (.type "BaseException") = some true) && (PySem.W.hasDictIn K (He.ga K x) &&
  (decide (PySem.W.findIn K (.ref (He.ga K x)) "__class__" = some (some (.builtin "object.__class__"))) && (decide (PySem.W.specialIn K (.builtin "object.__class__") "__get__" = some (some (.builtin "getset_descriptor.__get__"))) && (decide (PySem.W.takesIn K (.builtin "object.__class__") = some true) && decide (PySem.W.mroIn K (He.ga K x) (.type "object") = some true)))))))
theorem tExcC_ok {K : PySem.W.Frag} {x : Str} (h : tExcC x K = true) : ExcC K (He.ga K x) := by
  unfold tExcC at h
  simp only [Bool.and_eq_true, decide_eq_true_eq] at h
  obtain ⟨h1, h2, h3, h4, h5, h6, h7, h8⟩ := h
  exact ⟨h1, h2, h3, h4, h5, h6, h7, h8⟩
end CC
set_option maxHeartbeats 4000000
/-! try .. except C as e: the suite asks e. -/
namespace CC
open PySem PySem.Spec L2
open PyProof.Rows hiding St
variable {α β γ δ τ υ ω ρ ε κ : Type}
section
variable {S : Stc} {Γ Δ : Ctx} {pos : Pos} {st : Stmt} {rest A B : List Stmt}
/-- isinstance(e, C) -/
theorem jn_isE {x c : Str} {p p1 pc : Pos} {a C D : Addr} {b : Bool} (i : Nat) (hex : S.ex = some (a, C)) (hE : ExcC S.K C) (hk : PySem.W.kitOne S.K (.ref C) (.ref D) = some b) (hm : S.mg "isinstance" = none) (hmc : S.mg c = some (.ref D)) (hi : Γ[i]? = some (some (sh (valS (.ref a)))) := by rfl) (hN : S.N[i]? = some x := by rfl) (hv : Vis S.sc x := by first | exact Or.inl rfl | exact Or.inr (Or.inl rfl) | exact Or.inr (Or.inr rfl)) (hg : GlS S "isinstance" := by rfl) (hgc : GlS S c := by rfl)
    (hd : (x == ("__debug__" : Str)) = false := by decide) (hcd : (x == ("__classdict__" : Str)) = false := by decide) (hdb : (c == ("__debug__" : Str)) = false := by decide)
    (hs : ∀ env, starEach [.Name x p1, .Name c pc] env = [(false, eval (.Name x p1) env), (false, eval (.Name c pc) env)] := by intro _; rfl) (hs2 : ∀ env, starEach [Expr.Name c pc] env = [(false, eval (.Name c pc) env)] := by intro _; rfl) :
    JN S (.Call (.Name "isinstance" p) [.Name x p1, .Name c pc] [] pos) Γ (some b) fun z => sh (boolS z) := fun σ W F sta z hz Q kq => by
  cases hz
  obtain ⟨v, h1, h2⟩ := sta.get hi
  cases h2
  refine ⟨tCB (rIsE S.K C a) (tCons (tVar i) (tCons (tC (.ref D)) tNil)), fun X hX => ?_, ?_⟩
  · obtain ⟨X', oe, pn, rfl, hz, hf⟩ := hX.ex a C hex
    have hc : CallR (X'.suite a ((a, oe) :: pn)) (.builtin "isinstance") (rIsE S.K C a) := by
      have e : (X'.suite a ((a, oe) :: pn)).K = S.K := hX.K
      have := call_isE (X := X') (a := a) (pn := pn) (by rw [show X'.K = S.K from e]; exact hE) hz hf
      rw [show X'.K = S.K from e] at this
      exact this
    exact pe_callB hc (hg.gl hX) (mgS hm hX) (by decide +kernel) (pa_cons (pe_var (by rw [hX.N]; exact hN) (visS hv hX) hd hcd) (pa_cons (pe_glob (v := .ref D) (hgc.gl hX) (mgS hmc hX) rfl hdb) pa_nil (hs2 _)) ((hs _).trans (by rw [hs2]))) (by decide) (by decide) ((hs _).trans (by rw [hs2])) (by rw [hs2]; rfl)
  · exact ⟨.ref a, h1, .ref D, .ref D, b, rfl, fun u r => r, hk, kq.val sta.ok rfl⟩
/-- isinstance(e, T), T built in -/
theorem jn_isET {x c : Str} {T : String} {p p1 pc : Pos} {a C : Addr} {b : Bool} (i : Nat) (hex : S.ex = some (a, C)) (hE : ExcC S.K C) (hk : PySem.W.kitOne S.K (.ref C) (.type T) = some b) (hm : S.mg "isinstance" = none) (hmc : S.mg c = none) (hi : Γ[i]? = some (some (sh (valS (.ref a)))) := by rfl) (hN : S.N[i]? = some x := by rfl) (hv : Vis S.sc x := by first | exact Or.inl rfl | exact Or.inr (Or.inl rfl) | exact Or.inr (Or.inr rfl)) (hg : GlS S "isinstance" := by rfl) (hgc : GlS S c := by rfl)
    (hvc : bootBuiltins c = some (.type T) := by decide +kernel) (hn : c ≠ "__name__" := by decide)
    (hd : (x == ("__debug__" : Str)) = false := by decide) (hcd : (x == ("__classdict__" : Str)) = false := by decide) (hdb : (c == ("__debug__" : Str)) = false := by decide)
    (hs : ∀ env, starEach [.Name x p1, .Name c pc] env = [(false, eval (.Name x p1) env), (false, eval (.Name c pc) env)] := by intro _; rfl) (hs2 : ∀ env, starEach [Expr.Name c pc] env = [(false, eval (.Name c pc) env)] := by intro _; rfl) :
    JN S (.Call (.Name "isinstance" p) [.Name x p1, .Name c pc] [] pos) Γ (some b) fun z => sh (boolS z) := fun σ W F sta z hz Q kq => by
  cases hz
  obtain ⟨v, h1, h2⟩ := sta.get hi
  cases h2
  refine ⟨tCB (rIsE S.K C a) (tCons (tVar i) (tCons (tC (.ty T)) tNil)), fun X hX => ?_, ?_⟩
  · obtain ⟨X', oe, pn, rfl, hz, hf⟩ := hX.ex a C hex
    have hc : CallR (X'.suite a ((a, oe) :: pn)) (.builtin "isinstance") (rIsE S.K C a) := by
      have e : (X'.suite a ((a, oe) :: pn)).K = S.K := hX.K
      have := call_isE (X := X') (a := a) (pn := pn) (by rw [show X'.K = S.K from e]; exact hE) hz hf
      rw [show X'.K = S.K from e] at this
      exact this
    exact pe_callB hc (hg.gl hX) (mgS hm hX) (by decide +kernel) (pa_cons (pe_var (by rw [hX.N]; exact hN) (visS hv hX) hd hcd) (pa_cons (pe_bltn (v := .ty T) (hgc.gl hX) (mgS hmc hX) hvc rfl hn hdb) pa_nil (hs2 _)) ((hs _).trans (by rw [hs2]))) (by decide) (by decide) ((hs _).trans (by rw [hs2])) (by rw [hs2]; rfl)
  · exact ⟨.ref a, h1, .ty T, .type T, b, rfl, fun u r => r, hk, kq.val sta.ok rfl⟩
end
section
variable {S : Stc} {Γ Δ : Ctx} {pos : Pos} {st : Stmt} {rest A B : List Stmt}
/-- the context of a suite that has its exception by name -/
abbrev Stc.suiE (S : Stc) (a C : Addr) : Stc := { S with W := fun _ _ _ _ => False, calm := false, top := false, ex := some (a, C) }
theorem Stc.In.suiE {X : Cx} (h : S.In X) {a C : Addr} {oe : Obj} {pn : List (Addr × Obj)} (hz : Zc (.ref C) none oe) (hf : ∃ vs, oe.data = .fields vs) : (S.suiE a C).In (X.suite a ((a, oe) :: pn)) :=
  ⟨h.prog, h.w, h.K, h.mg, h.base, h.N, h.sc, h.fn, rfl, nofun, h.un, PassesOwn.never, takes_none, nofun, fun a' C' z => by
    have z' : some (a, C) = some (a', C') := z
    cases z'
    exact ⟨X, oe, pn, rfl, hz, hf⟩⟩
/-- try .. except C as n: the suite returns -/
theorem js_tryAs {x n : Str} {c : Value} {np pos' : Pos} {b₀ : Stmt} {mb : Option (Res ε ω)} {ms : ε → Option ω} {Xp : ε → XP} {D : ω → Kd} (Γx : Ctx) (i : Nat) (Cu : ε → Addr) (nd : S.N.Nodup) (hb : ∀ wx : WX, JB { S with W := wx } B Γ mb (TD D Γx Xp)) (hX : ∀ u, Xp u = clsX (Cu u)) (hs : ∀ u a, JB (S.suiE a (Cu u)) (b₀ :: A) (Γx.set i (some (sh (valS (.ref a))))) (ms u) D) (hm : S.mg x = some c) (hx : ∀ u, PySem.W.exmOne S.K (.ref (Cu u)) c = some true)
    (hrt : ∀ o, ∃ Γ' R, D o = .rt Γ' R) (hi : (Γx[i]?).isSome = true := by rfl) (hp : (S.prot.contains i) = false := by rfl) (hN : S.N[i]? = some n := by rfl) (hln : S.sc.names.lookup n = some .local := by rfl) (hg : GlS S x := by rfl) (hdb : (x == ("__debug__" : Str)) = false := by decide) (htop : S.top = true := by rfl) (hex : S.ex = none := by rfl) : JS S (.Try B [.ExceptHandler (some (.Name x np)) (some n) (b₀ :: A) pos'] [] [] pos) Γ (tryM mb ms) D := fun σ W F sta z hz E k => by
  obtain ⟨r, h1, h2⟩ := run1 hz
  refine ⟨fun D σ H => tbOf { S with W := wAs S.K c i (fun a cls d D σ H => ∃ C, cls = .ref C ∧ d = none ∧ tbOf (S.suiE a C) (b₀ :: A) D σ H) S.W D } B D σ H, fun X hX' => ?_, ?_⟩
  · obtain ⟨t1, t2⟩ := hX'.top htop
    have := ps_try_as (pos := pos) (pos' := pos') (np := np) (i := i) (n := n) t1 t2 (by rw [hX'.N]; exact nd) (by rw [hX'.N]; exact hN) (show X.env.scope.names.lookup n = some .local by rw [hX'.sc]; exact hln) (c := c) (x := x) (b₀ := b₀) (suite := A) (body := B) (ts := fun a cls d D σ H => ∃ C, cls = .ref C ∧ d = none ∧ tbOf (S.suiE a C) (b₀ :: A) D σ H) (tb := fun W => tbOf { S with W := W } B) ⟨hg.gl hX', hdb, .inl (mgS hm hX')⟩ hX'.tk (fun W pn xe tk pass => pbO (hX'.tr hex tk pass)) (fun a oe cls d pn zc hf => ⟨fun pins s σ H D I ⟨C, e1, e2, q⟩ => by
        subst e1 e2
        exact (pbO (hX'.suiE zc hf)).run pins s σ H D I q⟩)
    rw [hX'.K] at this
    exact this
  · refine hb _ σ W F sta r h1 E ?_
    cases r with
    | ok o =>
      cases h2
      show Post _ S.prot σ W F E (D z)
      obtain ⟨Γ', R, hq⟩ := hrt z
      rw [hq] at k ⊢
      exact k
    | er u =>
      intro c' d σ' W' F' kp stp sa hpx
      rw [hX] at hpx
      obtain ⟨rfl, rfl⟩ := hpx
      refine ⟨true, hx u, fun _ a ha => ⟨Cu u, rfl, rfl, ?_⟩, fun q => nomatch q⟩
      have hlt : i < Γx.length := by
        cases h : Γx[i]? with
        | none => rw [h] at hi; cases hi
        | some o => exact (List.getElem?_eq_some_iff.mp h).1
      obtain ⟨F3, s4, sub⟩ := sa.put (o := sh (valS (.ref a))) (v := .ref a) (F1 := []) hlt ⟨rfl, rfl⟩ (by rw [List.append_nil]; exact sa.fp)
      refine hs u a _ W' F3 s4 z h2 _ ?_
      have k' := k.before (σ1 := σ'.set i (some (.ref a))) (kp.trans (Keep.set (ncon hp))) (stp.perm fun b hb => by simpa using sub b hb)
      obtain ⟨Γ', R, hq⟩ := hrt z
      rw [hq] at k' ⊢
      exact k'
end
/-! ### f(k = v, ..), f may raise -/
section
variable {X : Cx} {CX : CXT} {k n : Nat} {f : Addr} {fd : FuncData} {ps ks : List Str} {sp : Sp} {E : L2.St → XK} {x : Str} {p pos : Pos} {kws : List Keyword} {t tk : TA} {g : List Value → List Value → List Value} {gV : List V → List V → List V}
theorem run_fnNS {pins : List (Addr × Obj)} {σ : L2.St} {H : Hp} {s : Shared} {Q : VK} {us ws : List Value} {vs zs : List V} (F : FnOk X.prog X.w X.K X.mg X.base CX k f fd ps sp) (hr : Room k X.A) (hb : KBn X.K fd ps n ks g gV) (hx : PassesAt CX X σ (E σ))
    (I : Inv X pins σ H s) (r : Vals vs us) (rz : Vals zs ws) (l1 : vs.length = n) (l2 : zs.length = ks.length) (h : sp (gV vs zs) H Q (E σ)) : wpAny (model X.prog X.w) X.A (call (.ref f) us (ks.zip ws)) (EP X pins σ Q) X.xe s := by
  have r2 := hb.rel r rz
  refine wpAny_call (codeAny_mono (F.run X.A X.stack s H ⟨us, ks.zip ws⟩ (g us ws) (gV vs zs) Q (E σ) hr I.env0 (hb.to s us ws I.kIn (r.length.symm.trans l1) (rz.length.symm.trans l2)) r2 h) fun r s' hq => ?_)
  cases r with
  | error e => exact hx pins H s e s' I hq
  | ok fl =>
    cases fl with
    | ret u => exact I.after hq
    | next => exact False.elim hq
    | brk => exact False.elim hq
    | cont => exact False.elim hq
def tCall0S (m : Nat) (sp : Sp) (gV : List V → List V → List V) (E : L2.St → XK) (tk : TA) : TE := fun σ H Q => tk σ H fun zs H2 => zs.length = m ∧ sp (gV [] zs) H2 Q (E σ)
theorem pe_call0S (F : FnOk X.prog X.w X.K X.mg X.base CX k f fd ps sp) (hr : Room k X.A) (hg : Gl X x) (hm : X.mg x = some (.ref f)) (hk : PySem.W.keepIn X.K (.ref f) = true) (hb : KBn X.K fd ps 0 ks g gV) (hx : ∀ σ, PassesAt CX X σ (E σ)) (hkw : PK X kws tk)
    (hall : (backToKw pos (keywordEach kws X.env)).all (·.1.isSome) = true) (hks : (backToKw pos (keywordEach kws X.env)).filterMap (·.1) = ks) (hdb : (x == ("__debug__" : Str)) = false)
    (hpl : ((backTo pos (starEach [] X.env)).any (·.1) || (backToKw pos (keywordEach kws X.env)).any (·.1.isNone)) = false) : PE X (.Call (.Name x p) [] kws pos) (tCall0S ks.length sp gV E tk) := by
  refine ⟨fun pins s σ H Q I h => ?_⟩
  refine wpAny_Call_Name_kw (ld_glob I hg hm ?_ hdb)
  refine PySem.W.callWith_KW0 (h₀ := X.base) I.ok.mod.kin hk hall ?_ hpl
  refine thn (hkw.run pos pins s σ H _ I h) fun ws s2 ⟨zs, H2, I2, rz, l2, q2⟩ => ⟨I2.kIn, ?_⟩
  rw [hks]
  exact run_fnNS (us := []) (vs := []) F hr hb (hx σ) I2 .nil rz rfl l2 q2
end
section
variable {S : Stc} {Γ Δ : Ctx} {pos : Pos}
theorem jx_call0N {x : Str} {p : Pos} {f : Addr} {fd : FuncData} {ps ks : List Str} {k : Nat} {G : γ → List SP} {Gk : β → List SP} {fM : γ → Option (Res ε ρ)} {R : ρ → OP} {Xp : ε → XP} {mk : Option β} {kws : List Keyword} {gv : List Value → List Value → List Value} {gV : List V → List V → List V} (g : β → γ) (Fn : FnOk S.P S.w S.K S.mg S.base (L2.CX S.P S.w) k f fd ps (spX G fM R Xp)) (hm : S.mg x = some (.ref f)) (kp : PySem.W.keepIn S.K (.ref f) = true) (hb : KBn S.K fd ps 0 ks gv gV)
    (hG : ∀ z B zs, Hets B zs (Gk z) → Hets B (gV [] zs) (G (g z))) (hlk : ∀ z, (Gk z).length = ks.length) (hk : k ≤ S.k) (hkw : JK S kws Γ mk Gk) (hg : GlS S x := by rfl) (hdb : (x == ("__debug__" : Str)) = false := by decide)
    (hall : ∀ env, (backToKw pos (keywordEach kws env)).all (·.1.isSome) = true := by intro _; rfl) (hks : ∀ env, (backToKw pos (keywordEach kws env)).filterMap (·.1) = ks := by intro _; rfl)
    (hpl : ∀ env, ((backTo pos (starEach [] env)).any (·.1) || (backToKw pos (keywordEach kws env)).any (·.1.isNone)) = false := by intro _; rfl) (hcm : S.calm = true := by rfl) : JNX S (.Call (.Name x p) [] kws pos) Γ (mk.bind fun z => fM (g z)) R Xp := fun σ W F st z hz Q kk => by
  obtain ⟨w, h2, h3⟩ := run1 hz
  refine ⟨tCall0S ks.length (spX G fM R Xp) gV (WE S.W) (tkOf S kws), fun X hX => pe_call0S (fnokS Fn hX) ((hX.room hcm).mono hk) (hg.gl hX) (mgS hm hX) (by rw [hX.K]; exact kp) (kbnS hX hb) (fun σ => by rw [← hX.prog, ← hX.w]; exact passAt hX.tk σ) (pkO hX) (hall _) (hks _) hdb (hpl _), ?_⟩
  refine hkw σ W F st w h2 _ fun zs W2 e2 hz => ⟨hz.len.trans (hlk w), ?_⟩
  refine ⟨g w, W2, z, rfl, e2.ok, hG w _ zs hz, h3, ?_⟩
  cases z with
  | ok v => exact Got.ext kk e2
  | er u => exact fun c d W3 e3 hp => kk c d W3 (e2.trans e3) hp
end
end CC
set_option maxHeartbeats 4000000
/-! Exceptions, as printed: outcomes told by TD; isinstance of a handled exception by several classes. -/
namespace CC
open PySem PySem.Spec L2
open PyProof.Rows hiding St
variable {α β γ δ τ υ ω ρ ε κ : Type}
theorem rx_td {Δ Δx : Ctx} {R : α → OP} {Xp : ε → XP} : RX Δ Δx R Xp = TD (fun a => .rt Δ (R a)) Δx Xp := funext fun r => by cases r <;> rfl
theorem td_nonx {D : ω → Kd} {Γx : Ctx} {Xp : ε → XP} (h : ∀ x, NoNx (D x)) : ∀ r, NoNx (TD D Γx Xp r)
  | .ok x => h x
  | .er _ => trivial
theorem td_ends {D : ω → Kd} {Γx : Ctx} {Xp : ε → XP} (h : ∀ x, NoNx (D x) ∧ (∀ Δ, D x ≠ .bk Δ) ∧ ∀ Δ, D x ≠ .ct Δ) : ∀ r, NoNx (TD D Γx Xp r) ∧ (∀ Δ, TD D Γx Xp r ≠ .bk Δ) ∧ ∀ Δ, TD D Γx Xp r ≠ .ct Δ
  | .ok x => h x
  | .er _ => ⟨trivial, nofun, nofun⟩
section
variable {S : Stc} {Γ Δ Δx : Ctx} {a b c e : Expr} {es : List Expr} {pos : Pos} {st : Stmt} {rest A B : List Stmt}
/-- an if whose way is not claimed -/
theorem jb_ifN {mc : Option Bool} {mr : Option ω} {D : ω → Kd} (hc : JT S c Γ mc) (hr : JB S rest Γ mr D) : JB S (.If c A [] pos :: rest) Γ (mc.bind fun b => bif b then none else mr) D := fun σ W F sta z hz E k => by
  obtain ⟨x, h1, h2⟩ := run1 hz
  cases x with
  | true => cases h2
  | false =>
    refine ⟨tSeq (tIfS (ttOf S c) tNever tNext) (tbOf S rest), fun X hX => pss_cons (ps_if (ptO hX) pss_never pss_nil) (pbO hX), ?_⟩
    refine hc σ W F sta false h1 _ fun W' ext => ?_
    have stp : Stp W F W' F := by have := ext.stp (F := F) (Fv := []) (by simp); rwa [List.append_nil] at this
    exact iteF (hr σ W' F (sta.ext ext) z h2 E (k.before Keep.refl stp))
/-- nothing is claimed -/
theorem jb_none {sts : List Stmt} {D : ω → Kd} : JB S sts Γ (none : Option ω) D := fun _ _ _ _ _ h => nomatch h
theorem jb_retT {m : Option (Res ε α)} {R : α → OP} {Xp : ε → XP} (w : Weak Γ Δ) (wx : Weak Γ Δx) (h : JNX S e Γ m R Xp) : JB S (.Return (some e) pos :: rest) Γ m (TD (fun y => .rt Δ (R y)) Δx Xp) := rx_td ▸ jb_retX w wx h
theorem jx_any {E : α → SP} {f : α → PV} {m : Option (Res ε α)} {Xp : ε → XP} (ao : AnyOf E f) (h : JNX S e Γ m (fun x => sh (E x)) Xp) : JNX S e Γ (m.bind fun r => some (mapX f r)) (fun y => sh (anyS y)) Xp := fun σ W F st z hz Q k => by
  obtain ⟨r, h1, h2⟩ := run1 hz
  cases h2
  refine h σ W F st r h1 Q ?_
  cases r with
  | ok x => exact fun v W' Fv e fr fp rr => k v W' Fv e fr fp ⟨rr.1, ao.go W'.B x v rr.2⟩
  | er u => exact k
/-- a pure outcome among those that may raise -/
theorem jb_okT {sts : List Stmt} {m : Option ω} {D : ω → Kd} {Γx : Ctx} {Xp : ε → XP} (h : JB S sts Γ m D) : JB S sts Γ (m.bind fun x => some (Res.ok x)) (TD D Γx Xp) := JB.map h fun _ => rfl
end
theorem fnd_pureT {P : Program} {w : World} {K : PySem.W.Frag} {mg : Str → Option Value} {base : Heap} {x qual : Str} {st : Stmt} {f : Addr} {fd : FuncData} {dvs : List V} {kwd : List (Str × V)} {N ps : List Str} {k : Nat} {G : α → List SP} {fM : α → Option (Res ε ρ)} {R : ρ → OP} {Xp : ε → XP} {Δ : Ctx} (F : FunD K x qual (defArgs st) (defBody st) (defScope st) dvs kwd f fd) (Sc : FnScope N ps (defScope st)) (hG : ∀ a, (G a).length = ps.length) (hn : ps.length ≤ N.length)
    (body : ∀ a (wx : WX), JB { stcOf P w K mg base N (defScope st) k [] with W := wx } (defBody st) (shC (G a) ++ nonC (N.length - ps.length)) (fM a) (TD (fun y => .rt Δ (R y)) Δ Xp)) : FnOk P w K mg base (L2.CX P w) (k + 1) f fd ps (spX G fM R Xp) :=
  fnd_pureX (Δ := Δ) F Sc hG hn fun a wx => rx_td ▸ body a wx
/-! ### isinstance(e, (C, D)) in a suite -/
def tConsts : List V → TA
  | [] => tNil
  | c :: cs => tCons (tC c) (tConsts cs)
def JCl (S : Stc) (es : List Expr) (cs : List V) (us : List Value) : Prop := (∀ X, S.In X → PA X es (tConsts cs)) ∧ Paired ClsV cs us
theorem jcl_nil {S : Stc} : JCl S [] [] [] := ⟨fun _ _ => pa_nil, .nil⟩
theorem jcl_cons {S : Stc} {c : Str} {pc : Pos} {es : List Expr} {cs : List V} {us : List Value} {D : Addr} (hm : S.mg c = some (.ref D)) (h : JCl S es cs us) (hg : GlS S c := by rfl) (hdb : (c == ("__debug__" : Str)) = false := by decide) (hs : ∀ env, starEach (.Name c pc :: es) env = (false, eval (.Name c pc) env) :: starEach es env := by intro _; rfl) : JCl S (.Name c pc :: es) (.ref D :: cs) (.ref D :: us) :=
  ⟨fun X hX => pa_cons (pe_glob (v := .ref D) (hg.gl hX) (mgS hm hX) rfl hdb) (h.1 X hX) (hs _), .cons (.own D) h.2⟩
/-- isinstance(e, (c, d)), e the exception that the suite holds -/
def rIsET (K : PySem.W.Frag) (D a : Addr) : List V → Hp → VK → Prop := fun xs H Q => ∃ (tp : Addr) (cs : List V) (us : List Value) (b : Bool), xs = [.ref a, .ref tp] ∧ H tp = some (.tup cs) ∧ Paired ClsV cs us ∧ PySem.W.kitAny K (.ref D) us = some b ∧ Q (.bl b) H
theorem call_isET {X : Cx} {a D : Addr} {oe : Obj} {pn : List (Addr × Obj)} (C : ExcC X.K D) (hz : Zc (.ref D) none oe) (hf : ∃ vs, oe.data = .fields vs) : CallR (X.suite a ((a, oe) :: pn)) (.builtin "isinstance") (rIsET X.K D a) := by
  intro pins s σ H xs us Q I r h
  obtain ⟨tp, cs, ws, b, rfl, hT, k, e, q⟩ := h
  obtain ⟨u1, u2, rfl, r1, r2⟩ := vals2 r
  cases (show u1 = Value.ref a from r1)
  cases (show u2 = Value.ref tp from r2)
  obtain ⟨hget, _⟩ := I.pin (a, oe) (List.mem_append.mpr (.inl List.mem_cons_self))
  obtain ⟨vs, hv⟩ := hf
  have J : PySem.W.InstAt s.heap a oe D none := by
    obtain ⟨oc, od, oda, osl⟩ := oe
    obtain ⟨h1, h2⟩ := hz
    dsimp only at h1 h2 hv
    subst h1 h2 hv
    exact ⟨hget, rfl, rfl, trivial⟩
  obtain ⟨_, its, rv, o, h1, h2, n, h3⟩ := (show ObjOk X.prog X.w H s.heap tp (.tup cs) from I.hok tp _ hT)
  have e3 := ClsV.all k rv
  subst e3
  obtain ⟨oc, od, dt, sl⟩ := o
  simp only at h2 h3
  subst h2 h3
  exact PySem.W.kia_tup (PySem.W.handS_kitx_exc C.hg C.hk C.hs C.hd C.ha C.hn C.ht C.hm) I.kIn J h1 e (fun z => nomatch z) fun tk => ⟨.bl b, H, I.kept (t' := tk) fun _ _ z => z, rfl, q⟩
section
variable {S : Stc} {Γ Δ : Ctx} {pos : Pos}
theorem jn_isETup {x : Str} {es : List Expr} {kt : Nat} {p p1 pt : Pos} {a C : Addr} {b : Bool} {cs : List V} {us : List Value} (i : Nat) (hex : S.ex = some (a, C)) (hE : ExcC S.K C) (hk : PySem.W.kitAny S.K (.ref C) us = some b) (hcl : JCl S es cs us) (hm : S.mg "isinstance" = none) (hi : Γ[i]? = some (some (sh (valS (.ref a)))) := by rfl) (hl : cs.length ≤ 1000 := by exact Nat.le_of_ble_eq_true rfl) (hN : S.N[i]? = some x := by rfl) (hv : Vis S.sc x := by first | exact Or.inl rfl | exact Or.inr (Or.inl rfl) | exact Or.inr (Or.inr rfl)) (hg : GlS S "isinstance" := by rfl)
    (hd : (x == ("__debug__" : Str)) = false := by decide) (hcd : (x == ("__classdict__" : Str)) = false := by decide)
    (hs : ∀ env, starEach [.Name x p1, .Tuple es kt pt] env = [(false, eval (.Name x p1) env), (false, eval (.Tuple es kt pt) env)] := by intro _; rfl) (hs2 : ∀ env, starEach [Expr.Tuple es kt pt] env = [(false, eval (.Tuple es kt pt) env)] := by intro _; rfl) :
    JN S (.Call (.Name "isinstance" p) [.Name x p1, .Tuple es kt pt] [] pos) Γ (some b) fun z => sh (boolS z) := fun σ W F sta z hz Q kq => by
  cases hz
  obtain ⟨v, h1, h2⟩ := sta.get hi
  cases h2
  refine ⟨tCB (rIsET S.K C a) (tCons (tVar i) (tCons (tTup (tConsts cs)) tNil)), fun X hX => ?_, ?_⟩
  · obtain ⟨X', oe, pn, rfl, hz, hf⟩ := hX.ex a C hex
    have hc : CallR (X'.suite a ((a, oe) :: pn)) (.builtin "isinstance") (rIsET S.K C a) := by
      have e : (X'.suite a ((a, oe) :: pn)).K = S.K := hX.K
      have := call_isET (X := X') (a := a) (pn := pn) (by rw [show X'.K = S.K from e]; exact hE) hz hf
      rw [show X'.K = S.K from e] at this
      exact this
    exact pe_callB hc (hg.gl hX) (mgS hm hX) (by decide +kernel) (pa_cons (pe_var (by rw [hX.N]; exact hN) (visS hv hX) hd hcd) (pa_cons (pe_tup (hcl.1 _ hX)) pa_nil (hs2 _)) ((hs _).trans (by rw [hs2]))) (by decide) (by decide) ((hs _).trans (by rw [hs2])) (by rw [hs2]; rfl)
  · refine ⟨.ref a, h1, ?_⟩
    have go : ∀ (cs : List V) (H : Hp) (Q : List V → Hp → Prop), Q cs H → tConsts cs σ H Q := by
      intro cs
      induction cs with
      | nil => intro H Q q; exact q
      | cons c cs ih => intro H Q q; exact ih H _ q
    refine go cs W.H _ ⟨Nat.le_trans hl (by decide), fun q hq => ?_⟩
    have e2 := Ext.newB sta.ok (o := .tup cs) hq
    refine ⟨q, cs, us, b, rfl, upd_same, hcl.2, hk, ?_⟩
    exact (kq.ext (W1 := ⟨upd W.H q (.tup cs), upd W.B q (.tup cs)⟩) e2).val e2.ok rfl
end
end CC
set_option maxHeartbeats 1000000
/-! Plain laws of the mirrors' words: when they give something, and what. -/
namespace CC
open PySem PySem.Spec L2
open PyProof.Rows hiding St
variable {α β γ δ τ υ ω ρ : Type}
def Ok (m : Option α) (P : α → Prop) : Prop := ∃ x, m = some x ∧ P x
theorem Ok.one {P : α → Prop} {x : α} (h : P x) : Ok (some x) P := ⟨x, rfl, h⟩
theorem Ok.bind {m : Option α} {f : α → Option β} {P : α → Prop} {Q : β → Prop} (h : Ok m P) (k : ∀ x, P x → Ok (f x) Q) : Ok (m.bind f) Q := by
  obtain ⟨x, rfl, hx⟩ := h
  exact k x hx
theorem Ok.mono {m : Option α} {P Q : α → Prop} (h : Ok m P) (k : ∀ x, P x → Q x) : Ok m Q := by
  obtain ⟨x, rfl, hx⟩ := h
  exact ⟨x, rfl, k x hx⟩
theorem Ok.eq {m : Option α} {x : α} (h : m = some x) : Ok m (· = x) := ⟨x, h, rfl⟩
theorem Ok.of_eq {m : Option α} {x : α} {P : α → Prop} (h : m = some x) (p : P x) : Ok m P := ⟨x, h, p⟩
theorem Ok.eq_some {m : Option α} {x : α} (h : Ok m (· = x)) : m = some x := by
  obtain ⟨y, e, rfl⟩ := h
  exact e
theorem Ok.bif {b : Bool} {m n : Option α} {P : α → Prop} (h : b = true → Ok m P) (k : b = false → Ok n P) : Ok (bif b then m else n) P := by
  cases b with
  | true => exact h rfl
  | false => exact k rfl
theorem bind_eta (m : Option (α × β)) : (m.bind fun r => some (r.1, r.2)) = m := by cases m <;> rfl
theorem bind_id (m : Option α) : (m.bind fun r => some r) = m := by cases m <;> rfl
theorem bassoc (m : Option α) (f : α → Option β) (g : β → Option γ) : (m.bind f).bind g = m.bind fun x => (f x).bind g := by cases m <;> rfl
theorem bif_bind (b : Bool) (m n : Option α) (f : α → Option β) : (bif b then m else n).bind f = bif b then m.bind f else n.bind f := by cases b <;> rfl
theorem run_eq {m : Option α} {f : α → Option β} {x : α} (h : m = some x) : m.bind f = f x := by rw [h]; rfl
/-! ### numbers -/
theorem mulO_l {x y : Int} (h1 : -(2 ^ 64) < x) (h2 : x < 2 ^ 64) : mulO x y = some (x * y) := by
  unfold mulO
  rw [if_pos (.inl ⟨h1, h2⟩)]
theorem mulO_r {x y : Int} (h1 : -(2 ^ 64) < y) (h2 : y < 2 ^ 64) : mulO x y = some (x * y) := by
  unfold mulO
  rw [if_pos (.inr ⟨h1, h2⟩)]
theorem divO_eq {x y : Int} (h1 : 0 < y) (h2 : y < 1073741824) : divO x y = some (x / y) := by
  unfold divO
  rw [if_pos ⟨h1, h2⟩]
theorem modO_eq {x y : Int} (h1 : 0 < y) : modO x y = some (x % y) := by
  unfold modO
  rw [if_pos h1]
theorem mod_lo (x : Int) {y : Int} (h : 0 < y) : 0 ≤ x % y := Int.emod_nonneg x (by omega)
theorem mod_hi (x : Int) {y : Int} (h : 0 < y) : x % y < y := Int.emod_lt_of_pos x h
/-! ### ranges -/
def rl (n : Nat) : List Int := (List.range n).map fun i : Nat => (i : Int)
theorem rl_len (n : Nat) : (rl n).length = n := by unfold rl; rw [List.length_map, List.length_range]
theorem rl_get {n k : Nat} (h : k < n) : (rl n)[k]? = some (k : Int) := by
  unfold rl
  rw [List.getElem?_map, List.getElem?_range h]
  rfl
theorem rl_mem {n : Nat} {x : Int} : x ∈ rl n ↔ ∃ k : Nat, k < n ∧ x = (k : Int) := by
  unfold rl
  rw [List.mem_map]
  constructor
  · rintro ⟨k, h, rfl⟩
    exact ⟨k, List.mem_range.mp h, rfl⟩
  · rintro ⟨k, h, rfl⟩
    exact ⟨k, List.mem_range.mpr h, rfl⟩
theorem rl_succ (n : Nat) : rl (n + 1) = rl n ++ [(n : Int)] := by
  unfold rl
  rw [List.range_succ, List.map_append]
  rfl
theorem rl_nodup (n : Nat) : (rl n).Nodup := by
  unfold rl
  refine (List.pairwise_map).mpr ?_
  exact List.Pairwise.imp (fun h e => h (by omega)) (List.nodup_range (n := n))
theorem rng_nat {n : Nat} (h : n ≤ LIM) : rng 0 (n : Int) = some (rl n) := by
  have hl : (LIM : Int) = 1000000 := rfl
  have h' : n ≤ 1000000 := h
  unfold rng rl
  rw [if_pos (by rw [hl]; omega)]
  rw [show ((n : Int) - 0).toNat = n by omega]
  congr 1
  exact List.map_congr_left fun i _ => by omega
theorem rng_int {z : Int} (h0 : 0 ≤ z) (h : z ≤ 1000000) : rng 0 z = some (rl z.toNat) := by
  have : rng 0 ((z.toNat : Nat) : Int) = some (rl z.toNat) := rng_nat (by show z.toNat ≤ 1000000; omega)
  rw [← this]
  congr 1
  omega
/-! ### looks and stores -/
theorem ixN_nat {n k : Nat} (h : k < n) : ixN n (k : Int) = some k := by
  unfold ixN
  rw [if_pos (by omega), if_pos (by omega), Int.toNat_natCast]
theorem ixN_int {n : Nat} {z : Int} (h0 : 0 ≤ z) (h : z < n) : ixN n z = some z.toNat := by
  unfold ixN
  rw [if_pos h0, if_pos h]
theorem atI_nat {xs : List α} {k : Nat} (h : k < xs.length) : atI xs (k : Int) = some xs[k] := by
  unfold atI
  rw [ixN_nat h]
  exact List.getElem?_eq_getElem h
theorem atI_nat? {xs : List α} {k : Nat} {x : α} (h : xs[k]? = some x) : atI xs (k : Int) = some x := by
  obtain ⟨h1, rfl⟩ := List.getElem?_eq_some_iff.mp h
  exact atI_nat h1
theorem atI_ok {xs : List α} {z : Int} {P : α → Prop} (h0 : 0 ≤ z) (h : z < xs.length) (hP : ∀ (k : Nat) x, xs[k]? = some x → (k : Int) = z → P x) : Ok (atI xs z) P := by
  obtain ⟨k, rfl⟩ := Int.eq_ofNat_of_zero_le h0
  have hk : k < xs.length := by omega
  exact ⟨xs[k], atI_nat hk, hP k _ (List.getElem?_eq_getElem hk) rfl⟩
theorem atI_mem {xs : List α} {z : Int} (h0 : 0 ≤ z) (h : z < xs.length) : Ok (atI xs z) fun x => x ∈ xs := atI_ok h0 h fun k x e _ => List.mem_of_getElem? e
theorem setAt_nat {xs : List α} {k : Nat} {x : α} (h : k < xs.length) : setAt xs (k : Int) x = some (xs.set k x) := by
  unfold setAt
  rw [ixN_nat h]
  rfl
theorem appM_eq {xs : List α} {x : α} (h : xs.length < 1000000) : appM xs x = some (xs ++ [x]) := by
  unfold appM
  rw [if_pos (show xs.length < LIM from h)]
theorem catM_eq {xs ys : List α} (h : xs.length + ys.length ≤ 1000000) : catM xs ys = some (xs ++ ys) := by
  unfold catM
  rw [if_pos (show xs.length + ys.length ≤ LIM from h)]
theorem popAt_ok {xs : List α} {z : Int} (h0 : 0 ≤ z) (h : z < xs.length) (hl : xs.length ≤ 1000000) : Ok (popAt xs z) fun r => xs.Perm (r.1 :: r.2) ∧ r.2.length + 1 = xs.length := by
  obtain ⟨k, rfl⟩ := Int.eq_ofNat_of_zero_le h0
  have hk : k < xs.length := by omega
  have e : popAt xs (k : Int) = some (xs[k], xs.eraseIdx k) := by
    unfold popAt
    rw [if_pos ⟨h0, hl⟩, Int.toNat_natCast, List.getElem?_eq_getElem hk]
    rfl
  refine ⟨_, e, ?_, ?_⟩
  · show xs.Perm (xs[k] :: xs.eraseIdx k)
    rw [List.eraseIdx_eq_take_drop_succ]
    have e : xs = xs.take k ++ xs[k] :: xs.drop (k + 1) := by rw [← List.drop_eq_getElem_cons hk, List.take_append_drop]
    exact (List.Perm.of_eq e).trans List.perm_middle
  · show (xs.eraseIdx k).length + 1 = _
    rw [List.length_eraseIdx_of_lt hk]
    omega
/-! ### walks -/
inductive F2 {α β : Type} (P : α → β → Prop) : List α → List β → Prop
  | nil : F2 P [] []
  | cons {x y xs ys} : P x y → F2 P xs ys → F2 P (x :: xs) (y :: ys)
theorem mapGo_eq {f : α → Option β} {g : α → β} : ∀ {xs : List α}, (∀ x ∈ xs, f x = some (g x)) → mapGo f xs = some (xs.map g)
  | [], _ => rfl
  | x :: xs, h => by
    show (f x).bind _ = _
    rw [h x List.mem_cons_self, sb, mapGo_eq fun y hy => h y (List.mem_cons_of_mem _ hy)]
    rfl
theorem mapM_is {f : α → Option β} {g : α → β} {xs : List α} (hl : xs.length ≤ 1000000) (h : ∀ x ∈ xs, f x = some (g x)) : mapM f xs = some (xs.map g) := by
  unfold mapM
  rw [if_pos (show xs.length ≤ LIM from hl), mapGo_eq h]
theorem mapGo_ok {f : α → Option β} {P : α → β → Prop} : ∀ {xs : List α}, (∀ x ∈ xs, Ok (f x) (P x)) → Ok (mapGo f xs) fun ys => F2 P xs ys
  | [], _ => .one .nil
  | x :: xs, h => .bind (h x List.mem_cons_self) fun y hy => .bind (mapGo_ok fun z hz => h z (List.mem_cons_of_mem _ hz)) fun ys hys => .one (.cons hy hys)
theorem mapM_ok {f : α → Option β} {P : α → β → Prop} {xs : List α} (hl : xs.length ≤ 1000000) (h : ∀ x ∈ xs, Ok (f x) (P x)) : Ok (mapM f xs) fun ys => F2 P xs ys := by
  unfold mapM
  rw [if_pos (show xs.length ≤ LIM from hl)]
  exact mapGo_ok h
theorem f2_len {P : α → β → Prop} {xs : List α} {ys : List β} (h : F2 P xs ys) : ys.length = xs.length := by
  induction h with
  | nil => rfl
  | cons _ _ ih => rw [List.length_cons, List.length_cons, ih]
theorem f2_get {P : α → β → Prop} {xs : List α} {ys : List β} (h : F2 P xs ys) : ∀ {k : Nat} {y : β}, ys[k]? = some y → ∃ x, xs[k]? = some x ∧ P x y := by
  induction h with
  | nil => intro k y e; simp at e
  | @cons a b as bs hab _ ih =>
    intro k y e
    cases k with
    | zero =>
      have : b = y := by simpa using e
      subst this
      exact ⟨a, rfl, hab⟩
    | succ k =>
      obtain ⟨x, h1, h2⟩ := ih (k := k) (by simpa using e)
      exact ⟨x, by simpa using h1, h2⟩
theorem f2_mem {P : α → β → Prop} {xs : List α} {ys : List β} (h : F2 P xs ys) {y : β} (hy : y ∈ ys) : ∃ x, x ∈ xs ∧ P x y := by
  obtain ⟨k, hk⟩ := List.mem_iff_getElem?.mp hy
  obtain ⟨x, h1, h2⟩ := f2_get h hk
  exact ⟨x, List.mem_of_getElem? h1, h2⟩
/-- over a range -/
theorem mapR_ok {f : Int → Option β} {P : Nat → β → Prop} {n : Nat} (hl : n ≤ 1000000) (h : ∀ k < n, Ok (f (k : Int)) (P k)) : Ok (mapM f (rl n)) fun ys => ys.length = n ∧ ∀ k y, ys[k]? = some y → P k y := by
  refine (mapM_ok (P := fun x y => ∀ k : Nat, x = (k : Int) → P k y) (by rw [rl_len]; exact hl) fun x hx => ?_).mono fun ys hy => ⟨by rw [f2_len hy, rl_len], fun k y e => ?_⟩
  · obtain ⟨k, hk, rfl⟩ := rl_mem.mp hx
    refine (h k hk).mono fun y hy j e => ?_
    have : k = j := by omega
    exact this ▸ hy
  · obtain ⟨x, h1, h2⟩ := f2_get hy e
    have hk : k < n := by
      have := (List.getElem?_eq_some_iff.mp h1).1
      rwa [rl_len] at this
    rw [rl_get hk] at h1
    exact h2 k (Option.some.inj h1).symm
theorem compGo_eq {t : α → Option Bool} {f : α → Option β} {p : α → Bool} {g : α → β} : ∀ {xs : List α}, (∀ x ∈ xs, t x = some (p x)) → (∀ x ∈ xs, p x = true → f x = some (g x)) → compGo t f xs = some ((xs.filter p).map g)
  | [], _, _ => rfl
  | x :: xs, h, k => by
    have ih := compGo_eq (xs := xs) (fun y hy => h y (List.mem_cons_of_mem _ hy)) fun y hy => k y (List.mem_cons_of_mem _ hy)
    show (t x).bind _ = _
    rw [h x List.mem_cons_self, sb]
    cases hp : p x with
    | true =>
      show (f x).bind _ = _
      rw [k x List.mem_cons_self hp, sb, ih, List.filter_cons_of_pos hp]
      rfl
    | false =>
      show compGo t f xs = _
      rw [ih, List.filter_cons_of_neg (by rw [hp]; exact fun z => nomatch z)]
theorem compM_eq {t : α → Option Bool} {f : α → Option β} {p : α → Bool} {g : α → β} {xs : List α} (hl : xs.length ≤ 1000000) (h : ∀ x ∈ xs, t x = some (p x)) (k : ∀ x ∈ xs, p x = true → f x = some (g x)) : compM t f xs = some ((xs.filter p).map g) := by
  unfold compM
  rw [if_pos (show xs.length ≤ LIM from hl), compGo_eq h k]
theorem foldGo_ok {f : α → τ → Option τ} {Inv : List α → τ → Prop} : ∀ (xs : List α) (pre : List α) {s : τ}, Inv pre s → (∀ pre x post s, pre ++ x :: post = pre ++ x :: post → x ∈ xs → Inv pre s → Ok (f x s) (Inv (pre ++ [x]))) → Ok (foldGo f xs s) (Inv (pre ++ xs))
  | [], pre, s, h, _ => by
    rw [List.append_nil]
    exact .one h
  | x :: xs, pre, s, h, hs => by
    refine .bind (hs pre x xs s rfl List.mem_cons_self h) fun s' h' => ?_
    have := foldGo_ok xs (pre ++ [x]) h' fun pre y post s e hy => hs pre y post s rfl (List.mem_cons_of_mem _ hy)
    rwa [List.append_assoc] at this
/-- a walk with an invariant by what was seen -/
theorem fold_ok {f : α → τ → Option τ} (Inv : List α → τ → Prop) {xs : List α} {s : τ} (h0 : Inv [] s) (hs : ∀ pre x s, x ∈ xs → Inv pre s → Ok (f x s) (Inv (pre ++ [x]))) : Ok (foldGo f xs s) (Inv xs) := by
  have := foldGo_ok (Inv := Inv) xs [] h0 fun pre x post s _ hx h => hs pre x s hx h
  simpa using this
theorem foldG_ok {f : α → τ → Option τ} {Inv : Nat → τ → Prop} : ∀ (xs : List α) (j : Nat) {s : τ}, Inv j s → (∀ k x s, xs[k]? = some x → Inv (j + k) s → Ok (f x s) (Inv (j + k + 1))) → Ok (foldGo f xs s) (Inv (j + xs.length))
  | [], j, s, h, _ => .one h
  | x :: xs, j, s, h, hs => by
    refine .bind (hs 0 x s rfl h) fun s' h' => ?_
    have := foldG_ok xs (j + 1) h' fun k y s e hy => by
      have := hs (k + 1) y s (by simpa using e) (by rwa [show j + (k + 1) = j + 1 + k by omega])
      rwa [show j + (k + 1) = j + 1 + k by omega] at this
    rwa [show j + 1 + xs.length = j + (x :: xs).length by rw [List.length_cons]; omega] at this
/-- over a range: by the turn -/
theorem foldR_ok {f : Int → τ → Option τ} (Inv : Nat → τ → Prop) {n : Nat} {s : τ} (h0 : Inv 0 s) (hs : ∀ k s, k < n → Inv k s → Ok (f (k : Int) s) (Inv (k + 1))) : Ok (foldGo f (rl n) s) (Inv n) := by
  have := foldG_ok (Inv := Inv) (f := f) (rl n) 0 h0 fun k x s e h => by
    have hk : k < n := by
      have := (List.getElem?_eq_some_iff.mp e).1
      rwa [rl_len] at this
    rw [rl_get hk] at e
    rw [← Option.some.inj e]
    rw [Nat.zero_add] at h ⊢
    exact hs k s hk h
  rwa [Nat.zero_add, rl_len] at this
theorem mapGoE_ok {f : α → τ → Option (β × τ)} {Inv : Nat → τ → Prop} {P : Nat → β → Prop} : ∀ (xs : List α) (j : Nat) {s : τ}, Inv j s → (∀ k x s, xs[k]? = some x → Inv (j + k) s → Ok (f x s) fun r => P (j + k) r.1 ∧ Inv (j + k + 1) r.2) →
    Ok (mapGoE f xs s) fun r => r.1.length = xs.length ∧ (∀ k y, r.1[k]? = some y → P (j + k) y) ∧ Inv (j + xs.length) r.2
  | [], j, s, h, _ => .one ⟨rfl, fun k y e => by simp at e, h⟩
  | x :: xs, j, s, h, hs => by
    refine .bind (hs 0 x s rfl h) fun y hy => ?_
    refine .bind (mapGoE_ok (P := P) xs (j + 1) hy.2 fun k y s e hy => by
      have := hs (k + 1) y s (by simpa using e) (by rwa [show j + (k + 1) = j + 1 + k by omega])
      rwa [show j + (k + 1) = j + 1 + k by omega] at this) fun r hr => .one ⟨by rw [List.length_cons, List.length_cons, hr.1], fun k z e => ?_, ?_⟩
    · cases k with
      | zero =>
        have : y.1 = z := by simpa using e
        exact this ▸ hy.1
      | succ k =>
        have := hr.2.1 k z (by simpa using e)
        rwa [show j + 1 + k = j + (k + 1) by omega] at this
    · have := hr.2.2
      rwa [show j + 1 + xs.length = j + (x :: xs).length by rw [List.length_cons]; omega] at this
theorem mapRE_ok {f : Int → τ → Option (β × τ)} (Inv : Nat → τ → Prop) (P : Nat → β → Prop) {n : Nat} {s : τ} (hl : n ≤ 1000000) (h0 : Inv 0 s) (hs : ∀ k s, k < n → Inv k s → Ok (f (k : Int) s) fun r => P k r.1 ∧ Inv (k + 1) r.2) :
    Ok (mapME f (rl n) s) fun r => r.1.length = n ∧ (∀ k y, r.1[k]? = some y → P k y) ∧ Inv n r.2 := by
  unfold mapME
  rw [if_pos (show (rl n).length ≤ LIM by rw [rl_len]; exact hl)]
  have := mapGoE_ok (Inv := Inv) (P := P) (f := f) (rl n) 0 h0 fun k x s e h => by
    have hk : k < n := by
      have := (List.getElem?_eq_some_iff.mp e).1
      rwa [rl_len] at this
    rw [rl_get hk] at e
    rw [← Option.some.inj e]
    rw [Nat.zero_add] at h ⊢
    exact hs k s hk h
  simpa [rl_len] using this
/-- a loop that goes through -/
theorem loopGo_ok {f : α → τ → Option (Out τ ρ)} {Inv : Nat → τ → Prop} : ∀ (xs : List α) (j : Nat) {s : τ}, Inv j s → (∀ k x s, xs[k]? = some x → Inv (j + k) s → Ok (f x s) fun o => ∃ s', (o = .nx s' ∨ o = .ct s') ∧ Inv (j + k + 1) s') → Ok (loopGo f xs s) fun o => ∃ s', o = .nx s' ∧ Inv (j + xs.length) s'
  | [], j, s, h, _ => .one ⟨s, rfl, h⟩
  | x :: xs, j, s, h, hs => by
    refine .bind (hs 0 x s rfl h) fun o ho => ?_
    obtain ⟨s', ho, h'⟩ := ho
    have := loopGo_ok xs (j + 1) h' fun k y s e hy => by
      have := hs (k + 1) y s (by simpa using e) (by rwa [show j + (k + 1) = j + 1 + k by omega])
      rwa [show j + (k + 1) = j + 1 + k by omega] at this
    rw [show j + 1 + xs.length = j + (x :: xs).length by rw [List.length_cons]; omega] at this
    rcases ho with rfl | rfl
    · exact this
    · exact this
theorem loop_unit {f : α → Unit → Option (Out Unit ρ)} {xs : List α} (hs : ∀ x ∈ xs, f x () = some (.nx ())) : loopGo f xs () = some (.nx ()) := by
  induction xs with
  | nil => rfl
  | cons x xs ih =>
    show (f x ()).bind _ = _
    rw [hs x List.mem_cons_self]
    exact ih fun y hy => hs y (List.mem_cons_of_mem _ hy)
/-! ### tables -/
structure Sq (n : Nat) (t : List (List α)) : Prop where
  len : t.length = n
  row : ∀ r ∈ t, r.length = n
def gt (t : List (List Bool)) (x y : Nat) : Bool := ((t[x]?.getD [])[y]?).getD false
theorem Sq.rowk {n : Nat} {t : List (List α)} (h : Sq n t) {x : Nat} (hx : x < n) : ∃ r, t[x]? = some r ∧ r.length = n := by
  have hx' : x < t.length := by rw [h.len]; exact hx
  exact ⟨t[x], List.getElem?_eq_getElem hx', h.row _ (List.getElem_mem hx')⟩
theorem Sq.at2 {n : Nat} {t : List (List Bool)} (h : Sq n t) {x y : Nat} (hx : x < n) (hy : y < n) : ∃ r, atI t (x : Int) = some r ∧ atI r (y : Int) = some (gt t x y) := by
  obtain ⟨r, h1, h2⟩ := h.rowk hx
  refine ⟨r, atI_nat? h1, ?_⟩
  have hy' : y < r.length := by rw [h2]; exact hy
  rw [atI_nat hy']
  unfold gt
  rw [h1]
  show some r[y] = some ((r[y]?).getD false)
  rw [List.getElem?_eq_getElem hy']
  rfl
theorem Sq.set2 {n : Nat} {t : List (List Bool)} (h : Sq n t) {x y : Nat} (b : Bool) (hx : x < n) (hy : y < n) : ∃ t', setAt2 t (x : Int) (y : Int) b = some t' ∧ Sq n t' ∧ ∀ i j, gt t' i j = if i = x ∧ j = y then b else gt t i j := by
  obtain ⟨r, h1, h2⟩ := h.rowk hx
  have hx' : x < t.length := by rw [h.len]; exact hx
  have hy' : y < r.length := by rw [h2]; exact hy
  refine ⟨t.set x (r.set y b), ?_, ⟨by rw [List.length_set]; exact h.len, fun q hq => ?_⟩, fun i j => ?_⟩
  · unfold setAt2
    rw [atI_nat? h1, sb, setAt_nat hy', sb, setAt_nat hx']
  · rcases List.mem_or_eq_of_mem_set hq with z | rfl
    · exact h.row q z
    · rw [List.length_set]; exact h2
  · unfold gt
    by_cases e : i = x
    · subst e
      rw [List.getElem?_set_self hx', h1]
      show ((r.set y b)[j]?).getD false = _
      by_cases e2 : j = y
      · subst e2
        rw [List.getElem?_set_self hy', if_pos ⟨rfl, rfl⟩]
        rfl
      · rw [List.getElem?_set_ne (fun q => e2 q.symm), if_neg (fun q => e2 q.2)]
        rfl
    · rw [List.getElem?_set_ne (fun q => e q.symm), if_neg (fun q => e q.1)]
/-- a table made by its places -/
theorem tab_mk {n : Nat} (hn : n ≤ 1000000) {f : Int → Int → Option Bool} {g : Nat → Nat → Bool} (hf : ∀ x y : Nat, x < n → y < n → f (x : Int) (y : Int) = some (g x y)) :
    Ok (mapM (fun x => mapM (fun y => f x y) (rl n)) (rl n)) fun t => Sq n t ∧ ∀ x y, x < n → y < n → gt t x y = g x y := by
  refine (mapR_ok (P := fun x r => r.length = n ∧ ∀ (y : Nat) b, r[y]? = some b → b = g x y) hn fun x hx => mapR_ok (P := fun y b => b = g x y) hn fun y hy => .of_eq (hf x y hx hy) rfl).mono fun t ht => ?_
  refine ⟨⟨ht.1, fun r hr => ?_⟩, fun x y hx hy => ?_⟩
  · obtain ⟨k, hk⟩ := List.mem_iff_getElem?.mp hr
    exact (ht.2 k r hk).1
  · have hx' : x < t.length := by rw [ht.1]; exact hx
    have h1 := List.getElem?_eq_getElem hx'
    obtain ⟨h2, h3⟩ := ht.2 x _ h1
    have hy' : y < t[x].length := by rw [h2]; exact hy
    unfold gt
    rw [h1]
    show ((t[x])[y]?).getD false = _
    rw [List.getElem?_eq_getElem hy']
    exact h3 y _ (List.getElem?_eq_getElem hy')
theorem Sq.setRow {n : Nat} {t : List (List α)} (h : Sq n t) {x : Nat} {r : List α} (hx : x < n) (hr : r.length = n) : setAt t (x : Int) r = some (t.set x r) ∧ Sq n (t.set x r) :=
  ⟨setAt_nat (by rw [h.len]; exact hx), by rw [List.length_set]; exact h.len, fun q hq => by
    rcases List.mem_or_eq_of_mem_set hq with z | rfl
    · exact h.row q z
    · exact hr⟩
/-- a row of places below m -/
structure Rw (n m : Nat) (r : List Int) : Prop where
  len : r.length = n
  lo : ∀ x ∈ r, 0 ≤ x ∧ x < (m : Int)
def rwv (r : List Int) (x : Nat) : Nat := ((r[x]?).getD 0).toNat
theorem Rw.at {n m : Nat} {r : List Int} (h : Rw n m r) {x : Nat} (hx : x < n) : atI r (x : Int) = some (rwv r x : Int) ∧ rwv r x < m := by
  have hx' : x < r.length := by rw [h.len]; exact hx
  have h1 := List.getElem?_eq_getElem hx'
  have h2 := h.lo _ (List.getElem_mem hx')
  have e : (rwv r x : Int) = r[x] := by
    unfold rwv
    rw [h1]
    show ((r[x]).toNat : Int) = _
    omega
  refine ⟨by rw [atI_nat hx', e], by omega⟩
theorem Rw.of_get {n m : Nat} {r : List Int} (hl : r.length = n) (h : ∀ (k : Nat) (y : Int), r[k]? = some y → 0 ≤ y ∧ y < (m : Int)) : Rw n m r := ⟨hl, fun x hx => by
  obtain ⟨k, hk⟩ := List.mem_iff_getElem?.mp hx
  exact h k x hk⟩
theorem Rw.perm {n : Nat} {r : List Int} (h : r.Perm (rl n)) : Rw n n r := ⟨by rw [h.length_eq, rl_len], fun x hx => by
  obtain ⟨k, hk, rfl⟩ := rl_mem.mp (h.mem_iff.mp hx)
  omega⟩
theorem Sq.look {n : Nat} {t : List (List Bool)} (h : Sq n t) {x : Nat} (hx : x < n) : ∃ r, atI t (x : Int) = some r ∧ r.length = n ∧ ∀ y : Nat, y < n → atI r (y : Int) = some (gt t x y) := by
  obtain ⟨r, h1, h2⟩ := h.rowk hx
  refine ⟨r, atI_nat? h1, h2, fun y hy => ?_⟩
  obtain ⟨u, u1, u2⟩ := h.at2 hx hy
  rw [atI_nat? h1] at u1
  cases u1
  exact u2
end CC
set_option maxHeartbeats 1000000
/-! Plain laws, more. -/
namespace CC
open PySem PySem.Spec L2
open PyProof.Rows hiding St
variable {α β γ δ τ υ ω ρ : Type}
theorem nodup_perm : ∀ {l m : List α}, l.Nodup → (∀ x ∈ l, x ∈ m) → m.length ≤ l.length → l.Perm m
  | [], m, _, _, hl => by rw [List.eq_nil_of_length_eq_zero (Nat.le_zero.mp hl)]
  | a :: l, m, h, s, hl => by
    obtain ⟨u, v, rfl⟩ := List.append_of_mem (s a List.mem_cons_self)
    have h' := List.nodup_cons.mp h
    refine (List.Perm.cons a (nodup_perm (m := u ++ v) h'.2 (fun x hx => ?_) ?_)).trans List.perm_middle.symm
    · have := s x (List.mem_cons_of_mem _ hx)
      have ne : x ≠ a := fun e => h'.1 (e ▸ hx)
      simp only [List.mem_append, List.mem_cons] at this ⊢
      rcases this with q | q | q
      · exact .inl q
      · exact absurd q ne
      · exact .inr q
    · simp only [List.length_append, List.length_cons] at hl ⊢
      omega
theorem comp2Go_eq {t : α → Option Bool} {itM : α → Option (List β)} {t1 : α → β → Option Bool} {f : α → β → Option γ} {it : α → List β} {p : α → β → Bool} {g : α → β → γ} : ∀ {xs : List α}, (∀ x ∈ xs, t x = some true) → (∀ x ∈ xs, itM x = some (it x)) → (∀ x ∈ xs, ∀ y ∈ it x, t1 x y = some (p x y)) → (∀ x ∈ xs, ∀ y ∈ it x, p x y = true → f x y = some (g x y)) →
    comp2Go t itM t1 f xs = some (xs.flatMap fun x => ((it x).filter (p x)).map (g x))
  | [], _, _, _, _ => rfl
  | x :: xs, h0, h1, h2, h3 => by
    show (t x).bind _ = _
    rw [h0 x List.mem_cons_self]
    show (itM x).bind _ = _
    rw [h1 x List.mem_cons_self]
    show (compGo (t1 x) (f x) (it x)).bind _ = _
    rw [compGo_eq (h2 x List.mem_cons_self) (h3 x List.mem_cons_self)]
    show (comp2Go t itM t1 f xs).bind _ = _
    rw [comp2Go_eq (fun y hy => h0 y (List.mem_cons_of_mem _ hy)) (fun y hy => h1 y (List.mem_cons_of_mem _ hy)) (fun y hy => h2 y (List.mem_cons_of_mem _ hy)) fun y hy => h3 y (List.mem_cons_of_mem _ hy)]
    rfl
theorem comp2M_eq {t : α → Option Bool} {itM : α → Option (List β)} {t1 : α → β → Option Bool} {f : α → β → Option γ} {it : α → List β} {p : α → β → Bool} {g : α → β → γ} {xs : List α} (h0 : ∀ x ∈ xs, t x = some true) (h1 : ∀ x ∈ xs, itM x = some (it x)) (h2 : ∀ x ∈ xs, ∀ y ∈ it x, t1 x y = some (p x y)) (h3 : ∀ x ∈ xs, ∀ y ∈ it x, p x y = true → f x y = some (g x y))
    (hl : (xs.flatMap fun x => ((it x).filter (p x)).map (g x)).length ≤ 1000000) : comp2M t itM t1 f xs = some (xs.flatMap fun x => ((it x).filter (p x)).map (g x)) := by
  unfold comp2M
  rw [comp2Go_eq h0 h1 h2 h3]
  show (if _ then _ else _) = _
  rw [if_pos (show _ ≤ LIM from hl)]
theorem eqP_prs (a b c d : Int) : eqP (.tup [.int a, .int b]) (.tup [.int c, .int d]) = some (decide (a = c) && decide (b = d)) := by
  have sh : ∀ a b : Int, SeqAt.shaped (toD (.tup [.int a, .int b])) = true := fun a b => rfl
  unfold eqP
  rw [if_pos ⟨sh a b, sh c d⟩]
  simp only [toD, toDs, PyData.eqv, PyData.eqvAll, Bool.and_true]
  rfl
/-- a loop that only goes through, by what was seen -/
theorem loopR_ok {f : Int → τ → Option (Out τ ρ)} (Inv : Nat → τ → Prop) {n : Nat} {s : τ} (h0 : Inv 0 s) (hs : ∀ k s, k < n → Inv k s → Ok (f (k : Int) s) fun o => ∃ s', (o = .nx s' ∨ o = .ct s') ∧ Inv (k + 1) s') : Ok (loopGo f (rl n) s) fun o => ∃ s', o = .nx s' ∧ Inv n s' := by
  have := loopGo_ok (Inv := Inv) (f := f) (rl n) 0 h0 fun k x s e h => by
    have hk : k < n := by
      have := (List.getElem?_eq_some_iff.mp e).1
      rwa [rl_len] at this
    rw [rl_get hk] at e
    rw [← Option.some.inj e]
    rw [Nat.zero_add] at h ⊢
    exact hs k s hk h
  rwa [Nat.zero_add, rl_len] at this
/-- .. an equation -/
theorem loopGo_eq {f : α → τ → Option (Out τ ρ)} (g : τ → α → τ) (I : τ → Prop) : ∀ {xs : List α} {s : τ}, I s → (∀ x ∈ xs, ∀ s, I s → (f x s = some (.nx (g s x)) ∨ f x s = some (.ct (g s x))) ∧ I (g s x)) → loopGo f xs s = some (.nx (xs.foldl g s)) ∧ I (xs.foldl g s)
  | [], s, h, _ => ⟨rfl, h⟩
  | x :: xs, s, h, hs => by
    obtain ⟨h1, h2⟩ := hs x List.mem_cons_self s h
    have := loopGo_eq g I (xs := xs) h2 fun y hy => hs y (List.mem_cons_of_mem _ hy)
    show (f x s).bind _ = _ ∧ _
    rcases h1 with h1 | h1 <;> rw [h1] <;> exact this
theorem foldGo_eq {f : α → τ → Option τ} (g : τ → α → τ) (I : τ → Prop) : ∀ {xs : List α} {s : τ}, I s → (∀ x ∈ xs, ∀ s, I s → f x s = some (g s x) ∧ I (g s x)) → foldGo f xs s = some (xs.foldl g s) ∧ I (xs.foldl g s)
  | [], s, h, _ => ⟨rfl, h⟩
  | x :: xs, s, h, hs => by
    obtain ⟨h1, h2⟩ := hs x List.mem_cons_self s h
    have := foldGo_eq g I (xs := xs) h2 fun y hy => hs y (List.mem_cons_of_mem _ hy)
    show (f x s).bind _ = _ ∧ _
    rw [h1]
    exact this
theorem nodup_len : ∀ {l m : List α}, l.Nodup → (∀ x ∈ l, x ∈ m) → l.length ≤ m.length
  | [], m, _, _ => Nat.zero_le _
  | a :: l, m, h, s => by
    obtain ⟨u, v, rfl⟩ := List.append_of_mem (s a List.mem_cons_self)
    have h' := List.nodup_cons.mp h
    have := nodup_len (m := u ++ v) h'.2 (fun x hx => by
      have := s x (List.mem_cons_of_mem _ hx)
      have ne : x ≠ a := fun e => h'.1 (e ▸ hx)
      simp only [List.mem_append, List.mem_cons] at this ⊢
      rcases this with q | q | q
      · exact .inl q
      · exact absurd q ne
      · exact .inr q)
    simp only [List.length_append, List.length_cons] at this ⊢
    omega
/-- a range from lo on -/
def rlo (lo n : Nat) : List Int := (List.range n).map fun i : Nat => ((lo + i : Nat) : Int)
theorem rlo_len (lo n : Nat) : (rlo lo n).length = n := by unfold rlo; rw [List.length_map, List.length_range]
theorem rlo_get {lo n k : Nat} (h : k < n) : (rlo lo n)[k]? = some ((lo + k : Nat) : Int) := by
  unfold rlo
  rw [List.getElem?_map, List.getElem?_range h]
  rfl
theorem rlo_mem {lo n : Nat} {x : Int} : x ∈ rlo lo n ↔ ∃ k : Nat, k < n ∧ x = ((lo + k : Nat) : Int) := by
  unfold rlo
  rw [List.mem_map]
  constructor
  · rintro ⟨k, h, rfl⟩
    exact ⟨k, List.mem_range.mp h, rfl⟩
  · rintro ⟨k, h, rfl⟩
    exact ⟨k, List.mem_range.mpr h, rfl⟩
theorem rng_lo {lo hi : Nat} (h1 : lo ≤ 1000000) (h2 : hi ≤ 1000000) : rng (lo : Int) (hi : Int) = some (rlo lo (hi - lo)) := by
  have hl : (LIM : Int) = 1000000 := rfl
  unfold rng rlo
  rw [if_pos (by rw [hl]; omega)]
  rw [show ((hi : Int) - (lo : Int)).toNat = hi - lo by omega]
  congr 1
theorem foldRL_ok {f : Int → τ → Option τ} (Inv : Nat → τ → Prop) {lo n : Nat} {s : τ} (h0 : Inv lo s) (hs : ∀ k s, lo ≤ k → k < lo + n → Inv k s → Ok (f (k : Int) s) (Inv (k + 1))) : Ok (foldGo f (rlo lo n) s) (Inv (lo + n)) := by
  have := foldG_ok (Inv := fun j => Inv (lo + j)) (f := f) (rlo lo n) 0 h0 fun k x s e h => by
    have hk : k < n := by
      have := (List.getElem?_eq_some_iff.mp e).1
      rwa [rlo_len] at this
    rw [rlo_get hk] at e
    rw [← Option.some.inj e]
    rw [Nat.zero_add] at h ⊢
    exact hs (lo + k) s (by omega) (by omega) h
  rwa [Nat.zero_add, rlo_len] at this
end CC
set_option maxHeartbeats 4000000
namespace K86
open PySem PySem.Spec L2 CC
open PyProof.Rows hiding St
def topS (i : Nat) : Stmt := PySem.Challenge.pw_chaincore_k86_symmetries.main.body.getD i (.Pass ⟨0, 0, 0, 0⟩)
abbrev s__law_draw : Stmt := topS 12
abbrev s__law_shuffled : Stmt := topS 15
abbrev s__law_closed : Stmt := topS 17
abbrev s__law_drawn : Stmt := topS 18
abbrev s__law_eight : Stmt := topS 25
abbrev s__law_two_ways : Stmt := topS 19
abbrev s__law_ring : Stmt := topS 20
abbrev s__law_renamed : Stmt := topS 21
abbrev s__law_two_crowns : Stmt := topS 24
abbrev s__law_table : Stmt := topS 16
abbrev s__law_symmetries : Stmt := topS 22
abbrev s_at_most_table : Stmt := topS 6
abbrev s__fits : Stmt := topS 10
abbrev s_symmetries : Stmt := topS 9
abbrev s__law_answer : Stmt := topS 23
abbrev s__law_is_int : Stmt := topS 13
abbrev s__law_same : Stmt := topS 14
abbrev s_law : Stmt := topS 26
theorem sc__law_draw : FnScope ["src", "many", "taken", "told"] ["src", "many"] (defScope s__law_draw) := ⟨rfl, rfl, rfl, by decide +kernel, rfl, by decide +kernel, by decide +kernel⟩
theorem sc__law_shuffled : FnScope ["src", "many", "left", "told", "k"] ["src", "many"] (defScope s__law_shuffled) := ⟨rfl, rfl, rfl, by decide +kernel, rfl, by decide +kernel, by decide +kernel⟩
theorem sc__law_closed : FnScope ["many", "links", "up", "one", "z", "pairs", "x", "y"] ["many", "links"] (defScope s__law_closed) := ⟨rfl, rfl, rfl, by decide +kernel, rfl, by decide +kernel, by decide +kernel⟩
theorem sc__law_drawn : FnScope ["src", "most", "many", "names", "thin", "links", "q", "p"] ["src", "most"] (defScope s__law_drawn) := ⟨rfl, rfl, rfl, by decide +kernel, rfl, by decide +kernel, by decide +kernel⟩
theorem sc__law_eight : FnScope ["src", "many", "names", "thin", "links", "q", "p"] ["src"] (defScope s__law_eight) := ⟨rfl, rfl, rfl, by decide +kernel, rfl, by decide +kernel, by decide +kernel⟩
theorem sc__law_two_ways : FnScope ["src", "sizes", "more", "many", "names", "links", "at", "size", "k", "low", "other"] ["src"] (defScope s__law_two_ways) := ⟨rfl, rfl, rfl, by decide +kernel, rfl, by decide +kernel, by decide +kernel⟩
theorem sc__law_ring : FnScope ["src", "most", "half", "names", "links", "k"] ["src", "most"] (defScope s__law_ring) := ⟨rfl, rfl, rfl, by decide +kernel, rfl, by decide +kernel, by decide +kernel⟩
theorem sc__law_renamed : FnScope ["world", "names", "one"] ["world", "names"] (defScope s__law_renamed) := ⟨rfl, rfl, rfl, by decide +kernel, rfl, by decide +kernel, by decide +kernel⟩
theorem sc__law_two_crowns : FnScope ["src", "pairs", "at", "x", "y"] ["src"] (defScope s__law_two_crowns) := ⟨rfl, rfl, rfl, by decide +kernel, rfl, by decide +kernel, by decide +kernel⟩
theorem sc__law_table : FnScope ["world", "up", "one", "x", "y"] ["world"] (defScope s__law_table) := ⟨rfl, rfl, rfl, by decide +kernel, rfl, by decide +kernel, by decide +kernel⟩
theorem sc__law_symmetries : FnScope ["world", "size", "up", "sign", "rows", "x", "longer", "row", "v", "y"] ["world"] (defScope s__law_symmetries) := ⟨rfl, rfl, rfl, by decide +kernel, rfl, by decide +kernel, by decide +kernel⟩
theorem sc_at_most_table : FnScope ["order", "table", "n", "pairs", "x", "y"] ["order"] (defScope s_at_most_table) := ⟨rfl, rfl, rfl, by decide +kernel, rfl, by decide +kernel, by decide +kernel⟩
theorem sc__fits : FnScope ["table", "row", "y", "x", "z"] ["table", "row", "y"] (defScope s__fits) := ⟨rfl, rfl, rfl, by decide +kernel, rfl, by decide +kernel, by decide +kernel⟩
theorem sc_symmetries : FnScope ["order", "n", "table", "rows", "_", "row", "y"] ["order"] (defScope s_symmetries) := ⟨rfl, rfl, rfl, by decide +kernel, rfl, by decide +kernel, by decide +kernel⟩
theorem sc__law_answer : FnScope ["world", "named", "e"] ["world", "named"] (defScope s__law_answer) := ⟨rfl, rfl, rfl, by decide +kernel, rfl, by decide +kernel, by decide +kernel⟩
theorem sc__law_is_int : FnScope ["x"] ["x"] (defScope s__law_is_int) := ⟨rfl, rfl, rfl, by decide +kernel, rfl, by decide +kernel, by decide +kernel⟩
theorem sc__law_same : FnScope ["told", "due", "k"] ["told", "due"] (defScope s__law_same) := ⟨rfl, rfl, rfl, by decide +kernel, rfl, by decide +kernel, by decide +kernel⟩
theorem sc_law : FnScope ["script", "src", "shape", "named", "due", "great", "star", "world", "y"] ["script"] (defScope s_law) := ⟨rfl, rfl, rfl, by decide +kernel, rfl, by decide +kernel, by decide +kernel⟩
def h0O (s : ((List Int) × Int × Int × Int)) : OP := hetO [(lstO (fun x => sh (intS x))) s.1, sh (intS s.2.1), sh (intS s.2.2.1), sh (intS s.2.2.2)]
inductive Ex where
  | TooLarge
def Ex.k {ω : Type} (u : Ex) (a0 : Option ω) : Option ω := match u with | .TooLarge => a0
def ExA (K : PySem.W.Frag) (u : Ex) : Addr := match u with | .TooLarge => He.ga K "TooLarge"
def Xp (K : PySem.W.Frag) (u : Ex) : XP := clsX (ExA K u)
theorem Ex.hs {ω : Type} {K : PySem.W.Frag} {S : Stc} {B : List Stmt} {Γx : CC.Ctx} {i : Nat} {D : ω → Kd} {m0 : Option ω} (h0 : ∀ a, JB (S.suiE a (He.ga K "TooLarge")) B (Γx.set i (some (sh (valS (.ref a))))) m0 D) : ∀ u a, JB (S.suiE a (ExA K u)) B (Γx.set i (some (sh (valS (.ref a))))) (Ex.k u m0) D := fun u a => match u with | .TooLarge => h0 a
theorem Ex.hu {ω : Type} {S : Stc} {B : List Stmt} {Γx : CC.Ctx} {D : ω → Kd} {m0 : Option ω} (h0 : JB S B Γx m0 D) : ∀ u, JB S B Γx (Ex.k u m0) D := fun u => match u with | .TooLarge => h0
theorem Ex.al {K : PySem.W.Frag} {c : Value} (h0 : PySem.W.exmOne K (.ref (He.ga K "TooLarge")) c = some true) : ∀ u, PySem.W.exmOne K (.ref (ExA K u)) c = some true := fun u => match u with | .TooLarge => h0
theorem Ex.ax {K : PySem.W.Frag} {c : Value} (h : ∀ u, PySem.W.exmOne K (.ref (ExA K u)) c = some true) : ∀ u B c' d, (Xp K u).P B c' d → PySem.W.exmOne K c' c = some true := fun u B c' d e => by cases e.1; exact h u
/-- what the top has left -/
structure Tx (K : PySem.W.Frag) (mg : Str → Option Value) where
  a__law_draw : Addr
  d__law_draw : FuncData
  F__law_draw : FnP K "_law_draw" s__law_draw a__law_draw d__law_draw
  b__law_draw : Binds K d__law_draw ["src", "many"] []
  g__law_draw : mg "_law_draw" = some (.ref a__law_draw)
  a__law_shuffled : Addr
  d__law_shuffled : FuncData
  F__law_shuffled : FnP K "_law_shuffled" s__law_shuffled a__law_shuffled d__law_shuffled
  b__law_shuffled : Binds K d__law_shuffled ["src", "many"] []
  g__law_shuffled : mg "_law_shuffled" = some (.ref a__law_shuffled)
  a__law_closed : Addr
  d__law_closed : FuncData
  F__law_closed : FnP K "_law_closed" s__law_closed a__law_closed d__law_closed
  b__law_closed : Binds K d__law_closed ["many", "links"] []
  g__law_closed : mg "_law_closed" = some (.ref a__law_closed)
  a__law_drawn : Addr
  d__law_drawn : FuncData
  F__law_drawn : FnP K "_law_drawn" s__law_drawn a__law_drawn d__law_drawn
  b__law_drawn : Binds K d__law_drawn ["src", "most"] []
  g__law_drawn : mg "_law_drawn" = some (.ref a__law_drawn)
  a__law_eight : Addr
  d__law_eight : FuncData
  F__law_eight : FnP K "_law_eight" s__law_eight a__law_eight d__law_eight
  b__law_eight : Binds K d__law_eight ["src"] []
  g__law_eight : mg "_law_eight" = some (.ref a__law_eight)
  a__law_two_ways : Addr
  d__law_two_ways : FuncData
  F__law_two_ways : FnP K "_law_two_ways" s__law_two_ways a__law_two_ways d__law_two_ways
  b__law_two_ways : Binds K d__law_two_ways ["src"] []
  g__law_two_ways : mg "_law_two_ways" = some (.ref a__law_two_ways)
  a__law_ring : Addr
  d__law_ring : FuncData
  F__law_ring : FnP K "_law_ring" s__law_ring a__law_ring d__law_ring
  b__law_ring : Binds K d__law_ring ["src", "most"] []
  g__law_ring : mg "_law_ring" = some (.ref a__law_ring)
  a__law_renamed : Addr
  d__law_renamed : FuncData
  F__law_renamed : FnP K "_law_renamed" s__law_renamed a__law_renamed d__law_renamed
  b__law_renamed : Binds K d__law_renamed ["world", "names"] []
  g__law_renamed : mg "_law_renamed" = some (.ref a__law_renamed)
  a__law_two_crowns : Addr
  d__law_two_crowns : FuncData
  F__law_two_crowns : FnP K "_law_two_crowns" s__law_two_crowns a__law_two_crowns d__law_two_crowns
  b__law_two_crowns : Binds K d__law_two_crowns ["src"] []
  g__law_two_crowns : mg "_law_two_crowns" = some (.ref a__law_two_crowns)
  a__law_table : Addr
  d__law_table : FuncData
  F__law_table : FnP K "_law_table" s__law_table a__law_table d__law_table
  b__law_table : Binds K d__law_table ["world"] []
  g__law_table : mg "_law_table" = some (.ref a__law_table)
  a__law_symmetries : Addr
  d__law_symmetries : FuncData
  F__law_symmetries : FnP K "_law_symmetries" s__law_symmetries a__law_symmetries d__law_symmetries
  b__law_symmetries : Binds K d__law_symmetries ["world"] []
  g__law_symmetries : mg "_law_symmetries" = some (.ref a__law_symmetries)
  a_at_most_table : Addr
  d_at_most_table : FuncData
  F_at_most_table : FnP K "at_most_table" s_at_most_table a_at_most_table d_at_most_table
  b_at_most_table : Binds K d_at_most_table ["order"] []
  g_at_most_table : mg "at_most_table" = some (.ref a_at_most_table)
  a__fits : Addr
  d__fits : FuncData
  F__fits : FnP K "_fits" s__fits a__fits d__fits
  b__fits : Binds K d__fits ["table", "row", "y"] []
  g__fits : mg "_fits" = some (.ref a__fits)
  a_symmetries : Addr
  d_symmetries : FuncData
  F_symmetries : FnP K "symmetries" s_symmetries a_symmetries d_symmetries
  b_symmetries : Binds K d_symmetries ["order"] []
  q0_symmetries : KBn K d_symmetries ["order"] 0 ["order"] (fun us ws => sel (us ++ ws) [0]) (fun vs zs => sel (vs ++ zs) [0])
  g_symmetries : mg "symmetries" = some (.ref a_symmetries)
  a__law_answer : Addr
  d__law_answer : FuncData
  F__law_answer : FnP K "_law_answer" s__law_answer a__law_answer d__law_answer
  b__law_answer : Binds K d__law_answer ["world", "named"] []
  g__law_answer : mg "_law_answer" = some (.ref a__law_answer)
  a__law_is_int : Addr
  d__law_is_int : FuncData
  F__law_is_int : FnP K "_law_is_int" s__law_is_int a__law_is_int d__law_is_int
  b__law_is_int : Binds K d__law_is_int ["x"] []
  g__law_is_int : mg "_law_is_int" = some (.ref a__law_is_int)
  a__law_same : Addr
  d__law_same : FuncData
  F__law_same : FnP K "_law_same" s__law_same a__law_same d__law_same
  b__law_same : Binds K d__law_same ["told", "due"] []
  g__law_same : mg "_law_same" = some (.ref a__law_same)
  a_law : Addr
  d_law : FuncData
  F_law : FnP K "law" s_law a_law d_law
  b_law : Binds K d_law ["script"] []
  g_law : mg "law" = some (.ref a_law)
  m_list : mg "list" = none
  m_len : mg "len" = none
  m_abs : mg "abs" = none
  m_int : mg "int" = none
  m_range : mg "range" = none
  m_tuple : mg "tuple" = none
  m_sorted : mg "sorted" = none
  m_all : mg "all" = none
  m_isinstance : mg "isinstance" = none
  m_ValueError : mg "ValueError" = none
  m_str : mg "str" = none
  m_bool : mg "bool" = none
  i_MOST_RENAMED : ∃ t, mg "MOST_RENAMED" = some (.int 8 t)
  g_TooLarge : mg "TooLarge" = some (.ref (He.ga K "TooLarge"))
  g_StrikeError : mg "StrikeError" = some (.ref (He.ga K "StrikeError"))
  g_BadMap : mg "BadMap" = some (.ref (He.ga K "BadMap"))
  g_BadOrder : mg "BadOrder" = some (.ref (He.ga K "BadOrder"))
  x_TooLarge : ExcF K (He.ga K "TooLarge")
  e_TooLarge : ExcC K (He.ga K "TooLarge")
  k_TooLarge_BadMap : PySem.W.kitOne K (.ref (He.ga K "TooLarge")) (.ref (He.ga K "BadMap")) = some false
  k_TooLarge_BadOrder : PySem.W.kitOne K (.ref (He.ga K "TooLarge")) (.ref (He.ga K "BadOrder")) = some false
  k_TooLarge_TooLarge : PySem.W.kitOne K (.ref (He.ga K "TooLarge")) (.ref (He.ga K "TooLarge")) = some true
  kt_TooLarge_ValueError : PySem.W.kitOne K (.ref (He.ga K "TooLarge")) (.type "ValueError") = some true
  h_TooLarge_StrikeError : PySem.W.exmOne K (.ref (He.ga K "TooLarge")) (.ref (He.ga K "StrikeError")) = some true
section
variable {P : Program} {w : World} {K : PySem.W.Frag} {mg : Str → Option Value} {base : Heap}
def M_law_draw (a : Int × Unit) (s : ((List Int) × Int × Int × Int)) : Option (Int × ((List Int) × Int × Int × Int)) :=
 ((bif decide (s.2.1 ≤ (1 : Int)) then some (decide ((0 : Int) < (s.1.length : Int))) else some false).bind fun x30 => bif x30 then (((popAt s.1 (0 : Int)).bind fun r18 => some (r18.1, (r18.2, s.2.1, s.2.2.1, s.2.2.2))).bind fun q19 => some (absI q19.1, q19.2)).bind fun a20 => (((((mulO a20.2.2.2.2 (69621 : Int)).bind fun x21 => some (x21 + a20.1)).bind fun x22 => some (x22 + (1 : Int))).bind fun x23 => some x23).bind fun x24 => modO x24 (2147483647 : Int)).bind fun a25 => (((modO a20.1 (2 : Int)).bind fun x26 => some (decide (x26 = (0 : Int)))).bind fun x27 => bif x27 then divO a20.1 (2 : Int) else some (0 : Int)).bind fun a28 => some (a20.2.1, a28, (0 : Int), a25) else some s).bind fun a31 => bif decide ((1 : Int) < a31.2.1) then (modO a31.2.1 a.1).bind fun a32 => (divO a31.2.1 a.1).bind fun a33 => (bif decide ((60 : Int) ≤ a31.2.2.1 + (1 : Int)) then some (a31.1, (0 : Int), a31.2.2.1 + (1 : Int), a31.2.2.2) else some (a31.1, a33, a31.2.2.1 + (1 : Int), a31.2.2.2)).bind fun a38 => some (a32, a38) else ((((mulO a31.2.2.2 (48271 : Int)).bind fun x39 => some (x39 + (12345 : Int))).bind fun x40 => some x40).bind fun x41 => modO x41 (2147483647 : Int)).bind fun a42 => (((divO a42 (64 : Int)).bind fun x43 => some x43).bind fun x44 => modO x44 a.1).bind fun x45 => some (x45, (a31.1, a31.2.1, a31.2.2.1, a42))
theorem ok_law_draw (T : Tx K mg) : FnOk P w K mg base CX0 1 T.a__law_draw T.d__law_draw ["src", "many"] (spS h0O (fun a : Int × Unit => [intS a.1]) M_law_draw (fun x => sh (intS x))) :=
 fnd_state T.F__law_draw sc__law_draw (fun _ => rfl) (by decide) fun a s => JB.cong (
 jb_cons (js_if (jt_w (jw_and (jt_cmp oLe ov_le (jn_of (jr_ixO (R := (fun x => sh (intS x))) (g := fun z => z.2.1) 1 (jr_var (R := h0O) (a := s) 0))) jn_int) (jw_and1 (jt_cmp oGt ov_gt (len_lstO T.m_len (jr_ixO (R := (lstO (fun x => sh (intS x)))) (g := fun z => z.1) 0 (jr_var (R := h0O) (a := s) 0))) jn_int)))) (D := fun v => Kd.nx ((fun v16 : ((List Int) × Int × Int × Int) => [some (h0O v16), some (sh (intS a.1)), none, none]) v)) (jb_cons (js_setE (Γ := fun s17 : ((List Int) × Int × Int × Int) => [some (h0O s17), some (sh (intS a.1)), none, none]) (s := s) 2 sc__law_draw.nd (je_abs T.m_abs (je_popH (E := intS) 0 0 (fun s => s.1) (fun s u => (u, s.2.1, s.2.2.1, s.2.2.2)) jn_int))) fun a20 =>
 jb_cons (js_setH (E := intS) 0 3 (jn_bin oMod ov_mod (int_int T.m_int (jn_bin oAdd ov_add (jn_bin oAdd ov_add (jn_bin oMul ov_mul (jn_of (jr_ixO (R := (fun x => sh (intS x))) (g := fun z => z.2.2.2) 3 (jr_var (R := h0O) (a := a20.2) 0))) jn_int) (jn_var (E := intS) (a := a20.1) 2)) jn_int)) jn_int)) fun a25 =>
 jb_cons (js_setH (E := intS) 0 1 (jn_if (jt_cmp oEq ov_eqI (jn_bin oMod ov_mod (int_int T.m_int (jn_var (E := intS) (a := a20.1) 2)) jn_int) jn_int) (jn_bin oDiv ov_div (jn_var (E := intS) (a := a20.1) 2) jn_int) jn_int)) fun a28 =>
 jb_cons (js_setH (E := intS) 0 2 jn_int) fun a29 =>
 jb_nil (x := (a20.2.1, a28, a29, a25)) rfl (weak_mask [true, true, false, false] _)) (jb_nil (x := s) rfl (weak_mask [true, true, false, false] _))) fun a31 =>
 jb_ifr (jt_cmp oGt ov_gt (jn_of (jr_ixO (R := (fun x => sh (intS x))) (g := fun z => z.2.1) 1 (jr_var (R := h0O) (a := a31) 0))) jn_int) (jb_cons (js_set 3 sc__law_draw.nd (jn_bin oMod ov_mod (int_int T.m_int (jn_of (jr_ixO (R := (fun x => sh (intS x))) (g := fun z => z.2.1) 1 (jr_var (R := h0O) (a := a31) 0)))) (jn_var (E := intS) (a := a.1) 1))) fun a32 =>
 jb_cons (js_setH (E := intS) 0 1 (jn_bin oDiv ov_div (jn_of (jr_ixO (R := (fun x => sh (intS x))) (g := fun z => z.2.1) 1 (jr_var (R := h0O) (a := a31) 0))) (jn_var (E := intS) (a := a.1) 1))) fun a33 =>
 jb_cons (js_setH (E := intS) 0 2 (jn_bin oAdd ov_add (jn_of (jr_ixO (R := (fun x => sh (intS x))) (g := fun z => z.2.2.1) 2 (jr_var (R := h0O) (a := (a31.1, a33, a31.2.2.1, a31.2.2.2)) 0))) jn_int)) fun a34 =>
 jb_cons (js_if (jt_cmp oGe ov_ge (jn_of (jr_ixO (R := (fun x => sh (intS x))) (g := fun z => z.2.2.1) 2 (jr_var (R := h0O) (a := (a31.1, a33, a34, a31.2.2.2)) 0))) jn_int) (D := fun v => Kd.nx ((fun v36 : ((List Int) × Int × Int × Int) => [some (h0O v36), some (sh (intS a.1)), none, some (sh (intS a32))]) v)) (jb_cons (js_setH (E := intS) 0 1 jn_int) fun a37 =>
 jb_nil (x := (a31.1, a37, a34, a31.2.2.2)) rfl (weak_mask [true, true, false, true] _)) (jb_nil (x := (a31.1, a33, a34, a31.2.2.2)) rfl (weak_mask [true, true, false, true] _))) fun a38 =>
 jb_retS (R := (fun x => sh (intS x))) (Δ := fun s => some (h0O s) :: nonC 3) (s := a38) (weak_mask [true, false, false, false] _) (jn_var (E := intS) (a := a32) 3)) (fun _ => trivial)
 (jb_cons (js_setH (E := intS) 0 3 (jn_bin oMod ov_mod (int_int T.m_int (jn_bin oAdd ov_add (jn_bin oMul ov_mul (jn_of (jr_ixO (R := (fun x => sh (intS x))) (g := fun z => z.2.2.2) 3 (jr_var (R := h0O) (a := a31) 0))) jn_int) jn_int)) jn_int)) fun a42 =>
 jb_retS (R := (fun x => sh (intS x))) (Δ := fun s => some (h0O s) :: nonC 3) (s := (a31.1, a31.2.1, a31.2.2.1, a42)) (weak_mask [true, false, false, false] _) (jn_bin oMod ov_mod (int_int T.m_int (jn_bin oDiv ov_div (jn_of (jr_ixO (R := (fun x => sh (intS x))) (g := fun z => z.2.2.2) 3 (jr_var (R := h0O) (a := (a31.1, a31.2.1, a31.2.2.1, a42)) 0))) jn_int)) (jn_var (E := intS) (a := a.1) 1)))) (by unfold M_law_draw; first | (dsimp only [CC.sb]; done) | (dsimp only [CC.sb]; rfl) | rfl)
def M_law_shuffled (a : Int × Unit) (s : ((List Int) × Int × Int × Int)) : Option ((List Int) × ((List Int) × Int × Int × Int)) :=
 (rng 0 a.1).bind fun a55 => ((rng 0 a.1).bind fun x67 => foldGo (fun x58 s59 => ((((M_law_draw ((((s59.2.1, s59.1).1).length : Int), ()) ((s59.2.1, s59.1).2)).bind fun r61 => some (r61.1, ((s59.2.1, s59.1).1, r61.2))).bind fun q62 => (popAt q62.2.1 q62.1).bind fun r63 => some (r63.1, (r63.2, q62.2.2))).bind fun q64 => (appM s59.2.2 q64.1).bind fun r65 => some (r65, q64.2)).bind fun a66 => some (a66.2.2, a66.2.1, a66.1)) x67 (s, a55, [])).bind fun a68 => some (a68.2.2, a68.1)
theorem ok_law_shuffled (T : Tx K mg) : FnOk P w K mg base CX0 2 T.a__law_shuffled T.d__law_shuffled ["src", "many"] (spS h0O (fun a : Int × Unit => [intS a.1]) M_law_shuffled (lstO (fun x => sh (intS x)))) :=
 fnd_state T.F__law_shuffled sc__law_shuffled (fun _ => rfl) (by decide) fun a s => JB.cong (
 jb_cons (js_set 2 sc__law_shuffled.nd (list_rng T.m_list T.m_range (jn_var (E := intS) (a := a.1) 1))) fun a55 =>
 jb_cons (js_set 3 sc__law_shuffled.nd (jn_nilLO (E := (fun x => sh (intS x))))) fun a56 =>
 jb_cons (js_forS (Γl := fun s57 : ((List Int) × Int × Int × Int) × (List Int) × (List Int) => [some (h0O s57.1), some (sh (intS a.1)), some ((lstO (fun x => sh (intS x))) s57.2.1), some ((lstO (fun x => sh (intS x))) s57.2.2), none]) (s, a55, a56) (ji_rng1 T.m_range (jn_var (E := intS) (a := a.1) 1)) (jg_name (E := intS) 4 sc__law_shuffled.nd) (weak_mask [true, true, true, true, false] _) (fun _ => all_lt rfl) fun x58 s59 =>
 jb_cons (js_appE (E := (fun x => sh (intS x))) (Γ := fun s60 : (List Int) × ((List Int) × Int × Int × Int) => [some (h0O s60.2), some (sh (intS a.1)), some ((lstO (fun x => sh (intS x))) s60.1), some ((lstO (fun x => sh (intS x))) s59.2.2), some (sh (intS x58))]) (s := (s59.2.1, s59.1)) 3 (fun _ => s59.2.2) (je_popAt (E := (fun x => sh (intS x))) 2 (fun s => s.1) (fun s u => (u, s.2)) (je_callS (O := h0O) 0 (fun s => s.2) (fun s u => (s.1, u)) (ok_law_draw T) T.g__law_draw T.F__law_draw.kp T.b__law_draw (Nat.le_of_ble_eq_true rfl) (jea_of (ja_cons (len_lstO T.m_len (jr_var (R := (lstO (fun x => sh (intS x)))) (a := (s59.2.1, s59.1).1) 2)) ja_nil))))) fun a66 =>
 jb_nil (x := (a66.2.2, a66.2.1, a66.1)) rfl (weak_mask [true, true, true, true, false] _)) fun a68 =>
 jb_retOS (R := (lstO (fun x => sh (intS x)))) (Δ := fun s => some (h0O s) :: nonC 4) 3 (weak_mask [true, false, false, false, false] _)) (by unfold M_law_shuffled; first | (dsimp only [CC.sb]; done) | (dsimp only [CC.sb]; rfl) | rfl)
def M_law_closed (a : Int × ((List (Int × Int)) × Unit)) : Option (Int × (List (Int × Int))) :=
 ((rng 0 a.1).bind fun x115 => mapM (fun x112 => (rng 0 a.1).bind fun x114 => mapM (fun x113 => some false) x114) x115).bind fun a116 => (foldGo (fun x118 s119 => (setAt2 s119 x118.1 x118.2 true).bind fun a120 => some a120) a.2.1 a116).bind fun a121 => ((rng 0 a.1).bind fun x156 => foldGo (fun x123 s124 => ((rng 0 a.1).bind fun x154 => foldGo (fun x126 s127 => (((atI s127 x126).bind fun x128 => atI x128 x123).bind fun x152 => bif x152 then ((rng 0 a.1).bind fun x150 => foldGo (fun x142 s143 => (((atI s143 x123).bind fun x144 => atI x144 x142).bind fun x148 => bif x148 then (setAt2 s143 x126 x142 true).bind fun a147 => some a147 else some s143).bind fun a149 => some a149) x150 s127).bind fun a151 => some a151 else some s127).bind fun a153 => some a153) x154 s124).bind fun a155 => some a155) x156 a121).bind fun a157 => ((rng 0 a.1).bind fun x177 => foldGo (fun x170 s171 => (((rng 0 a.1).bind fun x174 => compM (fun x172 => (atI a157 x170).bind fun x173 => atI x173 x172) (fun x172 => some (x170, x172)) x174).bind fun x175 => catM s171 x175).bind fun a176 => some a176) x177 []).bind fun a178 => some (a.1, a178)
theorem ok_law_closed (T : Tx K mg) : FnOk P w K mg base CX0 1 T.a__law_closed T.d__law_closed ["many", "links"] (spP (fun a : Int × ((List (Int × Int)) × Unit) => [intS a.1, (lstS (prS intS intS)) a.2.1]) M_law_closed (fun x => sh ((prS intS (tupS (prS intS intS))) x))) :=
 fnd_pure (Δ := nonC 8) T.F__law_closed sc__law_closed (fun _ => rfl) (by decide) fun a => JB.cong (
 jb_cons (js_setLcC 2 sc__law_closed.nd (jn_lc sc__law_closed.nd (jc_map [("x", 6)] (jic_of (ji_rng1 T.m_range (jn_var (E := intS) (a := a.1) 0))) (show blkC ["many", "links", "up", "one", "z", "pairs", "x", "y"] (defScope s__law_closed) _ [("x", 6)] = true by decide +kernel) (jg_name (E := intS) 6 sc__law_closed.nd) (by decide) (all_lt rfl) fun x112 => (jn_lc sc__law_closed.nd (jc_map [("y", 7)] (jic_of (ji_rng1 T.m_range (jn_var (E := intS) (a := a.1) 0))) (show blkC ["many", "links", "up", "one", "z", "pairs", "x", "y"] (relS _ (defScope s__law_closed)) _ [("y", 7)] = true by decide +kernel) (jg_name (E := intS) 7 sc__law_closed.nd) (by decide) (all_lt rfl) fun x113 => jn_bl))))) fun a116 =>
 jb_cons (js_forS (Γl := fun s117 : (List (List Bool)) => [some (sh (intS a.1)), some (sh ((lstS (prS intS intS)) a.2.1)), some ((lstO (lstO (fun x => sh (boolS x)))) s117), none, none, none, none, none]) a116 (ji_lst (jn_var (E := (lstS (prS intS intS))) (a := a.2.1) 1)) (jg_name (E := (prS intS intS)) 3 sc__law_closed.nd) (weak_mask [true, true, true, false, false, false, false, false] _) (fun _ => all_lt rfl) fun x118 s119 =>
 jb_cons (js_setI2 (E := boolS) 2 jn_bl (jn_ixT (E := intS) (g := fun z => z.1) 0 (jn_var (E := (prS intS intS)) (a := x118) 3)) (jn_ixT (E := intS) (g := fun z => z.2) 1 (jn_var (E := (prS intS intS)) (a := x118) 3))) fun a120 =>
 jb_nil (x := a120) rfl (weak_mask [true, true, true, false, false, false, false, false] _)) fun a121 =>
 jb_cons (js_forS (Γl := fun s122 : (List (List Bool)) => [some (sh (intS a.1)), some (sh ((lstS (prS intS intS)) a.2.1)), some ((lstO (lstO (fun x => sh (boolS x)))) s122), none, none, none, none, none]) a121 (ji_rng1 T.m_range (jn_var (E := intS) (a := a.1) 0)) (jg_name (E := intS) 4 sc__law_closed.nd) (weak_mask [true, true, true, false, false, false, false, false] _) (fun _ => all_lt rfl) fun x123 s124 =>
 jb_cons (js_forS (Γl := fun s125 : (List (List Bool)) => [some (sh (intS a.1)), some (sh ((lstS (prS intS intS)) a.2.1)), some ((lstO (lstO (fun x => sh (boolS x)))) s125), none, some (sh (intS x123)), none, none, none]) s124 (ji_rng1 T.m_range (jn_var (E := intS) (a := a.1) 0)) (jg_name (E := intS) 6 sc__law_closed.nd) (weak_mask [true, true, true, false, true, false, false, false] _) (fun _ => all_lt rfl) fun x126 s127 =>
 jb_cons (js_if (jt_val (jn_of (jr_ix oIxL iv_lstO (jr_ix oIxL iv_lstO (jr_var (R := (lstO (lstO (fun x => sh (boolS x))))) (a := s127) 2) (jn_var (E := intS) (a := x126) 6)) (jn_var (E := intS) (a := x123) 4)))) (D := fun v => Kd.nx ((fun v140 : (List (List Bool)) => [some (sh (intS a.1)), some (sh ((lstS (prS intS intS)) a.2.1)), some ((lstO (lstO (fun x => sh (boolS x)))) v140), none, some (sh (intS x123)), none, some (sh (intS x126)), none]) v)) (jb_cons (js_forS (Γl := fun s141 : (List (List Bool)) => [some (sh (intS a.1)), some (sh ((lstS (prS intS intS)) a.2.1)), some ((lstO (lstO (fun x => sh (boolS x)))) s141), none, some (sh (intS x123)), none, some (sh (intS x126)), none]) s127 (ji_rng1 T.m_range (jn_var (E := intS) (a := a.1) 0)) (jg_name (E := intS) 7 sc__law_closed.nd) (weak_mask [true, true, true, false, true, false, true, false] _) (fun _ => all_lt rfl) fun x142 s143 =>
 jb_cons (js_if (jt_val (jn_of (jr_ix oIxL iv_lstO (jr_ix oIxL iv_lstO (jr_var (R := (lstO (lstO (fun x => sh (boolS x))))) (a := s143) 2) (jn_var (E := intS) (a := x123) 4)) (jn_var (E := intS) (a := x142) 7)))) (D := fun v => Kd.nx ((fun v146 : (List (List Bool)) => [some (sh (intS a.1)), some (sh ((lstS (prS intS intS)) a.2.1)), some ((lstO (lstO (fun x => sh (boolS x)))) v146), none, some (sh (intS x123)), none, some (sh (intS x126)), some (sh (intS x142))]) v)) (jb_cons (js_setI2 (E := boolS) 2 jn_bl (jn_var (E := intS) (a := x126) 6) (jn_var (E := intS) (a := x142) 7)) fun a147 =>
 jb_nil (x := a147) rfl (weak_mask [true, true, true, false, true, false, true, true] _)) (jb_nil (x := s143) rfl (weak_mask [true, true, true, false, true, false, true, true] _))) fun a149 =>
 jb_nil (x := a149) rfl (weak_mask [true, true, true, false, true, false, true, false] _)) fun a151 =>
 jb_nil (x := a151) rfl (weak_mask [true, true, true, false, true, false, true, false] _)) (jb_nil (x := s127) rfl (weak_mask [true, true, true, false, true, false, true, false] _))) fun a153 =>
 jb_nil (x := a153) rfl (weak_mask [true, true, true, false, true, false, false, false] _)) fun a155 =>
 jb_nil (x := a155) rfl (weak_mask [true, true, true, false, false, false, false, false] _)) fun a157 =>
 jb_cons (js_set 5 sc__law_closed.nd (jn_nilLO (E := (fun x => sh ((prS intS intS) x))))) fun a158 =>
 JB.frz (i := 5) (o := (lstO (fun x => sh ((prS intS intS) x))) a158) (p := (lstS (prS intS intS)) a158) rfl ((fz_lst (fun _ => fz_sh)) _) (jb_cons (js_forS (Γl := fun s169 : (List (Int × Int)) => [some (sh (intS a.1)), some (sh ((lstS (prS intS intS)) a.2.1)), some ((lstO (lstO (fun x => sh (boolS x)))) a157), none, none, some (sh ((lstS (prS intS intS)) s169)), none, none]) a158 (ji_rng1 T.m_range (jn_var (E := intS) (a := a.1) 0)) (jg_name (E := intS) 6 sc__law_closed.nd) (weak_mask [true, true, true, false, false, true, false, false] _) (fun _ => all_lt rfl) fun x170 s171 =>
 jb_cons (js_set 5 sc__law_closed.nd (jn_bin oCat ov_cat (jn_var (E := (lstS (prS intS intS))) (a := s171) 5) (JN.frz (fz_lst (fun _ => fz_sh)) (jn_lc sc__law_closed.nd (jc_of [("y", 7)] (jic_of (ji_rng1 T.m_range (jn_var (E := intS) (a := a.1) 0))) (show blkC ["many", "links", "up", "one", "z", "pairs", "x", "y"] (defScope s__law_closed) _ [("y", 7)] = true by decide +kernel) (jg_name (E := intS) 7 sc__law_closed.nd) (by decide) (all_lt rfl) (fun x172 => jts_one (jt_val (jn_of (jr_ix oIxL iv_lstO (jr_ix oIxL iv_lstO (jr_var (R := (lstO (lstO (fun x => sh (boolS x))))) (a := a157) 2) (jn_var (E := intS) (a := x170) 6)) (jn_var (E := intS) (a := x172) 7))))) fun x172 => (jn_tupG (P := (prS intS intS)) (g := fun z => (z.1, z.2.1)) (ja_cons (jn_var (E := intS) (a := x170) 6) (ja_cons (jn_var (E := intS) (a := x172) 7) ja_nil)))))))) fun a176 =>
 JB.frz (i := 5) (o := (lstO (fun x => sh ((prS intS intS) x))) a176) (p := (lstS (prS intS intS)) a176) rfl ((fz_lst (fun _ => fz_sh)) _) (jb_nil (x := a176) rfl (weak_mask [true, true, true, false, false, true, false, false] _))) fun a178 =>
 jb_ret (weak_none _) (jn_tupG (P := (prS intS (tupS (prS intS intS)))) (g := fun z => (z.1, z.2.1)) (ja_cons (jn_var (E := intS) (a := a.1) 0) (ja_cons (tup_lst T.m_tuple (jn_var (E := (lstS (prS intS intS))) (a := a178) 5)) ja_nil))))) (by unfold M_law_closed; first | (dsimp only [CC.sb]; done) | (dsimp only [CC.sb]; rfl) | rfl)
def M_law_drawn (a : Int × Unit) (s : ((List Int) × Int × Int × Int)) : Option ((Int × (List (Int × Int))) × ((List Int) × Int × Int × Int)) :=
 (((M_law_draw (a.1, ()) s).bind fun r51 => some (r51.1, r51.2)).bind fun q52 => some ((1 : Int) + q52.1, q52.2)).bind fun a53 => ((M_law_shuffled (a53.1, ()) a53.2).bind fun r69 => some (r69.1, r69.2)).bind fun a70 => (((M_law_draw ((4 : Int), ()) a70.2).bind fun r77 => some (r77.1, r77.2)).bind fun q78 => (atI [(2 : Int), (3 : Int), (4 : Int), (6 : Int)] q78.1).bind fun z79 => some (z79, q78.2)).bind fun a80 => ((rng 0 a53.1).bind fun x110 => foldGo (fun x83 s84 => ((rng 0 x83).bind fun x108 => foldGo (fun x86 s87 => ((((M_law_draw (a80.1, ()) s87.1).bind fun r89 => some (r89.1, r89.2)).bind fun q91 => some (decide (q91.1 = (0 : Int)), q91.2)).bind fun q106 => bif q106.1 then ((((atI a70.1 x86).bind fun x100 => ((atI a70.1 x83).bind fun x101 => some (x101, ())).bind fun y102 => some (x100, y102)).bind fun z103 => some (z103.1, z103.2.1)).bind fun x104 => appM s87.2 x104).bind fun a105 => some (q106.2, a105) else some (q106.2, s87.2)).bind fun a107 => some (a107.1, a107.2)) x108 (s84.1, s84.2)).bind fun a109 => some (a109.1, a109.2)) x110 (a80.2, [])).bind fun a111 => (M_law_closed (a53.1, (a111.2, ()))).bind fun x179 => some (x179, a111.1)
theorem ok_law_drawn (T : Tx K mg) : FnOk P w K mg base CX0 3 T.a__law_drawn T.d__law_drawn ["src", "most"] (spS h0O (fun a : Int × Unit => [intS a.1]) M_law_drawn (fun x => sh ((prS intS (tupS (prS intS intS))) x))) :=
 fnd_state T.F__law_drawn sc__law_drawn (fun _ => rfl) (by decide) fun a s => JB.cong (
 jb_cons (js_setE (Γ := fun s49 : ((List Int) × Int × Int × Int) => [some (h0O s49), some (sh (intS a.1)), none, none, none, none, none, none]) (s := s) 2 sc__law_drawn.nd (je_bin oAdd ov_add (je_of jn_int) fun s50 => (je_callS (O := h0O) 0 (fun s => s) (fun s u => u) (ok_law_draw T) T.g__law_draw T.F__law_draw.kp T.b__law_draw (Nat.le_of_ble_eq_true rfl) (jea_of (ja_cons (jn_var (E := intS) (a := a.1) 1) ja_nil))))) fun a53 =>
 jb_cons (js_setE (Γ := fun s54 : ((List Int) × Int × Int × Int) => [some (h0O s54), some (sh (intS a.1)), some (sh (intS a53.1)), none, none, none, none, none]) (s := a53.2) 3 sc__law_drawn.nd (je_callS (O := h0O) 0 (fun s => s) (fun s u => u) (ok_law_shuffled T) T.g__law_shuffled T.F__law_shuffled.kp T.b__law_shuffled (Nat.le_of_ble_eq_true rfl) (jea_of (ja_cons (jn_var (E := intS) (a := a53.1) 2) ja_nil)))) fun a70 =>
 jb_cons (js_setE (Γ := fun s71 : ((List Int) × Int × Int × Int) => [some (h0O s71), some (sh (intS a.1)), some (sh (intS a53.1)), some ((lstO (fun x => sh (intS x))) a70.1), none, none, none, none]) (s := a70.2) 4 sc__law_drawn.nd (je_ix oIxL iv_lst (JE.frz (fz_lst (fun _ => fz_sh)) (je_of (jn_dispL (E := intS) (g := fun z => [z.1, z.2.1, z.2.2.1, z.2.2.2.1]) (ja_cons jn_int (ja_cons jn_int (ja_cons jn_int (ja_cons jn_int ja_nil))))))) fun s76 => (je_callS (O := h0O) 0 (fun s => s) (fun s u => u) (ok_law_draw T) T.g__law_draw T.F__law_draw.kp T.b__law_draw (Nat.le_of_ble_eq_true rfl) (jea_of (ja_cons jn_int ja_nil))))) fun a80 =>
 jb_cons (js_set 5 sc__law_drawn.nd (jn_nilLO (E := (fun x => sh ((prS intS intS) x))))) fun a81 =>
 jb_cons (js_forS (Γl := fun s82 : ((List Int) × Int × Int × Int) × (List (Int × Int)) => [some (h0O s82.1), some (sh (intS a.1)), some (sh (intS a53.1)), some ((lstO (fun x => sh (intS x))) a70.1), some (sh (intS a80.1)), some ((lstO (fun x => sh ((prS intS intS) x))) s82.2), none, none]) (a80.2, a81) (ji_rng1 T.m_range (jn_var (E := intS) (a := a53.1) 2)) (jg_name (E := intS) 6 sc__law_drawn.nd) (weak_mask [true, true, true, true, true, true, false, false] _) (fun _ => all_lt rfl) fun x83 s84 =>
 jb_cons (js_forS (Γl := fun s85 : ((List Int) × Int × Int × Int) × (List (Int × Int)) => [some (h0O s85.1), some (sh (intS a.1)), some (sh (intS a53.1)), some ((lstO (fun x => sh (intS x))) a70.1), some (sh (intS a80.1)), some ((lstO (fun x => sh ((prS intS intS) x))) s85.2), some (sh (intS x83)), none]) (s84.1, s84.2) (ji_rng1 T.m_range (jn_var (E := intS) (a := x83) 6)) (jg_name (E := intS) 7 sc__law_drawn.nd) (weak_mask [true, true, true, true, true, true, true, false] _) (fun _ => all_lt rfl) fun x86 s87 =>
 jb_cons (js_ifE (Γ := fun s88 : ((List Int) × Int × Int × Int) => [some (h0O s88), some (sh (intS a.1)), some (sh (intS a53.1)), some ((lstO (fun x => sh (intS x))) a70.1), some (sh (intS a80.1)), some ((lstO (fun x => sh ((prS intS intS) x))) s87.2), some (sh (intS x83)), some (sh (intS x86))]) (s := s87.1) (jte_cmp oEq ov_eqI (je_callS (O := h0O) 0 (fun s => s) (fun s u => u) (ok_law_draw T) T.g__law_draw T.F__law_draw.kp T.b__law_draw (Nat.le_of_ble_eq_true rfl) (jea_of (ja_cons (jn_var (E := intS) (a := a80.1) 4) ja_nil))) fun s90 => (je_of jn_int)) (D := fun v => Kd.nx ((fun v99 : ((List Int) × Int × Int × Int) × (List (Int × Int)) => [some (h0O v99.1), some (sh (intS a.1)), some (sh (intS a53.1)), some ((lstO (fun x => sh (intS x))) a70.1), some (sh (intS a80.1)), some ((lstO (fun x => sh ((prS intS intS) x))) v99.2), some (sh (intS x83)), some (sh (intS x86))]) v)) (fun s92 => jb_cons (js_app (E := (fun x => sh ((prS intS intS) x))) 5 (jn_tupG (P := (prS intS intS)) (g := fun z => (z.1, z.2.1)) (ja_cons (jn_of (jr_ix oIxL iv_lstO (jr_var (R := (lstO (fun x => sh (intS x)))) (a := a70.1) 3) (jn_var (E := intS) (a := x86) 7))) (ja_cons (jn_of (jr_ix oIxL iv_lstO (jr_var (R := (lstO (fun x => sh (intS x)))) (a := a70.1) 3) (jn_var (E := intS) (a := x83) 6))) ja_nil)))) fun a105 =>
 jb_nil (x := (s92, a105)) rfl (weak_mask [true, true, true, true, true, true, true, true] _)) fun s92 => jb_nil (x := (s92, s87.2)) rfl (weak_mask [true, true, true, true, true, true, true, true] _)) fun a107 =>
 jb_nil (x := (a107.1, a107.2)) rfl (weak_mask [true, true, true, true, true, true, true, false] _)) fun a109 =>
 jb_nil (x := (a109.1, a109.2)) rfl (weak_mask [true, true, true, true, true, true, false, false] _)) fun a111 =>
 JB.frz (i := 5) (o := (lstO (fun x => sh ((prS intS intS) x))) a111.2) (p := (lstS (prS intS intS)) a111.2) rfl ((fz_lst (fun _ => fz_sh)) _) (jb_retS (R := (fun x => sh ((prS intS (tupS (prS intS intS))) x))) (Δ := fun s => some (h0O s) :: nonC 7) (s := a111.1) (weak_mask [true, false, false, false, false, false, false, false] _) (jn_call (ok_law_closed T) T.g__law_closed T.F__law_closed.kp T.b__law_closed (Nat.le_of_ble_eq_true rfl) (ja_cons (jn_var (E := intS) (a := a53.1) 2) (ja_cons (jn_var (E := (lstS (prS intS intS))) (a := a111.2) 5) ja_nil))))) (by unfold M_law_drawn; first | (dsimp only [CC.sb]; done) | (dsimp only [CC.sb]; rfl) | rfl)
def M_law_eight (a : Unit) (s : ((List Int) × Int × Int × Int)) : Option ((Int × (List (Int × Int))) × ((List Int) × Int × Int × Int)) :=
 (((M_law_draw ((2 : Int), ()) s).bind fun r185 => some (r185.1, r185.2)).bind fun q186 => some ((7 : Int) + q186.1, q186.2)).bind fun a187 => ((M_law_shuffled (a187.1, ()) a187.2).bind fun r189 => some (r189.1, r189.2)).bind fun a190 => (((M_law_draw ((3 : Int), ()) a190.2).bind fun r193 => some (r193.1, r193.2)).bind fun q194 => some ((2 : Int) + q194.1, q194.2)).bind fun a195 => ((rng 0 a187.1).bind fun x228 => foldGo (fun x198 s199 => ((rng 0 x198).bind fun x226 => foldGo (fun x201 s202 => ((((bif decide (x198 < (4 : Int)) then some (decide (x201 = x198 - (1 : Int))) else some false).bind fun x204 => some (x204, s202.1)).bind fun q209 => bif q209.1 then some (true, q209.2) else ((M_law_draw (a195.1, ()) q209.2).bind fun r206 => some (r206.1, r206.2)).bind fun q208 => some (decide (q208.1 = (0 : Int)), q208.2)).bind fun q224 => bif q224.1 then ((((atI a190.1 x201).bind fun x218 => ((atI a190.1 x198).bind fun x219 => some (x219, ())).bind fun y220 => some (x218, y220)).bind fun z221 => some (z221.1, z221.2.1)).bind fun x222 => appM s202.2 x222).bind fun a223 => some (q224.2, a223) else some (q224.2, s202.2)).bind fun a225 => some (a225.1, a225.2)) x226 (s199.1, s199.2)).bind fun a227 => some (a227.1, a227.2)) x228 (a195.2, [])).bind fun a229 => (M_law_closed (a187.1, (a229.2, ()))).bind fun x230 => some (x230, a229.1)
theorem ok_law_eight (T : Tx K mg) : FnOk P w K mg base CX0 3 T.a__law_eight T.d__law_eight ["src"] (spS h0O (fun a : Unit => []) M_law_eight (fun x => sh ((prS intS (tupS (prS intS intS))) x))) :=
 fnd_state T.F__law_eight sc__law_eight (fun _ => rfl) (by decide) fun a s => JB.cong (
 jb_cons (js_setE (Γ := fun s183 : ((List Int) × Int × Int × Int) => [some (h0O s183), none, none, none, none, none, none]) (s := s) 1 sc__law_eight.nd (je_bin oAdd ov_add (je_of jn_int) fun s184 => (je_callS (O := h0O) 0 (fun s => s) (fun s u => u) (ok_law_draw T) T.g__law_draw T.F__law_draw.kp T.b__law_draw (Nat.le_of_ble_eq_true rfl) (jea_of (ja_cons jn_int ja_nil))))) fun a187 =>
 jb_cons (js_setE (Γ := fun s188 : ((List Int) × Int × Int × Int) => [some (h0O s188), some (sh (intS a187.1)), none, none, none, none, none]) (s := a187.2) 2 sc__law_eight.nd (je_callS (O := h0O) 0 (fun s => s) (fun s u => u) (ok_law_shuffled T) T.g__law_shuffled T.F__law_shuffled.kp T.b__law_shuffled (Nat.le_of_ble_eq_true rfl) (jea_of (ja_cons (jn_var (E := intS) (a := a187.1) 1) ja_nil)))) fun a190 =>
 jb_cons (js_setE (Γ := fun s191 : ((List Int) × Int × Int × Int) => [some (h0O s191), some (sh (intS a187.1)), some ((lstO (fun x => sh (intS x))) a190.1), none, none, none, none]) (s := a190.2) 3 sc__law_eight.nd (je_bin oAdd ov_add (je_of jn_int) fun s192 => (je_callS (O := h0O) 0 (fun s => s) (fun s u => u) (ok_law_draw T) T.g__law_draw T.F__law_draw.kp T.b__law_draw (Nat.le_of_ble_eq_true rfl) (jea_of (ja_cons jn_int ja_nil))))) fun a195 =>
 jb_cons (js_set 4 sc__law_eight.nd (jn_nilLO (E := (fun x => sh ((prS intS intS) x))))) fun a196 =>
 jb_cons (js_forS (Γl := fun s197 : ((List Int) × Int × Int × Int) × (List (Int × Int)) => [some (h0O s197.1), some (sh (intS a187.1)), some ((lstO (fun x => sh (intS x))) a190.1), some (sh (intS a195.1)), some ((lstO (fun x => sh ((prS intS intS) x))) s197.2), none, none]) (a195.2, a196) (ji_rng1 T.m_range (jn_var (E := intS) (a := a187.1) 1)) (jg_name (E := intS) 5 sc__law_eight.nd) (weak_mask [true, true, true, true, true, false, false] _) (fun _ => all_lt rfl) fun x198 s199 =>
 jb_cons (js_forS (Γl := fun s200 : ((List Int) × Int × Int × Int) × (List (Int × Int)) => [some (h0O s200.1), some (sh (intS a187.1)), some ((lstO (fun x => sh (intS x))) a190.1), some (sh (intS a195.1)), some ((lstO (fun x => sh ((prS intS intS) x))) s200.2), some (sh (intS x198)), none]) (s199.1, s199.2) (ji_rng1 T.m_range (jn_var (E := intS) (a := x198) 5)) (jg_name (E := intS) 6 sc__law_eight.nd) (weak_mask [true, true, true, true, true, true, false] _) (fun _ => all_lt rfl) fun x201 s202 =>
 jb_cons (js_ifE (Γ := fun s203 : ((List Int) × Int × Int × Int) => [some (h0O s203), some (sh (intS a187.1)), some ((lstO (fun x => sh (intS x))) a190.1), some (sh (intS a195.1)), some ((lstO (fun x => sh ((prS intS intS) x))) s202.2), some (sh (intS x198)), some (sh (intS x201))]) (s := s202.1) (jte_w (jwe_or (jte_of (jt_w (jw_and (jt_cmp oLt ov_lt (jn_var (E := intS) (a := x198) 5) jn_int) (jw_and1 (jt_cmp oEq ov_eqI (jn_var (E := intS) (a := x201) 6) (jn_bin oSub ov_sub (jn_var (E := intS) (a := x198) 5) jn_int)))))) fun s205 => (jwe_or1 (jte_cmp oEq ov_eqI (je_callS (O := h0O) 0 (fun s => s) (fun s u => u) (ok_law_draw T) T.g__law_draw T.F__law_draw.kp T.b__law_draw (Nat.le_of_ble_eq_true rfl) (jea_of (ja_cons (jn_var (E := intS) (a := a195.1) 3) ja_nil))) fun s207 => (je_of jn_int))))) (D := fun v => Kd.nx ((fun v217 : ((List Int) × Int × Int × Int) × (List (Int × Int)) => [some (h0O v217.1), some (sh (intS a187.1)), some ((lstO (fun x => sh (intS x))) a190.1), some (sh (intS a195.1)), some ((lstO (fun x => sh ((prS intS intS) x))) v217.2), some (sh (intS x198)), some (sh (intS x201))]) v)) (fun s210 => jb_cons (js_app (E := (fun x => sh ((prS intS intS) x))) 4 (jn_tupG (P := (prS intS intS)) (g := fun z => (z.1, z.2.1)) (ja_cons (jn_of (jr_ix oIxL iv_lstO (jr_var (R := (lstO (fun x => sh (intS x)))) (a := a190.1) 2) (jn_var (E := intS) (a := x201) 6))) (ja_cons (jn_of (jr_ix oIxL iv_lstO (jr_var (R := (lstO (fun x => sh (intS x)))) (a := a190.1) 2) (jn_var (E := intS) (a := x198) 5))) ja_nil)))) fun a223 =>
 jb_nil (x := (s210, a223)) rfl (weak_mask [true, true, true, true, true, true, true] _)) fun s210 => jb_nil (x := (s210, s202.2)) rfl (weak_mask [true, true, true, true, true, true, true] _)) fun a225 =>
 jb_nil (x := (a225.1, a225.2)) rfl (weak_mask [true, true, true, true, true, true, false] _)) fun a227 =>
 jb_nil (x := (a227.1, a227.2)) rfl (weak_mask [true, true, true, true, true, false, false] _)) fun a229 =>
 JB.frz (i := 4) (o := (lstO (fun x => sh ((prS intS intS) x))) a229.2) (p := (lstS (prS intS intS)) a229.2) rfl ((fz_lst (fun _ => fz_sh)) _) (jb_retS (R := (fun x => sh ((prS intS (tupS (prS intS intS))) x))) (Δ := fun s => some (h0O s) :: nonC 6) (s := a229.1) (weak_mask [true, false, false, false, false, false, false] _) (jn_call (ok_law_closed T) T.g__law_closed T.F__law_closed.kp T.b__law_closed (Nat.le_of_ble_eq_true rfl) (ja_cons (jn_var (E := intS) (a := a187.1) 1) (ja_cons (jn_var (E := (lstS (prS intS intS))) (a := a229.2) 4) ja_nil))))) (by unfold M_law_eight; first | (dsimp only [CC.sb]; done) | (dsimp only [CC.sb]; rfl) | rfl)
def M_law_two_ways (a : Unit) (s : ((List Int) × Int × Int × Int)) : Option ((Int × (List (Int × Int))) × ((List Int) × Int × Int × Int)) :=
 (((((M_law_draw ((3 : Int), ()) s).bind fun r236 => some (r236.1, r236.2)).bind fun q237 => some ((1 : Int) + q237.1, q237.2)).bind fun q244 => ((((M_law_draw ((3 : Int), ()) q244.2).bind fun r240 => some (r240.1, r240.2)).bind fun q241 => some ((1 : Int) + q241.1, q241.2)).bind fun q243 => some ((q243.1, ()), q243.2)).bind fun q245 => some ((q244.1, q245.1), q245.2)).bind fun q246 => some ([q246.1.1, q246.1.2.1], q246.2)).bind fun a247 => ((M_law_draw ((3 : Int), ()) a247.2).bind fun r249 => some (r249.1, r249.2)).bind fun a250 => ((((atI a247.1 (0 : Int)).bind fun x251 => some ((2 : Int) + x251)).bind fun x252 => (atI a247.1 (1 : Int)).bind fun x253 => some (x252 + x253)).bind fun x254 => some (x254 + a250.1)).bind fun a255 => ((M_law_shuffled (a255, ()) a250.2).bind fun r257 => some (r257.1, r257.2)).bind fun a258 => (foldGo (fun x262 s263 => (atI a258.1 (0 : Int)).bind fun a264 => ((rng 0 x262).bind fun x275 => foldGo (fun x266 s267 => (((((atI a258.1 s267.2.1).bind fun x268 => some (x268, ())).bind fun y269 => some (s267.2.2, y269)).bind fun z270 => some (z270.1, z270.2.1)).bind fun x271 => appM s267.1 x271).bind fun a272 => (atI a258.1 s267.2.1).bind fun a273 => some (a272, s267.2.1 + (1 : Int), a273)) x275 (s263.1, s263.2, a264)).bind fun a276 => (((((atI a258.1 (1 : Int)).bind fun x277 => some (x277, ())).bind fun y278 => some (a276.2.2, y278)).bind fun z279 => some (z279.1, z279.2.1)).bind fun x280 => appM a276.1 x280).bind fun a281 => some (a281, a276.2.1)) a247.1 ([], (2 : Int))).bind fun a282 => ((rng (a255 - a250.1) a255).bind fun x312 => foldGo (fun x288 s289 => (((M_law_draw (x288, ()) s289.1).bind fun r292 => some (r292.1, r292.2)).bind fun q293 => (atI a258.1 q293.1).bind fun z294 => some (z294, q293.2)).bind fun a295 => (((((M_law_draw ((2 : Int), ()) a295.2).bind fun r297 => some (r297.1, r297.2)).bind fun q299 => some (decide (q299.1 = (1 : Int)), q299.2)).bind fun q308 => bif q308.1 then ((((atI a258.1 x288).bind fun x301 => some (x301, ())).bind fun y302 => some (a295.1, y302)).bind fun z303 => some (z303.1, z303.2.1)).bind fun x304 => some (x304, q308.2) else (((atI a258.1 x288).bind fun x305 => some (x305, (a295.1, ()))).bind fun z306 => some (z306.1, z306.2.1)).bind fun x307 => some (x307, q308.2)).bind fun q309 => (appM s289.2 q309.1).bind fun r310 => some (r310, q309.2)).bind fun a311 => some (a311.2, a311.1)) x312 (a258.2, a282.1)).bind fun a313 => (M_law_closed (a255, (a313.2, ()))).bind fun x314 => some (x314, a313.1)
theorem ok_law_two_ways (T : Tx K mg) : FnOk P w K mg base CX0 3 T.a__law_two_ways T.d__law_two_ways ["src"] (spS h0O (fun a : Unit => []) M_law_two_ways (fun x => sh ((prS intS (tupS (prS intS intS))) x))) :=
 fnd_state T.F__law_two_ways sc__law_two_ways (fun _ => rfl) (by decide) fun a s => JB.cong (
 jb_cons (js_setE (Γ := fun s234 : ((List Int) × Int × Int × Int) => [some (h0O s234), none, none, none, none, none, none, none, none, none, none]) (s := s) 1 sc__law_two_ways.nd (je_dispL (E := intS) (g := fun z => [z.1, z.2.1]) (jea_cons (je_bin oAdd ov_add (je_of jn_int) fun s235 => (je_callS (O := h0O) 0 (fun s => s) (fun s u => u) (ok_law_draw T) T.g__law_draw T.F__law_draw.kp T.b__law_draw (Nat.le_of_ble_eq_true rfl) (jea_of (ja_cons jn_int ja_nil)))) fun s238 => (jea_cons (je_bin oAdd ov_add (je_of jn_int) fun s239 => (je_callS (O := h0O) 0 (fun s => s) (fun s u => u) (ok_law_draw T) T.g__law_draw T.F__law_draw.kp T.b__law_draw (Nat.le_of_ble_eq_true rfl) (jea_of (ja_cons jn_int ja_nil)))) fun s242 => jea_nil)))) fun a247 =>
 jb_cons (js_setE (Γ := fun s248 : ((List Int) × Int × Int × Int) => [some (h0O s248), some ((lstO (fun x => sh (intS x))) a247.1), none, none, none, none, none, none, none, none, none]) (s := a247.2) 2 sc__law_two_ways.nd (je_callS (O := h0O) 0 (fun s => s) (fun s u => u) (ok_law_draw T) T.g__law_draw T.F__law_draw.kp T.b__law_draw (Nat.le_of_ble_eq_true rfl) (jea_of (ja_cons jn_int ja_nil)))) fun a250 =>
 jb_cons (js_set 3 sc__law_two_ways.nd (jn_bin oAdd ov_add (jn_bin oAdd ov_add (jn_bin oAdd ov_add jn_int (jn_of (jr_ix oIxL iv_lstO (jr_var (R := (lstO (fun x => sh (intS x)))) (a := a247.1) 1) jn_int))) (jn_of (jr_ix oIxL iv_lstO (jr_var (R := (lstO (fun x => sh (intS x)))) (a := a247.1) 1) jn_int))) (jn_var (E := intS) (a := a250.1) 2))) fun a255 =>
 jb_cons (js_setE (Γ := fun s256 : ((List Int) × Int × Int × Int) => [some (h0O s256), some ((lstO (fun x => sh (intS x))) a247.1), some (sh (intS a250.1)), some (sh (intS a255)), none, none, none, none, none, none, none]) (s := a250.2) 4 sc__law_two_ways.nd (je_callS (O := h0O) 0 (fun s => s) (fun s u => u) (ok_law_shuffled T) T.g__law_shuffled T.F__law_shuffled.kp T.b__law_shuffled (Nat.le_of_ble_eq_true rfl) (jea_of (ja_cons (jn_var (E := intS) (a := a255) 3) ja_nil)))) fun a258 =>
 jb_cons (js_set 5 sc__law_two_ways.nd (jn_nilLO (E := (fun x => sh ((prS intS intS) x))))) fun a259 =>
 jb_cons (js_set 6 sc__law_two_ways.nd jn_int) fun a260 =>
 JB.frz (i := 1) (o := (lstO (fun x => sh (intS x))) a247.1) (p := (lstS intS) a247.1) rfl ((fz_lst (fun _ => fz_sh)) _) (jb_cons (js_forS (Γl := fun s261 : (List (Int × Int)) × Int => [some (h0O a258.2), some (sh ((lstS intS) a247.1)), some (sh (intS a250.1)), some (sh (intS a255)), some ((lstO (fun x => sh (intS x))) a258.1), some ((lstO (fun x => sh ((prS intS intS) x))) s261.1), some (sh (intS s261.2)), none, none, none, none]) (a259, a260) (ji_lst (jn_var (E := (lstS intS)) (a := a247.1) 1)) (jg_name (E := intS) 7 sc__law_two_ways.nd) (weak_mask [true, true, true, true, true, true, true, false, false, false, false] _) (fun _ => all_lt rfl) fun x262 s263 =>
 jb_cons (js_set 9 sc__law_two_ways.nd (jn_of (jr_ix oIxL iv_lstO (jr_var (R := (lstO (fun x => sh (intS x)))) (a := a258.1) 4) jn_int))) fun a264 =>
 jb_cons (js_forS (Γl := fun s265 : (List (Int × Int)) × Int × Int => [some (h0O a258.2), some (sh ((lstS intS) a247.1)), some (sh (intS a250.1)), some (sh (intS a255)), some ((lstO (fun x => sh (intS x))) a258.1), some ((lstO (fun x => sh ((prS intS intS) x))) s265.1), some (sh (intS s265.2.1)), some (sh (intS x262)), none, some (sh (intS s265.2.2)), none]) (s263.1, s263.2, a264) (ji_rng1 T.m_range (jn_var (E := intS) (a := x262) 7)) (jg_name (E := intS) 8 sc__law_two_ways.nd) (weak_mask [true, true, true, true, true, true, true, true, false, true, false] _) (fun _ => all_lt rfl) fun x266 s267 =>
 jb_cons (js_app (E := (fun x => sh ((prS intS intS) x))) 5 (jn_tupG (P := (prS intS intS)) (g := fun z => (z.1, z.2.1)) (ja_cons (jn_var (E := intS) (a := s267.2.2) 9) (ja_cons (jn_of (jr_ix oIxL iv_lstO (jr_var (R := (lstO (fun x => sh (intS x)))) (a := a258.1) 4) (jn_var (E := intS) (a := s267.2.1) 6))) ja_nil)))) fun a272 =>
 jb_cons (js_set 9 sc__law_two_ways.nd (jn_of (jr_ix oIxL iv_lstO (jr_var (R := (lstO (fun x => sh (intS x)))) (a := a258.1) 4) (jn_var (E := intS) (a := s267.2.1) 6)))) fun a273 =>
 jb_cons (js_set 6 sc__law_two_ways.nd (jn_bin oAdd ov_add (jn_var (E := intS) (a := s267.2.1) 6) jn_int)) fun a274 =>
 jb_nil (x := (a272, a274, a273)) rfl (weak_mask [true, true, true, true, true, true, true, true, false, true, false] _)) fun a276 =>
 jb_cons (js_app (E := (fun x => sh ((prS intS intS) x))) 5 (jn_tupG (P := (prS intS intS)) (g := fun z => (z.1, z.2.1)) (ja_cons (jn_var (E := intS) (a := a276.2.2) 9) (ja_cons (jn_of (jr_ix oIxL iv_lstO (jr_var (R := (lstO (fun x => sh (intS x)))) (a := a258.1) 4) jn_int)) ja_nil)))) fun a281 =>
 jb_nil (x := (a281, a276.2.1)) rfl (weak_mask [true, true, true, true, true, true, true, false, false, false, false] _)) fun a282 =>
 JB.frz (i := 4) (o := (lstO (fun x => sh (intS x))) a258.1) (p := (lstS intS) a258.1) rfl ((fz_lst (fun _ => fz_sh)) _) (jb_cons (js_forS (Γl := fun s287 : ((List Int) × Int × Int × Int) × (List (Int × Int)) => [some (h0O s287.1), some (sh ((lstS intS) a247.1)), some (sh (intS a250.1)), some (sh (intS a255)), some (sh ((lstS intS) a258.1)), some ((lstO (fun x => sh ((prS intS intS) x))) s287.2), some (sh (intS a282.2)), none, none, none, none]) (a258.2, a282.1) (ji_rng2 T.m_range (jn_bin oSub ov_sub (jn_var (E := intS) (a := a255) 3) (jn_var (E := intS) (a := a250.1) 2)) (jn_var (E := intS) (a := a255) 3)) (jg_name (E := intS) 8 sc__law_two_ways.nd) (weak_mask [true, true, true, true, true, true, true, false, false, false, false] _) (fun _ => all_lt rfl) fun x288 s289 =>
 jb_cons (js_setE (Γ := fun s290 : ((List Int) × Int × Int × Int) => [some (h0O s290), some (sh ((lstS intS) a247.1)), some (sh (intS a250.1)), some (sh (intS a255)), some (sh ((lstS intS) a258.1)), some ((lstO (fun x => sh ((prS intS intS) x))) s289.2), some (sh (intS a282.2)), none, some (sh (intS x288)), none, none]) (s := s289.1) 10 sc__law_two_ways.nd (je_ix oIxL iv_lst (je_of (jn_var (E := (lstS intS)) (a := a258.1) 4)) fun s291 => (je_callS (O := h0O) 0 (fun s => s) (fun s u => u) (ok_law_draw T) T.g__law_draw T.F__law_draw.kp T.b__law_draw (Nat.le_of_ble_eq_true rfl) (jea_of (ja_cons (jn_var (E := intS) (a := x288) 8) ja_nil))))) fun a295 =>
 jb_cons (js_appE (E := (fun x => sh ((prS intS intS) x))) (Γ := fun s296 : ((List Int) × Int × Int × Int) => [some (h0O s296), some (sh ((lstS intS) a247.1)), some (sh (intS a250.1)), some (sh (intS a255)), some (sh ((lstS intS) a258.1)), some ((lstO (fun x => sh ((prS intS intS) x))) s289.2), some (sh (intS a282.2)), none, some (sh (intS x288)), none, some (sh (intS a295.1))]) (s := a295.2) 5 (fun _ => s289.2) (je_if (jte_cmp oEq ov_eqI (je_callS (O := h0O) 0 (fun s => s) (fun s u => u) (ok_law_draw T) T.g__law_draw T.F__law_draw.kp T.b__law_draw (Nat.le_of_ble_eq_true rfl) (jea_of (ja_cons jn_int ja_nil))) fun s298 => (je_of jn_int)) (fun s300 => (je_of (jn_tupG (P := (prS intS intS)) (g := fun z => (z.1, z.2.1)) (ja_cons (jn_var (E := intS) (a := a295.1) 10) (ja_cons (jn_of (jr_ix oIxL iv_lst (jr_of (jn_var (E := (lstS intS)) (a := a258.1) 4)) (jn_var (E := intS) (a := x288) 8))) ja_nil))))) fun s300 => (je_of (jn_tupG (P := (prS intS intS)) (g := fun z => (z.1, z.2.1)) (ja_cons (jn_of (jr_ix oIxL iv_lst (jr_of (jn_var (E := (lstS intS)) (a := a258.1) 4)) (jn_var (E := intS) (a := x288) 8))) (ja_cons (jn_var (E := intS) (a := a295.1) 10) ja_nil)))))) fun a311 =>
 jb_nil (x := (a311.2, a311.1)) rfl (weak_mask [true, true, true, true, true, true, true, false, false, false, false] _)) fun a313 =>
 JB.frz (i := 5) (o := (lstO (fun x => sh ((prS intS intS) x))) a313.2) (p := (lstS (prS intS intS)) a313.2) rfl ((fz_lst (fun _ => fz_sh)) _) (jb_retS (R := (fun x => sh ((prS intS (tupS (prS intS intS))) x))) (Δ := fun s => some (h0O s) :: nonC 10) (s := a313.1) (weak_mask [true, false, false, false, false, false, false, false, false, false, false] _) (jn_call (ok_law_closed T) T.g__law_closed T.F__law_closed.kp T.b__law_closed (Nat.le_of_ble_eq_true rfl) (ja_cons (jn_var (E := intS) (a := a255) 3) (ja_cons (jn_var (E := (lstS (prS intS intS))) (a := a313.2) 5) ja_nil))))))) (by unfold M_law_two_ways; first | (dsimp only [CC.sb]; done) | (dsimp only [CC.sb]; rfl) | rfl)
def M_law_ring (a : Int × Unit) (s : ((List Int) × Int × Int × Int)) : Option ((Int × (List (Int × Int))) × ((List Int) × Int × Int × Int)) :=
 (((M_law_draw (a.1 - (1 : Int), ()) s).bind fun r321 => some (r321.1, r321.2)).bind fun q322 => some ((2 : Int) + q322.1, q322.2)).bind fun a323 => (((((mulO (2 : Int) a323.1).bind fun x325 => some (x325, ())).bind fun z326 => some z326).bind fun x327 => some (x327, a323.2)).bind fun q328 => (M_law_shuffled q328.1 q328.2).bind fun r329 => some (r329.1, r329.2)).bind fun a330 => ((rng 0 a323.1).bind fun x348 => foldGo (fun x333 s334 => ((((atI a330.1 x333).bind fun x335 => ((atI a330.1 (a323.1 + x333)).bind fun x336 => some (x336, ())).bind fun y337 => some (x335, y337)).bind fun z338 => some (z338.1, z338.2.1)).bind fun x339 => appM s334 x339).bind fun a340 => (((((modO (x333 + (1 : Int)) a323.1).bind fun x341 => atI a330.1 x341).bind fun x342 => ((atI a330.1 (a323.1 + x333)).bind fun x343 => some (x343, ())).bind fun y344 => some (x342, y344)).bind fun z345 => some (z345.1, z345.2.1)).bind fun x346 => appM a340 x346).bind fun a347 => some a347) x348 []).bind fun a349 => (((mulO (2 : Int) a323.1).bind fun x352 => some (x352, (a349, ()))).bind fun z353 => M_law_closed z353).bind fun x354 => some (x354, a330.2)
theorem ok_law_ring (T : Tx K mg) : FnOk P w K mg base CX0 3 T.a__law_ring T.d__law_ring ["src", "most"] (spS h0O (fun a : Int × Unit => [intS a.1]) M_law_ring (fun x => sh ((prS intS (tupS (prS intS intS))) x))) :=
 fnd_state T.F__law_ring sc__law_ring (fun _ => rfl) (by decide) fun a s => JB.cong (
 jb_cons (js_setE (Γ := fun s319 : ((List Int) × Int × Int × Int) => [some (h0O s319), some (sh (intS a.1)), none, none, none, none]) (s := s) 2 sc__law_ring.nd (je_bin oAdd ov_add (je_of jn_int) fun s320 => (je_callS (O := h0O) 0 (fun s => s) (fun s u => u) (ok_law_draw T) T.g__law_draw T.F__law_draw.kp T.b__law_draw (Nat.le_of_ble_eq_true rfl) (jea_of (ja_cons (jn_bin oSub ov_sub (jn_var (E := intS) (a := a.1) 1) jn_int) ja_nil))))) fun a323 =>
 jb_cons (js_setE (Γ := fun s324 : ((List Int) × Int × Int × Int) => [some (h0O s324), some (sh (intS a.1)), some (sh (intS a323.1)), none, none, none]) (s := a323.2) 3 sc__law_ring.nd (je_callS (O := h0O) 0 (fun s => s) (fun s u => u) (ok_law_shuffled T) T.g__law_shuffled T.F__law_shuffled.kp T.b__law_shuffled (Nat.le_of_ble_eq_true rfl) (jea_of (ja_cons (jn_bin oMul ov_mul jn_int (jn_var (E := intS) (a := a323.1) 2)) ja_nil)))) fun a330 =>
 jb_cons (js_set 4 sc__law_ring.nd (jn_nilLO (E := (fun x => sh ((prS intS intS) x))))) fun a331 =>
 jb_cons (js_forS (Γl := fun s332 : (List (Int × Int)) => [some (h0O a330.2), some (sh (intS a.1)), some (sh (intS a323.1)), some ((lstO (fun x => sh (intS x))) a330.1), some ((lstO (fun x => sh ((prS intS intS) x))) s332), none]) a331 (ji_rng1 T.m_range (jn_var (E := intS) (a := a323.1) 2)) (jg_name (E := intS) 5 sc__law_ring.nd) (weak_mask [true, true, true, true, true, false] _) (fun _ => all_lt rfl) fun x333 s334 =>
 jb_cons (js_app (E := (fun x => sh ((prS intS intS) x))) 4 (jn_tupG (P := (prS intS intS)) (g := fun z => (z.1, z.2.1)) (ja_cons (jn_of (jr_ix oIxL iv_lstO (jr_var (R := (lstO (fun x => sh (intS x)))) (a := a330.1) 3) (jn_var (E := intS) (a := x333) 5))) (ja_cons (jn_of (jr_ix oIxL iv_lstO (jr_var (R := (lstO (fun x => sh (intS x)))) (a := a330.1) 3) (jn_bin oAdd ov_add (jn_var (E := intS) (a := a323.1) 2) (jn_var (E := intS) (a := x333) 5)))) ja_nil)))) fun a340 =>
 jb_cons (js_app (E := (fun x => sh ((prS intS intS) x))) 4 (jn_tupG (P := (prS intS intS)) (g := fun z => (z.1, z.2.1)) (ja_cons (jn_of (jr_ix oIxL iv_lstO (jr_var (R := (lstO (fun x => sh (intS x)))) (a := a330.1) 3) (jn_bin oMod ov_mod (int_int T.m_int (jn_bin oAdd ov_add (jn_var (E := intS) (a := x333) 5) jn_int)) (jn_var (E := intS) (a := a323.1) 2)))) (ja_cons (jn_of (jr_ix oIxL iv_lstO (jr_var (R := (lstO (fun x => sh (intS x)))) (a := a330.1) 3) (jn_bin oAdd ov_add (jn_var (E := intS) (a := a323.1) 2) (jn_var (E := intS) (a := x333) 5)))) ja_nil)))) fun a347 =>
 jb_nil (x := a347) rfl (weak_mask [true, true, true, true, true, false] _)) fun a349 =>
 JB.frz (i := 4) (o := (lstO (fun x => sh ((prS intS intS) x))) a349) (p := (lstS (prS intS intS)) a349) rfl ((fz_lst (fun _ => fz_sh)) _) (jb_retS (R := (fun x => sh ((prS intS (tupS (prS intS intS))) x))) (Δ := fun s => some (h0O s) :: nonC 5) (s := a330.2) (weak_mask [true, false, false, false, false, false] _) (jn_call (ok_law_closed T) T.g__law_closed T.F__law_closed.kp T.b__law_closed (Nat.le_of_ble_eq_true rfl) (ja_cons (jn_bin oMul ov_mul jn_int (jn_var (E := intS) (a := a323.1) 2)) (ja_cons (jn_var (E := (lstS (prS intS intS))) (a := a349) 4) ja_nil))))) (by unfold M_law_ring; first | (dsimp only [CC.sb]; done) | (dsimp only [CC.sb]; rfl) | rfl)
def M_law_renamed (a : (Int × (List (Int × Int))) × ((List Int) × Unit)) : Option (Int × (List (Int × Int))) :=
 (((((mapM (fun x413 => ((atI a.2.1 x413.1).bind fun x414 => ((atI a.2.1 x413.2).bind fun x415 => some (x415, ())).bind fun y416 => some (x414, y416)).bind fun z417 => some (z417.1, z417.2.1)) a.1.2).bind fun x418 => some (sortP x418)).bind fun x => some x).bind fun x419 => some (x419, ())).bind fun y420 => some (a.1.1, y420)).bind fun z421 => some (z421.1, z421.2.1)
theorem ok_law_renamed (T : Tx K mg) : FnOk P w K mg base CX0 1 T.a__law_renamed T.d__law_renamed ["world", "names"] (spP (fun a : (Int × (List (Int × Int))) × ((List Int) × Unit) => [(prS intS (tupS (prS intS intS))) a.1, (lstS intS) a.2.1]) M_law_renamed (fun x => sh ((prS intS (tupS (prS intS intS))) x))) :=
 fnd_pure (Δ := nonC 3) T.F__law_renamed sc__law_renamed (fun _ => rfl) (by decide) fun a => JB.cong (
 jb_ret (weak_none _) (jn_tupG (P := (prS intS (tupS (prS intS intS)))) (g := fun z => (z.1, z.2.1)) (ja_cons (jn_ixT (E := intS) (g := fun z => z.1) 0 (jn_var (E := (prS intS (tupS (prS intS intS)))) (a := a.1) 0)) (ja_cons (tup_lst T.m_tuple (JN.frz (fz_lst (fun _ => fz_sh)) (sorted_prs T.m_sorted (JN.frz (fz_lst (fun _ => fz_sh)) (jn_lc sc__law_renamed.nd (jc_map [("one", 2)] (jic_of (ji_tup (jn_ixT (E := (tupS (prS intS intS))) (g := fun z => z.2) 1 (jn_var (E := (prS intS (tupS (prS intS intS)))) (a := a.1) 0)))) (show blkC ["world", "names", "one"] (defScope s__law_renamed) _ [("one", 2)] = true by decide +kernel) (jg_name (E := (prS intS intS)) 2 sc__law_renamed.nd) (by decide) (all_lt rfl) fun x413 => (jn_tupG (P := (prS intS intS)) (g := fun z => (z.1, z.2.1)) (ja_cons (jn_of (jr_ix oIxL iv_lst (jr_of (jn_var (E := (lstS intS)) (a := a.2.1) 1)) (jn_ixT (E := intS) (g := fun z => z.1) 0 (jn_var (E := (prS intS intS)) (a := x413) 2)))) (ja_cons (jn_of (jr_ix oIxL iv_lst (jr_of (jn_var (E := (lstS intS)) (a := a.2.1) 1)) (jn_ixT (E := intS) (g := fun z => z.2) 1 (jn_var (E := (prS intS intS)) (a := x413) 2)))) ja_nil))))))))) ja_nil)))) (by unfold M_law_renamed; first | (dsimp only [CC.sb]; done) | (dsimp only [CC.sb]; rfl) | rfl)
def M_law_two_crowns (a : Unit) (s : ((List Int) × Int × Int × Int)) : Option ((Int × (List (Int × Int))) × ((List Int) × Int × Int × Int)) :=
 (foldGo (fun x369 s370 => ((rng 0 (2 : Int)).bind fun x378 => foldGo (fun x372 s373 => (((rng 0 (2 : Int)).bind fun x375 => mapM (fun x374 => some (x369 + x372, (x369 + (2 : Int)) + x374)) x375).bind fun x376 => catM s373 x376).bind fun a377 => some a377) x378 s370).bind fun a379 => some a379) [(0 : Int), (4 : Int)] []).bind fun a380 => ((((M_law_draw ((2 : Int), ()) s).bind fun r382 => some (r382.1, r382.2)).bind fun q384 => some (decide (q384.1 = (1 : Int)), q384.2)).bind fun q405 => bif q405.1 then ((rng 0 (4 : Int)).bind fun x403 => foldGo (fun x397 s398 => (((rng (4 : Int) (8 : Int)).bind fun x400 => mapM (fun x399 => some (x397, x399)) x400).bind fun x401 => catM s398 x401).bind fun a402 => some a402) x403 a380).bind fun a404 => some (q405.2, a404) else some (q405.2, a380)).bind fun a406 => ((((M_law_shuffled ((8 : Int), ()) a406.1).bind fun r409 => some (r409.1, r409.2)).bind fun q411 => some ((q411.1, ()), q411.2)).bind fun q412 => some ((((8 : Int), a406.2), q412.1), q412.2)).bind fun q422 => (M_law_renamed q422.1).bind fun r423 => some (r423, q422.2)
theorem ok_law_two_crowns (T : Tx K mg) : FnOk P w K mg base CX0 3 T.a__law_two_crowns T.d__law_two_crowns ["src"] (spS h0O (fun a : Unit => []) M_law_two_crowns (fun x => sh ((prS intS (tupS (prS intS intS))) x))) :=
 fnd_state T.F__law_two_crowns sc__law_two_crowns (fun _ => rfl) (by decide) fun a s => JB.cong (
 jb_cons (js_set 1 sc__law_two_crowns.nd (jn_nilLO (E := (fun x => sh ((prS intS intS) x))))) fun a356 =>
 JB.frz (i := 1) (o := (lstO (fun x => sh ((prS intS intS) x))) a356) (p := (lstS (prS intS intS)) a356) rfl ((fz_lst (fun _ => fz_sh)) _) (jb_cons (js_forS (Γl := fun s368 : (List (Int × Int)) => [some (h0O s), some (sh ((lstS (prS intS intS)) s368)), none, none, none]) a356 (ji_tup (jn_dispT (E := intS) (g := fun z => [z.1, z.2.1]) (ja_cons jn_int (ja_cons jn_int ja_nil)))) (jg_name (E := intS) 2 sc__law_two_crowns.nd) (weak_mask [true, true, false, false, false] _) (fun _ => all_lt rfl) fun x369 s370 =>
 jb_cons (js_forS (Γl := fun s371 : (List (Int × Int)) => [some (h0O s), some (sh ((lstS (prS intS intS)) s371)), some (sh (intS x369)), none, none]) s370 (ji_rng1 T.m_range jn_int) (jg_name (E := intS) 3 sc__law_two_crowns.nd) (weak_mask [true, true, true, false, false] _) (fun _ => all_lt rfl) fun x372 s373 =>
 jb_cons (js_set 1 sc__law_two_crowns.nd (jn_bin oCat ov_cat (jn_var (E := (lstS (prS intS intS))) (a := s373) 1) (JN.frz (fz_lst (fun _ => fz_sh)) (jn_lc sc__law_two_crowns.nd (jc_map [("y", 4)] (jic_of (ji_rng1 T.m_range jn_int)) (show blkC ["src", "pairs", "at", "x", "y"] (defScope s__law_two_crowns) _ [("y", 4)] = true by decide +kernel) (jg_name (E := intS) 4 sc__law_two_crowns.nd) (by decide) (all_lt rfl) fun x374 => (jn_tupG (P := (prS intS intS)) (g := fun z => (z.1, z.2.1)) (ja_cons (jn_bin oAdd ov_add (jn_var (E := intS) (a := x369) 2) (jn_var (E := intS) (a := x372) 3)) (ja_cons (jn_bin oAdd ov_add (jn_bin oAdd ov_add (jn_var (E := intS) (a := x369) 2) jn_int) (jn_var (E := intS) (a := x374) 4)) ja_nil)))))))) fun a377 =>
 JB.frz (i := 1) (o := (lstO (fun x => sh ((prS intS intS) x))) a377) (p := (lstS (prS intS intS)) a377) rfl ((fz_lst (fun _ => fz_sh)) _) (jb_nil (x := a377) rfl (weak_mask [true, true, true, false, false] _))) fun a379 =>
 jb_nil (x := a379) rfl (weak_mask [true, true, false, false, false] _)) fun a380 =>
 jb_cons (js_ifE (Γ := fun s381 : ((List Int) × Int × Int × Int) => [some (h0O s381), some (sh ((lstS (prS intS intS)) a380)), none, none, none]) (s := s) (jte_cmp oEq ov_eqI (je_callS (O := h0O) 0 (fun s => s) (fun s u => u) (ok_law_draw T) T.g__law_draw T.F__law_draw.kp T.b__law_draw (Nat.le_of_ble_eq_true rfl) (jea_of (ja_cons jn_int ja_nil))) fun s383 => (je_of jn_int)) (D := fun v => Kd.nx ((fun v395 : ((List Int) × Int × Int × Int) × (List (Int × Int)) => [some (h0O v395.1), some (sh ((lstS (prS intS intS)) v395.2)), none, none, none]) v)) (fun s385 => jb_cons (js_forS (Γl := fun s396 : (List (Int × Int)) => [some (h0O s385), some (sh ((lstS (prS intS intS)) s396)), none, none, none]) a380 (ji_rng1 T.m_range jn_int) (jg_name (E := intS) 3 sc__law_two_crowns.nd) (weak_mask [true, true, false, false, false] _) (fun _ => all_lt rfl) fun x397 s398 =>
 jb_cons (js_set 1 sc__law_two_crowns.nd (jn_bin oCat ov_cat (jn_var (E := (lstS (prS intS intS))) (a := s398) 1) (JN.frz (fz_lst (fun _ => fz_sh)) (jn_lc sc__law_two_crowns.nd (jc_map [("y", 4)] (jic_of (ji_rng2 T.m_range jn_int jn_int)) (show blkC ["src", "pairs", "at", "x", "y"] (defScope s__law_two_crowns) _ [("y", 4)] = true by decide +kernel) (jg_name (E := intS) 4 sc__law_two_crowns.nd) (by decide) (all_lt rfl) fun x399 => (jn_tupG (P := (prS intS intS)) (g := fun z => (z.1, z.2.1)) (ja_cons (jn_var (E := intS) (a := x397) 3) (ja_cons (jn_var (E := intS) (a := x399) 4) ja_nil)))))))) fun a402 =>
 JB.frz (i := 1) (o := (lstO (fun x => sh ((prS intS intS) x))) a402) (p := (lstS (prS intS intS)) a402) rfl ((fz_lst (fun _ => fz_sh)) _) (jb_nil (x := a402) rfl (weak_mask [true, true, false, false, false] _))) fun a404 =>
 jb_nil (x := (s385, a404)) rfl (weak_mask [true, true, false, false, false] _)) fun s385 => jb_nil (x := (s385, a380)) rfl (weak_mask [true, true, false, false, false] _)) fun a406 =>
 jb_retE (R := (fun x => sh ((prS intS (tupS (prS intS intS))) x))) (Γ := fun s407 : ((List Int) × Int × Int × Int) => [some (h0O s407), some (sh ((lstS (prS intS intS)) a406.2)), none, none, none]) (s := a406.1) (Δ := fun s => some (h0O s) :: nonC 4) (fun _ => (weak_mask [true, false, false, false, false] _)) (je_call (ok_law_renamed T) T.g__law_renamed T.F__law_renamed.kp T.b__law_renamed (Nat.le_of_ble_eq_true rfl) (jea_cons (je_of (jn_tupG (P := (prS intS (tupS (prS intS intS)))) (g := fun z => (z.1, z.2.1)) (ja_cons jn_int (ja_cons (tup_lst T.m_tuple (jn_var (E := (lstS (prS intS intS))) (a := a406.2) 1)) ja_nil)))) fun s408 => (jea_cons (JE.frz (fz_lst (fun _ => fz_sh)) (je_callS (O := h0O) 0 (fun s => s) (fun s u => u) (ok_law_shuffled T) T.g__law_shuffled T.F__law_shuffled.kp T.b__law_shuffled (Nat.le_of_ble_eq_true rfl) (jea_of (ja_cons jn_int ja_nil)))) fun s410 => jea_nil))))) (by unfold M_law_two_crowns; first | (dsimp only [CC.sb]; done) | (dsimp only [CC.sb]; rfl) | rfl)
def M_law_table (a : (Int × (List (Int × Int))) × Unit) : Option (List (List Bool)) :=
 ((rng 0 a.1.1).bind fun x517 => mapM (fun x514 => (rng 0 a.1.1).bind fun x516 => mapM (fun x515 => some false) x516) x517).bind fun a518 => (foldGo (fun x520 s521 => (setAt2 s521 x520.1 x520.2 true).bind fun a522 => some a522) a.1.2 a518).bind fun a523 => some a523
theorem ok_law_table (T : Tx K mg) : FnOk P w K mg base CX0 1 T.a__law_table T.d__law_table ["world"] (spP (fun a : (Int × (List (Int × Int))) × Unit => [(prS intS (tupS (prS intS intS))) a.1]) M_law_table (lstO (lstO (fun x => sh (boolS x))))) :=
 fnd_pure (Δ := nonC 5) T.F__law_table sc__law_table (fun _ => rfl) (by decide) fun a => JB.cong (
 jb_cons (js_setLc 1 sc__law_table.nd (jc_map [("x", 3)] (jic_of (ji_rng1 T.m_range (jn_ixT (E := intS) (g := fun z => z.1) 0 (jn_var (E := (prS intS (tupS (prS intS intS)))) (a := a.1) 0)))) (show blkC ["world", "up", "one", "x", "y"] (defScope s__law_table) _ [("x", 3)] = true by decide +kernel) (jg_name (E := intS) 3 sc__law_table.nd) (by decide) (all_lt rfl) fun x514 => (jn_lc sc__law_table.nd (jc_map [("y", 4)] (jic_of (ji_rng1 T.m_range (jn_ixT (E := intS) (g := fun z => z.1) 0 (jn_var (E := (prS intS (tupS (prS intS intS)))) (a := a.1) 0)))) (show blkC ["world", "up", "one", "x", "y"] (relS _ (defScope s__law_table)) _ [("y", 4)] = true by decide +kernel) (jg_name (E := intS) 4 sc__law_table.nd) (by decide) (all_lt rfl) fun x515 => jn_bl)))) fun a518 =>
 jb_cons (js_forS (Γl := fun s519 : (List (List Bool)) => [some (sh ((prS intS (tupS (prS intS intS))) a.1)), some ((lstO (lstO (fun x => sh (boolS x)))) s519), none, none, none]) a518 (ji_tup (jn_ixT (E := (tupS (prS intS intS))) (g := fun z => z.2) 1 (jn_var (E := (prS intS (tupS (prS intS intS)))) (a := a.1) 0))) (jg_name (E := (prS intS intS)) 2 sc__law_table.nd) (weak_mask [true, true, false, false, false] _) (fun _ => all_lt rfl) fun x520 s521 =>
 jb_cons (js_setI2 (E := boolS) 1 jn_bl (jn_ixT (E := intS) (g := fun z => z.1) 0 (jn_var (E := (prS intS intS)) (a := x520) 2)) (jn_ixT (E := intS) (g := fun z => z.2) 1 (jn_var (E := (prS intS intS)) (a := x520) 2))) fun a522 =>
 jb_nil (x := a522) rfl (weak_mask [true, true, false, false, false] _)) fun a523 =>
 jb_retO (R := (lstO (lstO (fun x => sh (boolS x))))) 1 (weak_none _)) (by unfold M_law_table; first | (dsimp only [CC.sb]; done) | (dsimp only [CC.sb]; rfl) | rfl)
def M_law_symmetries (a : (Int × (List (Int × Int))) × Unit) : Option (List (List Int)) :=
 (M_law_table (a.1, ())).bind fun a524 => ((rng 0 a.1.1).bind fun x538 => mapM (fun x525 => ((((rng 0 a.1.1).bind fun x528 => compM (fun x526 => (atI a524 x526).bind fun x527 => atI x527 x525) (fun x526 => some x526) x528).bind fun x529 => some (x529.length : Int)).bind fun x534 => ((((rng 0 a.1.1).bind fun x532 => compM (fun x530 => (atI a524 x525).bind fun x531 => atI x531 x530) (fun x530 => some x530) x532).bind fun x533 => some (x533.length : Int)).bind fun x535 => some (x535, ())).bind fun y536 => some (x534, y536)).bind fun z537 => some (z537.1, z537.2.1)) x538).bind fun a539 => ((rng 0 a.1.1).bind fun x592 => loopGo (fun x547 s548 => (loopGo (fun x551 s552 => ((rng 0 a.1.1).bind fun x584 => loopGo (fun x554 s555 => ((((atI a539 x554).bind fun x556 => some (PV.tup [PV.int x556.1, PV.int x556.2])).bind fun x558 => ((atI a539 x547).bind fun x557 => some (PV.tup [PV.int x557.1, PV.int x557.2])).bind fun x559 => neP x558 x559).bind fun x560 => bif x560 then some true else some (decide (x554 ∈ x551))).bind fun x583 => bif x583 then (some s555).bind fun y582 => some (Out.ct y582) else ((((rng 0 x547).bind fun x573 => mapM (fun x561 => (((atI a524 x561).bind fun x562 => atI x562 x547).bind fun x565 => (((atI x551 x561).bind fun x563 => atI a524 x563).bind fun x564 => atI x564 x554).bind fun x566 => some (decide (x565 = x566))).bind fun x572 => bif x572 then ((atI a524 x547).bind fun x567 => atI x567 x561).bind fun x570 => ((atI a524 x554).bind fun x568 => (atI x551 x561).bind fun x569 => atI x568 x569).bind fun x571 => some (decide (x570 = x571)) else some false) x573).bind fun x574 => some (x574.all id)).bind fun x580 => bif x580 then ((catM x551 [x554]).bind fun x578 => appM s555 x578).bind fun a579 => some a579 else some s555).bind fun a581 => some (Out.nx a581)) x584 s552).bind fun o586 => o586.k (fun a585 => some (Out.nx a585)) fun r587 => some (Out.rt r587)) s548 []).bind fun o590 => o590.k (fun a588 => some (Out.nx a588)) fun r591 => some (Out.rt r591)) x592 [[]]).bind fun o594 => o594.k (fun a593 => some a593) fun r595 => some ((fun r => r) r595)
theorem ok_law_symmetries (T : Tx K mg) : FnOk P w K mg base CX0 2 T.a__law_symmetries T.d__law_symmetries ["world"] (spP (fun a : (Int × (List (Int × Int))) × Unit => [(prS intS (tupS (prS intS intS))) a.1]) M_law_symmetries (fun x => sh ((tupS (tupS intS)) x))) :=
 fnd_pure (Δ := nonC 10) T.F__law_symmetries sc__law_symmetries (fun _ => rfl) (by decide) fun a => JB.cong (
 jb_cons (js_set 1 sc__law_symmetries.nd (jn_ixT (E := intS) (g := fun z => z.1) 0 (jn_var (E := (prS intS (tupS (prS intS intS)))) (a := a.1) 0))) fun a513 =>
 jb_cons (js_set 2 sc__law_symmetries.nd (jn_call (ok_law_table T) T.g__law_table T.F__law_table.kp T.b__law_table (Nat.le_of_ble_eq_true rfl) (ja_cons (jn_var (E := (prS intS (tupS (prS intS intS)))) (a := a.1) 0) ja_nil))) fun a524 =>
 jb_cons (js_setLc 3 sc__law_symmetries.nd (jc_map [("x", 5)] (jic_of (ji_rng1 T.m_range (jn_var (E := intS) (a := a513) 1))) (show blkC ["world", "size", "up", "sign", "rows", "x", "longer", "row", "v", "y"] (defScope s__law_symmetries) _ [("x", 5)] = true by decide +kernel) (jg_name (E := intS) 5 sc__law_symmetries.nd) (by decide) (all_lt rfl) fun x525 => (jn_tupG (P := (prS intS intS)) (g := fun z => (z.1, z.2.1)) (ja_cons (len_lstO T.m_len (jr_of (jn_lc sc__law_symmetries.nd (jc_of [("y", 9)] (jic_of (ji_rng1 T.m_range (jn_var (E := intS) (a := a513) 1))) (show blkC ["world", "size", "up", "sign", "rows", "x", "longer", "row", "v", "y"] (relS _ (defScope s__law_symmetries)) _ [("y", 9)] = true by decide +kernel) (jg_name (E := intS) 9 sc__law_symmetries.nd) (by decide) (all_lt rfl) (fun x526 => jts_one (jt_val (jn_of (jr_ix oIxL iv_lstO (jr_ix oIxL iv_lstO (jr_var (R := (lstO (lstO (fun x => sh (boolS x))))) (a := a524) 2) (jn_var (E := intS) (a := x526) 9)) (jn_var (E := intS) (a := x525) 5))))) fun x526 => (jn_var (E := intS) (a := x526) 9))))) (ja_cons (len_lstO T.m_len (jr_of (jn_lc sc__law_symmetries.nd (jc_of [("y", 9)] (jic_of (ji_rng1 T.m_range (jn_var (E := intS) (a := a513) 1))) (show blkC ["world", "size", "up", "sign", "rows", "x", "longer", "row", "v", "y"] (relS _ (defScope s__law_symmetries)) _ [("y", 9)] = true by decide +kernel) (jg_name (E := intS) 9 sc__law_symmetries.nd) (by decide) (all_lt rfl) (fun x530 => jts_one (jt_val (jn_of (jr_ix oIxL iv_lstO (jr_ix oIxL iv_lstO (jr_var (R := (lstO (lstO (fun x => sh (boolS x))))) (a := a524) 2) (jn_var (E := intS) (a := x525) 5)) (jn_var (E := intS) (a := x530) 9))))) fun x530 => (jn_var (E := intS) (a := x530) 9))))) ja_nil))))) fun a539 =>
 jb_cons (js_set 4 sc__law_symmetries.nd (jn_dispL (E := (tupS intS)) (g := fun z => [z.1]) (ja_cons (jn_nilT (E := intS)) ja_nil))) fun a541 =>
 JB.frz (i := 4) (o := (lstO (fun x => sh ((tupS intS) x))) a541) (p := (lstS (tupS intS)) a541) rfl ((fz_lst (fun _ => fz_sh)) _) (jb_consO (Γl := fun s546 : (List (List Int)) => [some (sh ((prS intS (tupS (prS intS intS))) a.1)), some (sh (intS a513)), some ((lstO (lstO (fun x => sh (boolS x)))) a524), some ((lstO (fun x => sh ((prS intS intS) x))) a539), some (sh ((lstS (tupS intS)) s546)), none, none, none, none, none]) (T := fun r => Kd.rt (nonC 10) ((fun x => sh ((tupS (tupS intS)) x)) r)) (fun r => r) (js_for (Γl := fun s546 : (List (List Int)) => [some (sh ((prS intS (tupS (prS intS intS))) a.1)), some (sh (intS a513)), some ((lstO (lstO (fun x => sh (boolS x)))) a524), some ((lstO (fun x => sh ((prS intS intS) x))) a539), some (sh ((lstS (tupS intS)) s546)), none, none, none, none, none]) (T := fun r => Kd.rt (nonC 10) ((fun x => sh ((tupS (tupS intS)) x)) r)) a541 (ji_rng1 T.m_range (jn_var (E := intS) (a := a513) 1)) (jg_name (E := intS) 5 sc__law_symmetries.nd) (weak_mask [true, true, true, true, true, false, false, false, false, false] _) (fun _ => all_lt rfl) (fun _ => ⟨trivial, nofun, nofun⟩) fun x547 s548 =>
 jb_cons (js_set 6 sc__law_symmetries.nd (jn_nilLO (E := (fun x => sh ((tupS intS) x))))) fun a549 =>
 jb_consO (Γl := fun s550 : (List (List Int)) => [some (sh ((prS intS (tupS (prS intS intS))) a.1)), some (sh (intS a513)), some ((lstO (lstO (fun x => sh (boolS x)))) a524), some ((lstO (fun x => sh ((prS intS intS) x))) a539), some (sh ((lstS (tupS intS)) s548)), some (sh (intS x547)), some ((lstO (fun x => sh ((tupS intS) x))) s550), none, none, none]) (T := fun r => Kd.rt (nonC 10) ((fun x => sh ((tupS (tupS intS)) x)) r)) Out.rt (js_for (Γl := fun s550 : (List (List Int)) => [some (sh ((prS intS (tupS (prS intS intS))) a.1)), some (sh (intS a513)), some ((lstO (lstO (fun x => sh (boolS x)))) a524), some ((lstO (fun x => sh ((prS intS intS) x))) a539), some (sh ((lstS (tupS intS)) s548)), some (sh (intS x547)), some ((lstO (fun x => sh ((tupS intS) x))) s550), none, none, none]) (T := fun r => Kd.rt (nonC 10) ((fun x => sh ((tupS (tupS intS)) x)) r)) a549 (ji_lst (jn_var (E := (lstS (tupS intS))) (a := s548) 4)) (jg_name (E := (tupS intS)) 7 sc__law_symmetries.nd) (weak_mask [true, true, true, true, true, true, true, false, false, false] _) (fun _ => all_lt rfl) (fun _ => ⟨trivial, nofun, nofun⟩) fun x551 s552 =>
 jb_consO (Γl := fun s553 : (List (List Int)) => [some (sh ((prS intS (tupS (prS intS intS))) a.1)), some (sh (intS a513)), some ((lstO (lstO (fun x => sh (boolS x)))) a524), some ((lstO (fun x => sh ((prS intS intS) x))) a539), some (sh ((lstS (tupS intS)) s548)), some (sh (intS x547)), some ((lstO (fun x => sh ((tupS intS) x))) s553), some (sh ((tupS intS) x551)), none, none]) (T := fun r => Kd.rt (nonC 10) ((fun x => sh ((tupS (tupS intS)) x)) r)) Out.rt (js_for (Γl := fun s553 : (List (List Int)) => [some (sh ((prS intS (tupS (prS intS intS))) a.1)), some (sh (intS a513)), some ((lstO (lstO (fun x => sh (boolS x)))) a524), some ((lstO (fun x => sh ((prS intS intS) x))) a539), some (sh ((lstS (tupS intS)) s548)), some (sh (intS x547)), some ((lstO (fun x => sh ((tupS intS) x))) s553), some (sh ((tupS intS) x551)), none, none]) (T := fun r => Kd.rt (nonC 10) ((fun x => sh ((tupS (tupS intS)) x)) r)) s552 (ji_rng1 T.m_range (jn_var (E := intS) (a := a513) 1)) (jg_name (E := intS) 8 sc__law_symmetries.nd) (weak_mask [true, true, true, true, true, true, true, true, false, false] _) (fun _ => all_lt rfl) (fun _ => ⟨trivial, nofun, nofun⟩) fun x554 s555 =>
 jb_ifx (D' := (fun s => Kd.ct ((fun s553 : (List (List Int)) => [some (sh ((prS intS (tupS (prS intS intS))) a.1)), some (sh (intS a513)), some ((lstO (lstO (fun x => sh (boolS x)))) a524), some ((lstO (fun x => sh ((prS intS intS) x))) a539), some (sh ((lstS (tupS intS)) s548)), some (sh (intS x547)), some ((lstO (fun x => sh ((tupS intS) x))) s553), some (sh ((tupS intS) x551)), none, none]) s))) Out.ct (jt_w (jw_or (jt_cmp oNeD ov_neP (jn_any (ao_pr ao_int ao_int) (jn_of (jr_ix oIxL iv_lstO (jr_var (R := (lstO (fun x => sh ((prS intS intS) x)))) (a := a539) 3) (jn_var (E := intS) (a := x554) 8)))) (jn_any (ao_pr ao_int ao_int) (jn_of (jr_ix oIxL iv_lstO (jr_var (R := (lstO (fun x => sh ((prS intS intS) x)))) (a := a539) 3) (jn_var (E := intS) (a := x547) 5))))) (jw_or1 (jt_cmp oIn (ov_inT fl_int) (jn_var (E := intS) (a := x554) 8) (jn_var (E := (tupS intS)) (a := x551) 7))))) (jb_cont (x := s555) rfl (weak_mask [true, true, true, true, true, true, true, true, false, false] _)) (fun _ => rfl) (fun _ => trivial)
 (jb_cons (js_if (jt_val (all_lst T.m_all (JN.frz (fz_lst (fun _ => fz_sh)) (jn_lc sc__law_symmetries.nd (jc_map [("y", 9)] (jic_of (ji_rng1 T.m_range (jn_var (E := intS) (a := x547) 5))) (show blkC ["world", "size", "up", "sign", "rows", "x", "longer", "row", "v", "y"] (defScope s__law_symmetries) _ [("y", 9)] = true by decide +kernel) (jg_name (E := intS) 9 sc__law_symmetries.nd) (by decide) (all_lt rfl) fun x561 => (jn_and (jn_cmp oEq ov_eqB (jn_of (jr_ix oIxL iv_lstO (jr_ix oIxL iv_lstO (jr_var (R := (lstO (lstO (fun x => sh (boolS x))))) (a := a524) 2) (jn_var (E := intS) (a := x561) 9)) (jn_var (E := intS) (a := x547) 5))) (jn_of (jr_ix oIxL iv_lstO (jr_ix oIxL iv_lstO (jr_var (R := (lstO (lstO (fun x => sh (boolS x))))) (a := a524) 2) (jn_of (jr_ix oIxT iv_tup (jr_of (jn_var (E := (tupS intS)) (a := x551) 7)) (jn_var (E := intS) (a := x561) 9)))) (jn_var (E := intS) (a := x554) 8)))) (jn_one (jn_cmp oEq ov_eqB (jn_of (jr_ix oIxL iv_lstO (jr_ix oIxL iv_lstO (jr_var (R := (lstO (lstO (fun x => sh (boolS x))))) (a := a524) 2) (jn_var (E := intS) (a := x547) 5)) (jn_var (E := intS) (a := x561) 9))) (jn_of (jr_ix oIxL iv_lstO (jr_ix oIxL iv_lstO (jr_var (R := (lstO (lstO (fun x => sh (boolS x))))) (a := a524) 2) (jn_var (E := intS) (a := x554) 8)) (jn_of (jr_ix oIxT iv_tup (jr_of (jn_var (E := (tupS intS)) (a := x551) 7)) (jn_var (E := intS) (a := x561) 9))))))))))))) (D := fun v => Kd.nx ((fun v577 : (List (List Int)) => [some (sh ((prS intS (tupS (prS intS intS))) a.1)), some (sh (intS a513)), some ((lstO (lstO (fun x => sh (boolS x)))) a524), some ((lstO (fun x => sh ((prS intS intS) x))) a539), some (sh ((lstS (tupS intS)) s548)), some (sh (intS x547)), some ((lstO (fun x => sh ((tupS intS) x))) v577), some (sh ((tupS intS) x551)), some (sh (intS x554)), none]) v)) (jb_cons (js_app (E := (fun x => sh ((tupS intS) x))) 6 (jn_bin oCatT ov_catT (jn_var (E := (tupS intS)) (a := x551) 7) (jn_dispT (E := intS) (g := fun z => [z.1]) (ja_cons (jn_var (E := intS) (a := x554) 8) ja_nil)))) fun a579 =>
 jb_nil (x := a579) rfl (weak_mask [true, true, true, true, true, true, true, true, true, false] _)) (jb_nil (x := s555) rfl (weak_mask [true, true, true, true, true, true, true, true, true, false] _))) fun a581 =>
 jb_nil (x := Out.nx a581) rfl (weak_mask [true, true, true, true, true, true, true, true, false, false] _))) (fun _ => rfl) (fun _ => trivial) fun a585 =>
 jb_nil (x := Out.nx a585) rfl (weak_mask [true, true, true, true, true, true, true, false, false, false] _)) (fun _ => rfl) (fun _ => trivial) fun a588 =>
 jb_cons (js_move 4 6 sc__law_symmetries.nd) fun a589 =>
 JB.frz (i := 4) (o := (lstO (fun x => sh ((tupS intS) x))) a588) (p := (lstS (tupS intS)) a588) rfl ((fz_lst (fun _ => fz_sh)) _) (jb_nil (x := Out.nx a588) rfl (weak_mask [true, true, true, true, true, false, false, false, false, false] _))) (fun _ => rfl) (fun _ => trivial) fun a593 =>
 jb_ret (weak_none _) (tup_lst T.m_tuple (jn_var (E := (lstS (tupS intS))) (a := a593) 4)))) (by unfold M_law_symmetries; first | (dsimp only [CC.sb]; done) | (dsimp only [CC.sb]; rfl) | rfl)
def M_at_most_table (a : (Int × (List (Int × Int))) × Unit) : Option (List (List Bool)) :=
 ((rng 0 a.1.1).bind fun x609 => mapM (fun x606 => (rng 0 a.1.1).bind fun x608 => mapM (fun x607 => some (decide (x606 = x607))) x608) x609).bind fun a610 => (foldGo (fun x612 s613 => (setAt2 s613 x612.1 x612.2 true).bind fun a614 => some a614) a.1.2 a610).bind fun a615 => some a615
theorem ok_at_most_table (T : Tx K mg) : FnOk P w K mg base CX0 1 T.a_at_most_table T.d_at_most_table ["order"] (spP (fun a : (Int × (List (Int × Int))) × Unit => [(prS intS (tupS (prS intS intS))) a.1]) M_at_most_table (lstO (lstO (fun x => sh (boolS x))))) :=
 fnd_pure (Δ := nonC 6) T.F_at_most_table sc_at_most_table (fun _ => rfl) (by decide) fun a => JB.cong (
 jb_cons (js_asg (jn_var (E := (prS intS (tupS (prS intS intS)))) (a := a.1) 0) (jg_pair (E := intS) (G := (tupS (prS intS intS))) 2 3 sc_at_most_table.nd) (all_lt rfl)) fun a605 =>
 jb_cons (js_setLc 1 sc_at_most_table.nd (jc_map [("x", 4)] (jic_of (ji_rng1 T.m_range (jn_var (E := intS) (a := a605.1) 2))) (show blkC ["order", "table", "n", "pairs", "x", "y"] (defScope s_at_most_table) _ [("x", 4)] = true by decide +kernel) (jg_name (E := intS) 4 sc_at_most_table.nd) (by decide) (all_lt rfl) fun x606 => (jn_lc sc_at_most_table.nd (jc_map [("y", 5)] (jic_of (ji_rng1 T.m_range (jn_var (E := intS) (a := a605.1) 2))) (show blkC ["order", "table", "n", "pairs", "x", "y"] (relS _ (defScope s_at_most_table)) _ [("y", 5)] = true by decide +kernel) (jg_name (E := intS) 5 sc_at_most_table.nd) (by decide) (all_lt rfl) fun x607 => (jn_cmp oEq ov_eqI (jn_var (E := intS) (a := x606) 4) (jn_var (E := intS) (a := x607) 5)))))) fun a610 =>
 jb_cons (js_forS (Γl := fun s611 : (List (List Bool)) => [some (sh ((prS intS (tupS (prS intS intS))) a.1)), some ((lstO (lstO (fun x => sh (boolS x)))) s611), some (sh (intS a605.1)), some (sh ((tupS (prS intS intS)) a605.2)), none, none]) a610 (ji_tup (jn_var (E := (tupS (prS intS intS))) (a := a605.2) 3)) (jg_pair (E := intS) (G := intS) 4 5 sc_at_most_table.nd) (weak_mask [true, true, true, true, false, false] _) (fun _ => all_lt rfl) fun x612 s613 =>
 jb_cons (js_setI2 (E := boolS) 1 jn_bl (jn_var (E := intS) (a := x612.1) 4) (jn_var (E := intS) (a := x612.2) 5)) fun a614 =>
 jb_nil (x := a614) rfl (weak_mask [true, true, true, true, false, false] _)) fun a615 =>
 jb_retO (R := (lstO (lstO (fun x => sh (boolS x))))) 1 (weak_none _)) (by unfold M_at_most_table; first | (dsimp only [CC.sb]; done) | (dsimp only [CC.sb]; rfl) | rfl)
def M_fits (a : (List (List Bool)) × ((List Int) × (Int × Unit))) : Option Bool :=
 bif decide (a.2.2.1 ∈ a.2.1) then some false else ((rng 0 (a.2.1.length : Int)).bind fun x641 => loopGo (fun x626 s627 => ((((atI a.1 x626).bind fun x628 => atI x628 (a.2.1.length : Int)).bind fun x631 => (((atI a.2.1 x626).bind fun x629 => atI a.1 x629).bind fun x630 => atI x630 a.2.2.1).bind fun x632 => some (!decide (x631 = x632))).bind fun x638 => bif x638 then some true else ((atI a.1 (a.2.1.length : Int)).bind fun x633 => atI x633 x626).bind fun x636 => ((atI a.1 a.2.2.1).bind fun x634 => (atI a.2.1 x626).bind fun x635 => atI x634 x635).bind fun x637 => some (!decide (x636 = x637))).bind fun x640 => bif x640 then (some false).bind fun y639 => some (Out.rt y639) else some (Out.nx ())) x641 ()).bind fun o643 => o643.k (fun a642 => some true) fun r644 => some ((fun r => r) r644)
theorem ok_fits (T : Tx K mg) : FnOk P w K mg base CX0 1 T.a__fits T.d__fits ["table", "row", "y"] (spP (fun a : (List (List Bool)) × ((List Int) × (Int × Unit)) => [(lstS (lstS boolS)) a.1, (tupS intS) a.2.1, intS a.2.2.1]) M_fits (fun x => sh (boolS x))) :=
 fnd_pure (Δ := nonC 5) T.F__fits sc__fits (fun _ => rfl) (by decide) fun a => JB.cong (
 jb_ifr (jt_cmp oIn (ov_inT fl_int) (jn_var (E := intS) (a := a.2.2.1) 2) (jn_var (E := (tupS intS)) (a := a.2.1) 1)) (jb_ret (weak_none _) jn_bl) (fun _ => trivial)
 (jb_cons (js_set 3 sc__fits.nd (len_tup T.m_len (jn_var (E := (tupS intS)) (a := a.2.1) 1))) fun a624 =>
 jb_consO (Γl := fun s625 : Unit => [some (sh ((lstS (lstS boolS)) a.1)), some (sh ((tupS intS) a.2.1)), some (sh (intS a.2.2.1)), some (sh (intS a624)), none]) (T := fun r => Kd.rt (nonC 5) ((fun x => sh (boolS x)) r)) (fun r => r) (js_for (Γl := fun s625 : Unit => [some (sh ((lstS (lstS boolS)) a.1)), some (sh ((tupS intS) a.2.1)), some (sh (intS a.2.2.1)), some (sh (intS a624)), none]) (T := fun r => Kd.rt (nonC 5) ((fun x => sh (boolS x)) r)) () (ji_rng1 T.m_range (jn_var (E := intS) (a := a624) 3)) (jg_name (E := intS) 4 sc__fits.nd) (weak_mask [true, true, true, true, false] _) (fun _ => all_lt rfl) (fun _ => ⟨trivial, nofun, nofun⟩) fun x626 s627 =>
 jb_ifx (D' := (fun r => Kd.rt (nonC 5) ((fun x => sh (boolS x)) r))) Out.rt (jt_w (jw_or (jt_cmp oNe ov_neB (jn_of (jr_ix oIxL iv_lst (jr_of (jn_of (jr_ix oIxL iv_lst (jr_of (jn_var (E := (lstS (lstS boolS))) (a := a.1) 0)) (jn_var (E := intS) (a := x626) 4)))) (jn_var (E := intS) (a := a624) 3))) (jn_of (jr_ix oIxL iv_lst (jr_of (jn_of (jr_ix oIxL iv_lst (jr_of (jn_var (E := (lstS (lstS boolS))) (a := a.1) 0)) (jn_of (jr_ix oIxT iv_tup (jr_of (jn_var (E := (tupS intS)) (a := a.2.1) 1)) (jn_var (E := intS) (a := x626) 4)))))) (jn_var (E := intS) (a := a.2.2.1) 2)))) (jw_or1 (jt_cmp oNe ov_neB (jn_of (jr_ix oIxL iv_lst (jr_of (jn_of (jr_ix oIxL iv_lst (jr_of (jn_var (E := (lstS (lstS boolS))) (a := a.1) 0)) (jn_var (E := intS) (a := a624) 3)))) (jn_var (E := intS) (a := x626) 4))) (jn_of (jr_ix oIxL iv_lst (jr_of (jn_of (jr_ix oIxL iv_lst (jr_of (jn_var (E := (lstS (lstS boolS))) (a := a.1) 0)) (jn_var (E := intS) (a := a.2.2.1) 2)))) (jn_of (jr_ix oIxT iv_tup (jr_of (jn_var (E := (tupS intS)) (a := a.2.1) 1)) (jn_var (E := intS) (a := x626) 4))))))))) (jb_ret (weak_none _) jn_bl) (fun _ => rfl) (fun _ => trivial)
 (jb_nil (x := Out.nx ()) rfl (weak_mask [true, true, true, true, false] _))) (fun _ => rfl) (fun _ => trivial) fun a642 =>
 jb_ret (weak_none _) jn_bl)) (by unfold M_fits; first | (dsimp only [CC.sb]; done) | (dsimp only [CC.sb]; rfl) | rfl)
def M_symmetries (a : (Int × (List (Int × Int))) × Unit) : Option (Res Ex (List (List Int))) :=
 bif decide ((8 : Int) < a.1.1) then some (Res.er Ex.TooLarge) else (M_at_most_table (a.1, ())).bind fun a616 => ((rng 0 a.1.1).bind fun x646 => foldGo (fun x620 s621 => (comp2M (fun x622 => some true) (fun x622 => rng 0 a.1.1) (fun x622 x623 => M_fits (a616, (x622, (x623, ())))) (fun x622 x623 => catM x622 [x623]) s621).bind fun a645 => some a645) x646 [[]]).bind fun a647 => (some a647).bind fun y648 => some (Res.ok y648)
theorem ok_symmetries (T : Tx K mg) : FnOk P w K mg base (L2.CX P w) 2 T.a_symmetries T.d_symmetries ["order"] (spX (fun a : (Int × (List (Int × Int))) × Unit => [(prS intS (tupS (prS intS intS))) a.1]) M_symmetries (fun x => sh ((tupS (tupS intS)) x)) (Xp K)) :=
 fnd_pureT (Δ := nonC 7) T.F_symmetries sc_symmetries (fun _ => rfl) (by decide) fun a wx => JB.cong (
 jb_cons (js_set 1 sc_symmetries.nd (jn_ixT (E := intS) (g := fun z => z.1) 0 (jn_var (E := (prS intS (tupS (prS intS intS)))) (a := a.1) 0))) fun a603 =>
 jb_ifr (jt_cmp oGt ov_gt (jn_var (E := intS) (a := a603) 1) (jn_gint T.i_MOST_RENAMED)) (jb_raise (Xp := Xp K) Res.er (weak_mask [false, false, false, false, false, false, false] _) (jm_own0 (u := Ex.TooLarge) T.x_TooLarge T.g_TooLarge) (fun _ => rfl)) (td_nonx fun _ => trivial)
 (jb_cons (js_set 2 sc_symmetries.nd (jn_call (ok_at_most_table T) T.g_at_most_table T.F_at_most_table.kp T.b_at_most_table (Nat.le_of_ble_eq_true rfl) (ja_cons (jn_var (E := (prS intS (tupS (prS intS intS)))) (a := a.1) 0) ja_nil))) fun a616 =>
 jb_cons (js_set 3 sc_symmetries.nd (jn_dispL (E := (tupS intS)) (g := fun z => [z.1]) (ja_cons (jn_nilT (E := intS)) ja_nil))) fun a618 =>
 jb_cons (js_forS (Γl := fun s619 : (List (List Int)) => [some (sh ((prS intS (tupS (prS intS intS))) a.1)), some (sh (intS a603)), some ((lstO (lstO (fun x => sh (boolS x)))) a616), some ((lstO (fun x => sh ((tupS intS) x))) s619), none, none, none]) a618 (ji_rng1 T.m_range (jn_var (E := intS) (a := a603) 1)) (jg_name (E := intS) 4 sc_symmetries.nd) (weak_mask [true, true, true, true, false, false, false] _) (fun _ => all_lt rfl) fun x620 s621 =>
 jb_cons (js_setLc2 3 sc_symmetries.nd (jc2_of [("row", 5), ("y", 6)] [6] (jic_own (jr_var (R := (lstO (fun x => sh ((tupS intS) x)))) (a := s621) 3)) (show blkC ["order", "n", "table", "rows", "_", "row", "y"] (defScope s_symmetries) _ [("row", 5), ("y", 6)] = true by decide +kernel) (jg_name (E := (tupS intS)) 5 sc_symmetries.nd) (by decide) (all_lt rfl) (fun x622 => jts_nil) (by decide) (fun x622 => (ji_rng1 T.m_range (jn_var (E := intS) (a := a603) 1))) (jg_name (E := intS) 6 sc_symmetries.nd) (by decide) (fun _ => all_lt rfl) (fun x622 x623 => (jts_one (jt_val (jn_thaw (i := 2) (o := (lstO (lstO (fun x => sh (boolS x)))) a616) (p := (lstS (lstS boolS)) a616) flat_bool rfl ((fz_lst (fz_lst (fun _ => fz_sh))) _) (jn_call (ok_fits T) T.g__fits T.F__fits.kp T.b__fits (Nat.le_of_ble_eq_true rfl) (ja_cons (jn_var (E := (lstS (lstS boolS))) (a := a616) 2) (ja_cons (jn_var (E := (tupS intS)) (a := x622) 5) (ja_cons (jn_var (E := intS) (a := x623) 6) ja_nil)))))))) fun x622 x623 => (jn_bin oCatT ov_catT (jn_var (E := (tupS intS)) (a := x622) 5) (jn_dispT (E := intS) (g := fun z => [z.1]) (ja_cons (jn_var (E := intS) (a := x623) 6) ja_nil))))) fun a645 =>
 jb_nil (x := a645) rfl (weak_mask [true, true, true, true, false, false, false] _)) fun a647 =>
 jb_okT (jb_ret (weak_none _) (tup_own T.m_tuple (jr_var (R := (lstO (fun x => sh ((tupS intS) x)))) (a := a647) 3))))) (by unfold M_symmetries; first | (dsimp only [CC.sb]; done) | (dsimp only [CC.sb]; rfl) | rfl)
def M_law_answer (a : (Int × (List (Int × Int))) × (Bool × Unit)) : Option PV :=
 tryM (((consX (Res.ok (Str.ofString "told")) ((bif a.2.1 then M_symmetries (a.1, ()) else M_symmetries (a.1, ())).bind fun x649 => consX x649 (some (Res.ok ())))).bind fun x651 => some (mapX (fun z => (z.1, z.2.1)) x651)).bind fun x655 => some (mapX (fun u652 => PV.tup [PV.str u652.1, PV.tup (u652.2.map (fun u653 => PV.tup (u653.map PV.int)))]) x655)) (fun u => Ex.k u ((((bif true then some (Str.ofString "too large") else some (Str.ofString "other")).bind fun x657 => some (x657, ((), ()))).bind fun z658 => some (z658.1, z658.2.1)).bind fun x659 => some (PV.tup [PV.str x659.1, PV.non])))
theorem ok_law_answer (T : Tx K mg) : FnOk P w K mg base CX0 3 T.a__law_answer T.d__law_answer ["world", "named"] (spP (fun a : (Int × (List (Int × Int))) × (Bool × Unit) => [(prS intS (tupS (prS intS intS))) a.1, boolS a.2.1]) M_law_answer (fun x => sh (anyS x))) :=
 fnd_pure (Δ := nonC 3) T.F__law_answer sc__law_answer (fun _ => rfl) (by decide) fun a => JB.cong (
 jb_one (js_tryAs (Xp := Xp K) ([some (sh ((prS intS (tupS (prS intS intS))) a.1)), some (sh (boolS a.2.1)), none]) 2 (ExA K) sc__law_answer.nd (fun wx => jb_retT (R := (fun x => sh (anyS x))) (weak_none _) (weak_mask [true, true, false] _) (jx_any (ao_pr ao_str (ao_tup (ao_tup ao_int))) (jx_tupG (P := (prS strS (tupS (tupS intS)))) (g := (fun z => (z.1, z.2.1))) (jax_cons (jx_of jn_str) (jax_cons (jx_if (jt_val (jn_var (E := boolS) (a := a.2.1) 1)) (jx_call0N (fun z => (z.1, ())) (ok_symmetries T) T.g_symmetries T.F_symmetries.kp T.q0_symmetries (by intro z B zs h; exact hets_s (vs := []) (ps := []) trivial h rfl) (by intro _; rfl) (Nat.le_of_ble_eq_true rfl) (jk_cons (jn_var (E := (prS intS (tupS (prS intS intS)))) (a := a.1) 0) jk_nil)) (jx_call (ok_symmetries T) T.g_symmetries T.F_symmetries.kp T.b_symmetries (Nat.le_of_ble_eq_true rfl) (ja_cons (jn_var (E := (prS intS (tupS (prS intS intS)))) (a := a.1) 0) ja_nil))) (jax_of ja_nil)))))) (fun _ => rfl) (Ex.hs (fun ea656 => jb_ifF (jt_w (jw_or (jt_not (jt_val (jn_isET (b := true) (T := "ValueError") 2 rfl T.e_TooLarge T.kt_TooLarge_ValueError T.m_isinstance T.m_ValueError))) (jw_or1 (jt_val (jn_isETup (b := false) 2 rfl T.e_TooLarge (kitAny_cons T.k_TooLarge_BadOrder (fun _ => (kitAny_cons T.k_TooLarge_BadMap (fun _ => kitAny_nil) (by intro z; cases z))) (by intro z; cases z)) (jcl_cons T.g_BadOrder (jcl_cons T.g_BadMap jcl_nil)) T.m_isinstance)))))
 (jb_ret (weak_none _) (jn_any (ao_pr ao_str ao_non) (jn_tupG (P := (prS strS (fun _ : Unit => nonS))) (g := fun z => (z.1, z.2.1)) (ja_cons (jn_if (jt_val (jn_isE (b := true) 2 rfl T.e_TooLarge T.k_TooLarge_TooLarge T.m_isinstance T.g_TooLarge)) jn_str jn_str) (ja_cons jn_non ja_nil))))))) T.g_StrikeError (Ex.al T.h_TooLarge_StrikeError) (fun _ => ⟨_, _, rfl⟩))) (by unfold M_law_answer; first | (dsimp only [CC.sb]; done) | (dsimp only [CC.sb]; rfl) | rfl)
def M_law_is_int (a : PV × Unit) : Option Bool :=
 bif pI a.1 then some (!(pB a.1)) else some false
theorem ok_law_is_int (T : Tx K mg) : FnOk P w K mg base CX0 1 T.a__law_is_int T.d__law_is_int ["x"] (spP (fun a : PV × Unit => [anyS a.1]) M_law_is_int (fun x => sh (boolS x))) :=
 fnd_pure (Δ := nonC 1) T.F__law_is_int sc__law_is_int (fun _ => rfl) (by decide) fun a => JB.cong (
 jb_ret (weak_none _) (jn_and (jn_isiA (cn := "int") pI T.m_isinstance T.m_int (jn_var (E := anyS) (a := a.1) 0)) (jn_one (jn_notV (jn_isiA (cn := "bool") pB T.m_isinstance T.m_bool (jn_var (E := anyS) (a := a.1) 0)))))) (by unfold M_law_is_int; first | (dsimp only [CC.sb]; done) | (dsimp only [CC.sb]; rfl) | rfl)
def N_law_same (rec : (PV × (PV × Unit)) → Option Bool) (a : PV × (PV × Unit)) : Option Bool :=
 bif pT a.2.1 then (bif !(pT a.1) then some true else (lenA a.1).bind fun x660 => (lenA a.2.1).bind fun x661 => some (!decide (x660 = x661))).bind fun x670 => bif x670 then some false else (((lenA a.2.1).bind fun x662 => rng 0 x662).bind fun x668 => mapM (fun x663 => ((ixA a.1 x663).bind fun x664 => ((ixA a.2.1 x663).bind fun x665 => some (x665, ())).bind fun y666 => some (x664, y666)).bind fun z667 => rec z667) x668).bind fun x669 => some (x669.all id) else bif pN a.2.1 then some (pN a.1) else bif pS a.2.1 then bif pS a.1 then eqA a.1 a.2.1 else some false else (M_law_is_int (a.1, ())).bind fun x671 => bif x671 then eqA a.1 a.2.1 else some false
def M_law_same : Nat → (PV × (PV × Unit)) → Option Bool
  | 0 => fun _ => none
  | d + 1 => N_law_same (M_law_same d)
theorem ok_law_same (T : Tx K mg) : ∀ d : Nat, FnOk P w K mg base CX0 (d + 2) T.a__law_same T.d__law_same ["told", "due"] (spP (fun a : PV × (PV × Unit) => [anyS a.1, anyS a.2.1]) (M_law_same d) (fun x => sh (boolS x)))
  | 0 => fn_zero (k := 0 + 1) T.F__law_same sc__law_same
  | d + 1 => fnd_pure (k := d + 2) (Δ := nonC 3) T.F__law_same sc__law_same (fun _ => rfl) (by decide) fun a => JB.cong (
 jb_ifr (jt_val (jn_isiA (cn := "tuple") pT T.m_isinstance T.m_tuple (jn_var (E := anyS) (a := a.2.1) 1))) (jb_ifr (jt_w (jw_or (jt_not (jt_val (jn_isiA (cn := "tuple") pT T.m_isinstance T.m_tuple (jn_var (E := anyS) (a := a.1) 0)))) (jw_or1 (jt_cmp oNe ov_neI (len_any T.m_len (jn_var (E := anyS) (a := a.1) 0)) (len_any T.m_len (jn_var (E := anyS) (a := a.2.1) 1)))))) (jb_ret (weak_none _) jn_bl) (fun _ => trivial)
 (jb_ret (weak_none _) (all_lst T.m_all (JN.frz (fz_lst (fun _ => fz_sh)) (jn_lc sc__law_same.nd (jc_map [("k", 2)] (jic_of (ji_rng1 T.m_range (len_any T.m_len (jn_var (E := anyS) (a := a.2.1) 1)))) (show blkC ["told", "due", "k"] (defScope s__law_same) _ [("k", 2)] = true by decide +kernel) (jg_name (E := intS) 2 sc__law_same.nd) (by decide) (all_lt rfl) fun x663 => (jn_call (ok_law_same T d) T.g__law_same T.F__law_same.kp T.b__law_same (Nat.le_refl _) (ja_cons (jn_of (jr_ix oIxT iv_any (jr_of (jn_var (E := anyS) (a := a.1) 0)) (jn_var (E := intS) (a := x663) 2))) (ja_cons (jn_of (jr_ix oIxT iv_any (jr_of (jn_var (E := anyS) (a := a.2.1) 1)) (jn_var (E := intS) (a := x663) 2))) ja_nil))))))))) (fun _ => trivial)
 (jb_ifr (jt_cmp oIsN ov_isNA (jn_var (E := anyS) (a := a.2.1) 1) jn_non) (jb_ret (weak_none _) (jn_cmp oIsN ov_isNA (jn_var (E := anyS) (a := a.1) 0) jn_non)) (fun _ => trivial)
 (jb_ifr (jt_val (jn_isiA (cn := "str") pS T.m_isinstance T.m_str (jn_var (E := anyS) (a := a.2.1) 1))) (jb_ret (weak_none _) (jn_and (jn_isiA (cn := "str") pS T.m_isinstance T.m_str (jn_var (E := anyS) (a := a.1) 0)) (jn_one (jn_cmp oEq ov_eqA (jn_var (E := anyS) (a := a.1) 0) (jn_var (E := anyS) (a := a.2.1) 1))))) (fun _ => trivial)
 (jb_ret (weak_none _) (jn_and (jn_call (ok_law_is_int T) T.g__law_is_int T.F__law_is_int.kp T.b__law_is_int (by first | exact Nat.le_refl _ | (simp only [Stc.blk, stcOf]; omega)) (ja_cons (jn_var (E := anyS) (a := a.1) 0) ja_nil)) (jn_one (jn_cmp oEq ov_eqA (jn_var (E := anyS) (a := a.1) 0) (jn_var (E := anyS) (a := a.2.1) 1)))))))) (by show _ = N_law_same (M_law_same d) a; unfold N_law_same; first | (dsimp only [CC.sb]; done) | (dsimp only [CC.sb]; rfl) | rfl)
def M_law (a : (List Int) × Unit) : Option Bool :=
 (some (a.1, (0 : Int), (0 : Int), (1 : Int) + (a.1.length : Int))).bind fun a1 => ((M_law_draw ((16 : Int), ()) a1).bind fun r46 => some (r46.1, r46.2)).bind fun a47 => (bif decide (a47.1 < (8 : Int)) then ((M_law_drawn ((6 : Int), ()) a47.2).bind fun r461 => some (r461.1, r461.2)).bind fun a462 => some (a462.2, a462.1) else (bif decide (a47.1 < (10 : Int)) then ((M_law_eight () a47.2).bind fun r486 => some (r486.1, r486.2)).bind fun a487 => some (a487.2, a487.1) else (bif decide (a47.1 < (13 : Int)) then ((M_law_two_ways () a47.2).bind fun r498 => some (r498.1, r498.2)).bind fun a499 => some (a499.2, a499.1) else (bif decide (a47.1 < (15 : Int)) then (M_law_ring ((4 : Int), ()) a47.2).bind fun r502 => some (r502.1, r502.2) else (M_law_two_crowns () a47.2).bind fun r503 => some (r503.1, r503.2)).bind fun a504 => some (a504.2, a504.1)).bind fun a505 => some (a505.1, a505.2)).bind fun a506 => some (a506.1, a506.2)).bind fun a507 => (((M_law_draw ((2 : Int), ()) a507.1).bind fun r509 => some (r509.1, r509.2)).bind fun q511 => some (decide (q511.1 = (1 : Int)), q511.2)).bind fun a512 => (bif decide ((8 : Int) < a507.2.1) then some (PV.tup [PV.str (Str.ofString "too large"), PV.non]) else ((((M_law_symmetries (a507.2, ())).bind fun x596 => some (x596, ())).bind fun y597 => some ((Str.ofString "told"), y597)).bind fun z598 => some (z598.1, z598.2.1)).bind fun x599 => some (PV.tup [PV.str x599.1, PV.tup (x599.2.map (fun u600 => PV.tup (u600.map PV.int)))])).bind fun a602 => ((((M_law_answer (a507.2, (a512.1, ()))).bind fun x672 => some (x672, (a602, ()))).bind fun z673 => M_law_same 6 z673).bind fun x674 => some (!x674)).bind fun x698 => bif x698 then some false else ((((M_law_answer (((0 : Int), []), (a512.1, ()))).bind fun x677 => some (x677, (PV.tup [PV.str (Str.ofString "told"), PV.tup ([[]].map (fun u675 => PV.tup (u675.map PV.int)))], ()))).bind fun z678 => M_law_same 6 z678).bind fun x679 => some (!x679)).bind fun x697 => bif x697 then some false else (((M_law_draw ((56 : Int), ()) a512.2).bind fun r682 => some (r682.1, r682.2)).bind fun q683 => some ((9 : Int) + q683.1, q683.2)).bind fun a684 => ((((((rng (1 : Int) a684.1).bind fun x686 => mapM (fun x685 => some ((0 : Int), x685)) x686).bind fun x => some x).bind fun x687 => some (x687, ())).bind fun y688 => some (a684.1, y688)).bind fun z689 => some (z689.1, z689.2.1)).bind fun a690 => ((((M_law_answer (a690, (!a512.1, ()))).bind fun x691 => some (x691, (PV.tup [PV.str (Str.ofString "too large"), PV.non], ()))).bind fun z692 => M_law_same 6 z692).bind fun x693 => some (!x693)).bind fun x696 => bif x696 then some false else ((M_law_answer ((a684.1, []), (a512.1, ()))).bind fun x694 => some (x694, (PV.tup [PV.str (Str.ofString "too large"), PV.non], ()))).bind fun z695 => M_law_same 6 z695
theorem ok_law (T : Tx K mg) : FnOk P w K mg base CX0 9 T.a_law T.d_law ["script"] (spP (fun a : (List Int) × Unit => [(scrS K) a.1]) M_law (fun x => sh (boolS x))) :=
 fnd_pure (Δ := nonC 9) T.F_law sc_law (fun _ => rfl) (by decide) fun a => JB.cong (
 jb_cons (js_set 1 sc_law.nd (jn_hl1 (T := h0O) (g := fun x y => (x, y.1, y.2.1, y.2.2.1)) (list_scr T.m_list (jn_var (E := (scrS K)) (a := a.1) 0)) (ja_cons jn_int (ja_cons jn_int (ja_cons (jn_bin oAdd ov_add jn_int (len_scr T.m_len (jn_var (E := (scrS K)) (a := a.1) 0))) ja_nil))))) fun a1 =>
 jb_cons (js_setE (Γ := fun s2 : ((List Int) × Int × Int × Int) => [some (sh ((scrS K) a.1)), some (h0O s2), none, none, none, none, none, none, none]) (s := a1) 2 sc_law.nd (je_callS (O := h0O) 1 (fun s => s) (fun s u => u) (ok_law_draw T) T.g__law_draw T.F__law_draw.kp T.b__law_draw (Nat.le_of_ble_eq_true rfl) (jea_of (ja_cons jn_int ja_nil)))) fun a47 =>
 jb_cons (js_if (jt_cmp oLt ov_lt (jn_var (E := intS) (a := a47.1) 2) jn_int) (D := fun v => Kd.nx ((fun v459 : ((List Int) × Int × Int × Int) × (Int × (List (Int × Int))) => [some (sh ((scrS K) a.1)), some (h0O v459.1), some (sh (intS a47.1)), none, none, none, none, some (sh ((prS intS (tupS (prS intS intS))) v459.2)), none]) v)) (jb_cons (js_setE (Γ := fun s460 : ((List Int) × Int × Int × Int) => [some (sh ((scrS K) a.1)), some (h0O s460), some (sh (intS a47.1)), none, none, none, none, none, none]) (s := a47.2) 7 sc_law.nd (je_callS (O := h0O) 1 (fun s => s) (fun s u => u) (ok_law_drawn T) T.g__law_drawn T.F__law_drawn.kp T.b__law_drawn (Nat.le_of_ble_eq_true rfl) (jea_of (ja_cons jn_int ja_nil)))) fun a462 =>
 jb_nil (x := (a462.2, a462.1)) rfl (weak_mask [true, true, true, false, false, false, false, true, false] _)) (jb_cons (js_if (jt_cmp oLt ov_lt (jn_var (E := intS) (a := a47.1) 2) jn_int) (D := fun v => Kd.nx ((fun v484 : ((List Int) × Int × Int × Int) × (Int × (List (Int × Int))) => [some (sh ((scrS K) a.1)), some (h0O v484.1), some (sh (intS a47.1)), none, none, none, none, some (sh ((prS intS (tupS (prS intS intS))) v484.2)), none]) v)) (jb_cons (js_setE (Γ := fun s485 : ((List Int) × Int × Int × Int) => [some (sh ((scrS K) a.1)), some (h0O s485), some (sh (intS a47.1)), none, none, none, none, none, none]) (s := a47.2) 7 sc_law.nd (je_callS (O := h0O) 1 (fun s => s) (fun s u => u) (ok_law_eight T) T.g__law_eight T.F__law_eight.kp T.b__law_eight (Nat.le_of_ble_eq_true rfl) jea_nil)) fun a487 =>
 jb_nil (x := (a487.2, a487.1)) rfl (weak_mask [true, true, true, false, false, false, false, true, false] _)) (jb_cons (js_if (jt_cmp oLt ov_lt (jn_var (E := intS) (a := a47.1) 2) jn_int) (D := fun v => Kd.nx ((fun v496 : ((List Int) × Int × Int × Int) × (Int × (List (Int × Int))) => [some (sh ((scrS K) a.1)), some (h0O v496.1), some (sh (intS a47.1)), none, none, none, none, some (sh ((prS intS (tupS (prS intS intS))) v496.2)), none]) v)) (jb_cons (js_setE (Γ := fun s497 : ((List Int) × Int × Int × Int) => [some (sh ((scrS K) a.1)), some (h0O s497), some (sh (intS a47.1)), none, none, none, none, none, none]) (s := a47.2) 7 sc_law.nd (je_callS (O := h0O) 1 (fun s => s) (fun s u => u) (ok_law_two_ways T) T.g__law_two_ways T.F__law_two_ways.kp T.b__law_two_ways (Nat.le_of_ble_eq_true rfl) jea_nil)) fun a499 =>
 jb_nil (x := (a499.2, a499.1)) rfl (weak_mask [true, true, true, false, false, false, false, true, false] _)) (jb_cons (js_setE (Γ := fun s500 : ((List Int) × Int × Int × Int) => [some (sh ((scrS K) a.1)), some (h0O s500), some (sh (intS a47.1)), none, none, none, none, none, none]) (s := a47.2) 7 sc_law.nd (je_if (jte_of (jt_cmp oLt ov_lt (jn_var (E := intS) (a := a47.1) 2) jn_int)) (fun s501 => (je_callS (O := h0O) 1 (fun s => s) (fun s u => u) (ok_law_ring T) T.g__law_ring T.F__law_ring.kp T.b__law_ring (Nat.le_of_ble_eq_true rfl) (jea_of (ja_cons jn_int ja_nil)))) fun s501 => (je_callS (O := h0O) 1 (fun s => s) (fun s u => u) (ok_law_two_crowns T) T.g__law_two_crowns T.F__law_two_crowns.kp T.b__law_two_crowns (Nat.le_of_ble_eq_true rfl) jea_nil))) fun a504 =>
 jb_nil (x := (a504.2, a504.1)) rfl (weak_mask [true, true, true, false, false, false, false, true, false] _))) fun a505 =>
 jb_nil (x := (a505.1, a505.2)) rfl (weak_mask [true, true, true, false, false, false, false, true, false] _))) fun a506 =>
 jb_nil (x := (a506.1, a506.2)) rfl (weak_mask [true, true, true, false, false, false, false, true, false] _))) fun a507 =>
 jb_cons (js_setE (Γ := fun s508 : ((List Int) × Int × Int × Int) => [some (sh ((scrS K) a.1)), some (h0O s508), some (sh (intS a47.1)), none, none, none, none, some (sh ((prS intS (tupS (prS intS intS))) a507.2)), none]) (s := a507.1) 3 sc_law.nd (je_cmp oEq ov_eqI (je_callS (O := h0O) 1 (fun s => s) (fun s u => u) (ok_law_draw T) T.g__law_draw T.F__law_draw.kp T.b__law_draw (Nat.le_of_ble_eq_true rfl) (jea_of (ja_cons jn_int ja_nil))) fun s510 => (je_of jn_int))) fun a512 =>
 jb_cons (js_set 4 sc_law.nd (jn_if (jt_cmp oGt ov_gt (jn_ixT (E := intS) (g := fun z => z.1) 0 (jn_var (E := (prS intS (tupS (prS intS intS)))) (a := a507.2) 7)) jn_int) (jn_any (ao_pr ao_str ao_non) (jn_tupG (P := (prS strS (fun _ : Unit => nonS))) (g := fun z => (z.1, z.2.1)) (ja_cons jn_str (ja_cons jn_non ja_nil)))) (jn_any (ao_pr ao_str (ao_tup (ao_tup ao_int))) (jn_tupG (P := (prS strS (tupS (tupS intS)))) (g := fun z => (z.1, z.2.1)) (ja_cons jn_str (ja_cons (jn_call (ok_law_symmetries T) T.g__law_symmetries T.F__law_symmetries.kp T.b__law_symmetries (Nat.le_of_ble_eq_true rfl) (ja_cons (jn_var (E := (prS intS (tupS (prS intS intS)))) (a := a507.2) 7) ja_nil)) ja_nil)))))) fun a602 =>
 jb_ifr (jt_not (jt_val (jn_call (ok_law_same T 6) T.g__law_same T.F__law_same.kp T.b__law_same (Nat.le_of_ble_eq_true rfl) (ja_cons (jn_call (ok_law_answer T) T.g__law_answer T.F__law_answer.kp T.b__law_answer (Nat.le_of_ble_eq_true rfl) (ja_cons (jn_var (E := (prS intS (tupS (prS intS intS)))) (a := a507.2) 7) (ja_cons (jn_var (E := boolS) (a := a512.1) 3) ja_nil))) (ja_cons (jn_var (E := anyS) (a := a602) 4) ja_nil))))) (jb_ret (weak_none _) jn_bl) (fun _ => trivial)
 (jb_ifr (jt_not (jt_val (jn_call (ok_law_same T 6) T.g__law_same T.F__law_same.kp T.b__law_same (Nat.le_of_ble_eq_true rfl) (ja_cons (jn_call (ok_law_answer T) T.g__law_answer T.F__law_answer.kp T.b__law_answer (Nat.le_of_ble_eq_true rfl) (ja_cons (jn_tupG (P := (prS intS (tupS (prS intS intS)))) (g := fun z => (z.1, z.2.1)) (ja_cons jn_int (ja_cons (jn_nilT (E := (prS intS intS))) ja_nil))) (ja_cons (jn_var (E := boolS) (a := a512.1) 3) ja_nil))) (ja_cons (jn_any (ao_pr ao_str (ao_tup (ao_tup ao_int))) (jn_tupG (P := (prS strS (tupS (tupS intS)))) (g := fun z => (z.1, z.2.1)) (ja_cons jn_str (ja_cons (jn_dispT (E := (tupS intS)) (g := fun z => [z.1]) (ja_cons (jn_nilT (E := intS)) ja_nil)) ja_nil)))) ja_nil))))) (jb_ret (weak_none _) jn_bl) (fun _ => trivial)
 (jb_cons (js_setE (Γ := fun s680 : ((List Int) × Int × Int × Int) => [some (sh ((scrS K) a.1)), some (h0O s680), some (sh (intS a47.1)), some (sh (boolS a512.1)), some (sh (anyS a602)), none, none, some (sh ((prS intS (tupS (prS intS intS))) a507.2)), none]) (s := a512.2) 5 sc_law.nd (je_bin oAdd ov_add (je_of jn_int) fun s681 => (je_callS (O := h0O) 1 (fun s => s) (fun s u => u) (ok_law_draw T) T.g__law_draw T.F__law_draw.kp T.b__law_draw (Nat.le_of_ble_eq_true rfl) (jea_of (ja_cons jn_int ja_nil))))) fun a684 =>
 jb_cons (js_set 6 sc_law.nd (jn_tupG (P := (prS intS (tupS (prS intS intS)))) (g := fun z => (z.1, z.2.1)) (ja_cons (jn_var (E := intS) (a := a684.1) 5) (ja_cons (tup_lst T.m_tuple (JN.frz (fz_lst (fun _ => fz_sh)) (jn_lc sc_law.nd (jc_map [("y", 8)] (jic_of (ji_rng2 T.m_range jn_int (jn_var (E := intS) (a := a684.1) 5))) (show blkC ["script", "src", "shape", "named", "due", "great", "star", "world", "y"] (defScope s_law) _ [("y", 8)] = true by decide +kernel) (jg_name (E := intS) 8 sc_law.nd) (by decide) (all_lt rfl) fun x685 => (jn_tupG (P := (prS intS intS)) (g := fun z => (z.1, z.2.1)) (ja_cons jn_int (ja_cons (jn_var (E := intS) (a := x685) 8) ja_nil))))))) ja_nil)))) fun a690 =>
 jb_ifr (jt_not (jt_val (jn_call (ok_law_same T 6) T.g__law_same T.F__law_same.kp T.b__law_same (Nat.le_of_ble_eq_true rfl) (ja_cons (jn_call (ok_law_answer T) T.g__law_answer T.F__law_answer.kp T.b__law_answer (Nat.le_of_ble_eq_true rfl) (ja_cons (jn_var (E := (prS intS (tupS (prS intS intS)))) (a := a690) 6) (ja_cons (jn_notV (jn_var (E := boolS) (a := a512.1) 3)) ja_nil))) (ja_cons (jn_any (ao_pr ao_str ao_non) (jn_tupG (P := (prS strS (fun _ : Unit => nonS))) (g := fun z => (z.1, z.2.1)) (ja_cons jn_str (ja_cons jn_non ja_nil)))) ja_nil))))) (jb_ret (weak_none _) jn_bl) (fun _ => trivial)
 (jb_ret (weak_none _) (jn_call (ok_law_same T 6) T.g__law_same T.F__law_same.kp T.b__law_same (Nat.le_of_ble_eq_true rfl) (ja_cons (jn_call (ok_law_answer T) T.g__law_answer T.F__law_answer.kp T.b__law_answer (Nat.le_of_ble_eq_true rfl) (ja_cons (jn_tupG (P := (prS intS (tupS (prS intS intS)))) (g := fun z => (z.1, z.2.1)) (ja_cons (jn_var (E := intS) (a := a684.1) 5) (ja_cons (jn_nilT (E := (prS intS intS))) ja_nil))) (ja_cons (jn_var (E := boolS) (a := a512.1) 3) ja_nil))) (ja_cons (jn_any (ao_pr ao_str ao_non) (jn_tupG (P := (prS strS (fun _ : Unit => nonS))) (g := fun z => (z.1, z.2.1)) (ja_cons jn_str (ja_cons jn_non ja_nil)))) ja_nil))))))) (by unfold M_law; first | (dsimp only [CC.sb]; done) | (dsimp only [CC.sb]; rfl) | rfl)
end
def dd__law_draw : He.DefD := ⟨("_law_draw", none), "_law_draw", "_law_draw", defArgs s__law_draw, defBody s__law_draw, defScope s__law_draw, [], []⟩
def dd__law_shuffled : He.DefD := ⟨("_law_shuffled", none), "_law_shuffled", "_law_shuffled", defArgs s__law_shuffled, defBody s__law_shuffled, defScope s__law_shuffled, [], []⟩
def dd__law_closed : He.DefD := ⟨("_law_closed", none), "_law_closed", "_law_closed", defArgs s__law_closed, defBody s__law_closed, defScope s__law_closed, [], []⟩
def dd__law_drawn : He.DefD := ⟨("_law_drawn", none), "_law_drawn", "_law_drawn", defArgs s__law_drawn, defBody s__law_drawn, defScope s__law_drawn, [], []⟩
def dd__law_eight : He.DefD := ⟨("_law_eight", none), "_law_eight", "_law_eight", defArgs s__law_eight, defBody s__law_eight, defScope s__law_eight, [], []⟩
def dd__law_two_ways : He.DefD := ⟨("_law_two_ways", none), "_law_two_ways", "_law_two_ways", defArgs s__law_two_ways, defBody s__law_two_ways, defScope s__law_two_ways, [], []⟩
def dd__law_ring : He.DefD := ⟨("_law_ring", none), "_law_ring", "_law_ring", defArgs s__law_ring, defBody s__law_ring, defScope s__law_ring, [], []⟩
def dd__law_renamed : He.DefD := ⟨("_law_renamed", none), "_law_renamed", "_law_renamed", defArgs s__law_renamed, defBody s__law_renamed, defScope s__law_renamed, [], []⟩
def dd__law_two_crowns : He.DefD := ⟨("_law_two_crowns", none), "_law_two_crowns", "_law_two_crowns", defArgs s__law_two_crowns, defBody s__law_two_crowns, defScope s__law_two_crowns, [], []⟩
def dd__law_table : He.DefD := ⟨("_law_table", none), "_law_table", "_law_table", defArgs s__law_table, defBody s__law_table, defScope s__law_table, [], []⟩
def dd__law_symmetries : He.DefD := ⟨("_law_symmetries", none), "_law_symmetries", "_law_symmetries", defArgs s__law_symmetries, defBody s__law_symmetries, defScope s__law_symmetries, [], []⟩
def dd_at_most_table : He.DefD := ⟨("at_most_table", none), "at_most_table", "at_most_table", defArgs s_at_most_table, defBody s_at_most_table, defScope s_at_most_table, [], []⟩
def dd__fits : He.DefD := ⟨("_fits", none), "_fits", "_fits", defArgs s__fits, defBody s__fits, defScope s__fits, [], []⟩
def dd_symmetries : He.DefD := ⟨("symmetries", none), "symmetries", "symmetries", defArgs s_symmetries, defBody s_symmetries, defScope s_symmetries, [], []⟩
def dd__law_answer : He.DefD := ⟨("_law_answer", none), "_law_answer", "_law_answer", defArgs s__law_answer, defBody s__law_answer, defScope s__law_answer, [], []⟩
def dd__law_is_int : He.DefD := ⟨("_law_is_int", none), "_law_is_int", "_law_is_int", defArgs s__law_is_int, defBody s__law_is_int, defScope s__law_is_int, [], []⟩
def dd__law_same : He.DefD := ⟨("_law_same", none), "_law_same", "_law_same", defArgs s__law_same, defBody s__law_same, defScope s__law_same, [], []⟩
def dd_law : He.DefD := ⟨("law", none), "law", "law", defArgs s_law, defBody s_law, defScope s_law, [], []⟩
def mo : List Tst := [tExcC "TooLarge", tKit "TooLarge" "BadMap" false, tKit "TooLarge" "BadOrder" false, tKit "TooLarge" "TooLarge" true, tKitT "TooLarge" "ValueError" true]
def fn : List He.DefD := [dd__law_draw, dd__law_shuffled, dd__law_closed, dd__law_drawn, dd__law_eight, dd__law_two_ways, dd__law_ring, dd__law_renamed, dd__law_two_crowns, dd__law_table, dd__law_symmetries, dd_at_most_table, dd__fits, dd_symmetries, dd__law_answer, dd__law_is_int, dd__law_same, dd_law]
def fa : List He.Fa := [.glo "_law_draw", .glo "_law_shuffled", .glo "_law_closed", .glo "_law_drawn", .glo "_law_eight", .glo "_law_two_ways", .glo "_law_ring", .glo "_law_renamed", .glo "_law_two_crowns", .glo "_law_table", .glo "_law_symmetries", .glo "at_most_table", .glo "_fits", .glo "symmetries", .glo "_law_answer", .glo "_law_is_int", .glo "_law_same", .glo "law", .free "list", .free "len", .free "abs", .free "int", .free "range", .free "tuple", .free "sorted", .free "all", .free "isinstance", .free "ValueError", .free "str", .free "bool", .int "MOST_RENAMED" 8, .glo "TooLarge", .glo "StrikeError", .glo "BadMap", .glo "BadOrder", .exc "TooLarge", .exm "TooLarge" "StrikeError" true]
abbrev rw_ : PySem.W.OpenRow := PySem.W.OpenLaw.row PySem.Challenge.rw_chaincore_k86_symmetries
abbrev hk : PySem.W.Hook := hookX 4 mo fa fn
def ob (s : PySem.W.SharedT) : Bool × He.AlD := obsXG 4 mo fa fn (HandSHeadRun.getT s)
theorem ob_eq (s : PySem.W.SharedT) : ob s = hk.obs s.abs := obsXG_eq (HandSHeadRun.getT_eq s)
def loose : List Str := ["StrikeError", "BadOrder", "BadMap", "TooLarge", "at_most_table", "MOST_RENAMED", "symmetries", "_fits", "_law_draw", "_law_is_int", "_law_same", "_law_shuffled", "_law_table", "_law_closed", "_law_drawn", "_law_two_ways", "_law_ring", "_law_renamed", "_law_symmetries", "_law_answer", "_law_two_crowns", "_law_eight"]
theorem run (w : World) : HandSHeadRun.RunEq rw_ (PySem.W.view rw_.prog [26]) hk ob 3120 loose w := by
  intro os
  kernel_rfl
theorem facts {P : Program} {w : World} {K : PySem.W.Frag} {h : Heap} {mg : Str → Option Value} {f : Addr} (X : K.In h) (G : h.Ns mainGlobals mg) (hfa : mg ("law" : Str) = some (.ref f)) (c0 : SaysX mo fa fn K) :
    ∃ fd : FuncData, (∀ (s : Shared) (v : Value), BindsTo s fd ⟨[v], []⟩ [("script", v)]) ∧ ∀ base : Heap, K.In base → base.Ns mainGlobals mg → FnOk P w K mg base CX0 9 f fd ["script"] (spP (fun a : List Int × Unit => [scrS K a.1]) M_law fun b => sh (boolS b)) := by
  have c : He.SaysD fa fn K := c0.d
  obtain ⟨fd__law_draw, F__law_draw⟩ := c.def_ 0 (d := dd__law_draw) rfl
  obtain ⟨fd__law_shuffled, F__law_shuffled⟩ := c.def_ 1 (d := dd__law_shuffled) rfl
  obtain ⟨fd__law_closed, F__law_closed⟩ := c.def_ 2 (d := dd__law_closed) rfl
  obtain ⟨fd__law_drawn, F__law_drawn⟩ := c.def_ 3 (d := dd__law_drawn) rfl
  obtain ⟨fd__law_eight, F__law_eight⟩ := c.def_ 4 (d := dd__law_eight) rfl
  obtain ⟨fd__law_two_ways, F__law_two_ways⟩ := c.def_ 5 (d := dd__law_two_ways) rfl
  obtain ⟨fd__law_ring, F__law_ring⟩ := c.def_ 6 (d := dd__law_ring) rfl
  obtain ⟨fd__law_renamed, F__law_renamed⟩ := c.def_ 7 (d := dd__law_renamed) rfl
  obtain ⟨fd__law_two_crowns, F__law_two_crowns⟩ := c.def_ 8 (d := dd__law_two_crowns) rfl
  obtain ⟨fd__law_table, F__law_table⟩ := c.def_ 9 (d := dd__law_table) rfl
  obtain ⟨fd__law_symmetries, F__law_symmetries⟩ := c.def_ 10 (d := dd__law_symmetries) rfl
  obtain ⟨fd_at_most_table, F_at_most_table⟩ := c.def_ 11 (d := dd_at_most_table) rfl
  obtain ⟨fd__fits, F__fits⟩ := c.def_ 12 (d := dd__fits) rfl
  obtain ⟨fd_symmetries, F_symmetries⟩ := c.def_ 13 (d := dd_symmetries) rfl
  obtain ⟨fd__law_answer, F__law_answer⟩ := c.def_ 14 (d := dd__law_answer) rfl
  obtain ⟨fd__law_is_int, F__law_is_int⟩ := c.def_ 15 (d := dd__law_is_int) rfl
  obtain ⟨fd__law_same, F__law_same⟩ := c.def_ 16 (d := dd__law_same) rfl
  obtain ⟨fd_law, F_law⟩ := c.def_ 17 (d := dd_law) rfl
  have T : Tx K mg := { a__law_draw := _, d__law_draw := fd__law_draw, F__law_draw := F__law_draw, b__law_draw := FunD.bindsN F__law_draw (fun _ _ _ _ _ _ us hl => match us, hl with | [_, _], _ => rfl), g__law_draw := He.glo_ok X G (c.fact 0 (f := .glo "_law_draw") rfl), a__law_shuffled := _, d__law_shuffled := fd__law_shuffled, F__law_shuffled := F__law_shuffled, b__law_shuffled := FunD.bindsN F__law_shuffled (fun _ _ _ _ _ _ us hl => match us, hl with | [_, _], _ => rfl), g__law_shuffled := He.glo_ok X G (c.fact 1 (f := .glo "_law_shuffled") rfl), a__law_closed := _, d__law_closed := fd__law_closed, F__law_closed := F__law_closed, b__law_closed := FunD.bindsN F__law_closed (fun _ _ _ _ _ _ us hl => match us, hl with | [_, _], _ => rfl), g__law_closed := He.glo_ok X G (c.fact 2 (f := .glo "_law_closed") rfl), a__law_drawn := _, d__law_drawn := fd__law_drawn, F__law_drawn := F__law_drawn, b__law_drawn := FunD.bindsN F__law_drawn (fun _ _ _ _ _ _ us hl => match us, hl with | [_, _], _ => rfl), g__law_drawn := He.glo_ok X G (c.fact 3 (f := .glo "_law_drawn") rfl), a__law_eight := _, d__law_eight := fd__law_eight, F__law_eight := F__law_eight, b__law_eight := FunD.bindsN F__law_eight (fun _ _ _ _ _ _ us hl => match us, hl with | [_], _ => rfl), g__law_eight := He.glo_ok X G (c.fact 4 (f := .glo "_law_eight") rfl), a__law_two_ways := _, d__law_two_ways := fd__law_two_ways, F__law_two_ways := F__law_two_ways, b__law_two_ways := FunD.bindsN F__law_two_ways (fun _ _ _ _ _ _ us hl => match us, hl with | [_], _ => rfl), g__law_two_ways := He.glo_ok X G (c.fact 5 (f := .glo "_law_two_ways") rfl), a__law_ring := _, d__law_ring := fd__law_ring, F__law_ring := F__law_ring, b__law_ring := FunD.bindsN F__law_ring (fun _ _ _ _ _ _ us hl => match us, hl with | [_, _], _ => rfl), g__law_ring := He.glo_ok X G (c.fact 6 (f := .glo "_law_ring") rfl), a__law_renamed := _, d__law_renamed := fd__law_renamed, F__law_renamed := F__law_renamed, b__law_renamed := FunD.bindsN F__law_renamed (fun _ _ _ _ _ _ us hl => match us, hl with | [_, _], _ => rfl), g__law_renamed := He.glo_ok X G (c.fact 7 (f := .glo "_law_renamed") rfl), a__law_two_crowns := _, d__law_two_crowns := fd__law_two_crowns, F__law_two_crowns := F__law_two_crowns, b__law_two_crowns := FunD.bindsN F__law_two_crowns (fun _ _ _ _ _ _ us hl => match us, hl with | [_], _ => rfl), g__law_two_crowns := He.glo_ok X G (c.fact 8 (f := .glo "_law_two_crowns") rfl), a__law_table := _, d__law_table := fd__law_table, F__law_table := F__law_table, b__law_table := FunD.bindsN F__law_table (fun _ _ _ _ _ _ us hl => match us, hl with | [_], _ => rfl), g__law_table := He.glo_ok X G (c.fact 9 (f := .glo "_law_table") rfl), a__law_symmetries := _, d__law_symmetries := fd__law_symmetries, F__law_symmetries := F__law_symmetries, b__law_symmetries := FunD.bindsN F__law_symmetries (fun _ _ _ _ _ _ us hl => match us, hl with | [_], _ => rfl), g__law_symmetries := He.glo_ok X G (c.fact 10 (f := .glo "_law_symmetries") rfl), a_at_most_table := _, d_at_most_table := fd_at_most_table, F_at_most_table := F_at_most_table, b_at_most_table := FunD.bindsN F_at_most_table (fun _ _ _ _ _ _ us hl => match us, hl with | [_], _ => rfl), g_at_most_table := He.glo_ok X G (c.fact 11 (f := .glo "at_most_table") rfl), a__fits := _, d__fits := fd__fits, F__fits := F__fits, b__fits := FunD.bindsN F__fits (fun _ _ _ _ _ _ us hl => match us, hl with | [_, _, _], _ => rfl), g__fits := He.glo_ok X G (c.fact 12 (f := .glo "_fits") rfl), a_symmetries := _, d_symmetries := fd_symmetries, F_symmetries := F_symmetries, b_symmetries := FunD.bindsN F_symmetries (fun _ _ _ _ _ _ us hl => match us, hl with | [_], _ => rfl), q0_symmetries := kb_plain F_symmetries 0 ["order"] [0] (fun _ _ _ _ _ _ us ws l1 l2 => match us, l1, ws, l2 with | [], _, [_], _ => rfl), g_symmetries := He.glo_ok X G (c.fact 13 (f := .glo "symmetries") rfl), a__law_answer := _, d__law_answer := fd__law_answer, F__law_answer := F__law_answer, b__law_answer := FunD.bindsN F__law_answer (fun _ _ _ _ _ _ us hl => match us, hl with | [_, _], _ => rfl), g__law_answer := He.glo_ok X G (c.fact 14 (f := .glo "_law_answer") rfl), a__law_is_int := _, d__law_is_int := fd__law_is_int, F__law_is_int := F__law_is_int, b__law_is_int := FunD.bindsN F__law_is_int (fun _ _ _ _ _ _ us hl => match us, hl with | [_], _ => rfl), g__law_is_int := He.glo_ok X G (c.fact 15 (f := .glo "_law_is_int") rfl), a__law_same := _, d__law_same := fd__law_same, F__law_same := F__law_same, b__law_same := FunD.bindsN F__law_same (fun _ _ _ _ _ _ us hl => match us, hl with | [_, _], _ => rfl), g__law_same := He.glo_ok X G (c.fact 16 (f := .glo "_law_same") rfl), a_law := _, d_law := fd_law, F_law := F_law, b_law := FunD.bindsN F_law (fun _ _ _ _ _ _ us hl => match us, hl with | [_], _ => rfl), g_law := He.glo_ok X G (c.fact 17 (f := .glo "law") rfl), m_list := He.free_ok X G (c.fact 18 (f := .free "list") rfl), m_len := He.free_ok X G (c.fact 19 (f := .free "len") rfl), m_abs := He.free_ok X G (c.fact 20 (f := .free "abs") rfl), m_int := He.free_ok X G (c.fact 21 (f := .free "int") rfl), m_range := He.free_ok X G (c.fact 22 (f := .free "range") rfl), m_tuple := He.free_ok X G (c.fact 23 (f := .free "tuple") rfl), m_sorted := He.free_ok X G (c.fact 24 (f := .free "sorted") rfl), m_all := He.free_ok X G (c.fact 25 (f := .free "all") rfl), m_isinstance := He.free_ok X G (c.fact 26 (f := .free "isinstance") rfl), m_ValueError := He.free_ok X G (c.fact 27 (f := .free "ValueError") rfl), m_str := He.free_ok X G (c.fact 28 (f := .free "str") rfl), m_bool := He.free_ok X G (c.fact 29 (f := .free "bool") rfl), i_MOST_RENAMED := He.int_ok X G (c.fact 30 (f := .int "MOST_RENAMED" 8) rfl), g_TooLarge := He.glo_ok X G (c.fact 31 (f := .glo "TooLarge") rfl), g_StrikeError := He.glo_ok X G (c.fact 32 (f := .glo "StrikeError") rfl), g_BadMap := He.glo_ok X G (c.fact 33 (f := .glo "BadMap") rfl), g_BadOrder := He.glo_ok X G (c.fact 34 (f := .glo "BadOrder") rfl), x_TooLarge := (fun h => ⟨h.1, h.2.1, h.2.2.1, h.2.2.2⟩) (He.exc_ok (c.fact 35 (f := .exc "TooLarge") rfl)), e_TooLarge := tExcC_ok (c0.t 0 (f := tExcC "TooLarge")), k_TooLarge_BadMap := of_decide_eq_true (c0.t 1 (f := tKit "TooLarge" "BadMap" false)), k_TooLarge_BadOrder := of_decide_eq_true (c0.t 2 (f := tKit "TooLarge" "BadOrder" false)), k_TooLarge_TooLarge := of_decide_eq_true (c0.t 3 (f := tKit "TooLarge" "TooLarge" true)), kt_TooLarge_ValueError := of_decide_eq_true (c0.t 4 (f := tKitT "TooLarge" "ValueError" true)), h_TooLarge_StrikeError := He.exm_ok (c.fact 36 (f := .exm "TooLarge" "StrikeError" true) rfl) }
  have e := hfa.symm.trans T.g_law
  cases e
  have b := FunD.bindsA (ps := ["script"]) T.F_law fun _ _ _ _ _ _ us hl => match us, hl with | [_], _ => rfl
  exact ⟨T.d_law, fun s v => b s [v] rfl, fun base _ _ => ok_law T⟩
end K86
set_option maxHeartbeats 1000000
namespace K86
open PySem PySem.Spec L2 CC
open PyProof.Rows hiding St
abbrev Rd := (List Int) × Int × Int × Int
def RI (s : Rd) : Prop := s.1.length ≤ 1000
theorem draw_ok {m : Int} {s : Rd} (hm : 0 < m) (h2 : m < 1073741824) (h : RI s) : Ok (M_law_draw (m, ()) s) fun r => (0 ≤ r.1 ∧ r.1 < m) ∧ RI r.2 := by
  unfold M_law_draw
  refine Ok.bind (P := fun a => RI a) ?_ fun a ha => ?_
  · refine Ok.bind (P := fun b => b = true → 0 < s.1.length) (.bif (fun _ => .one fun q => by have := of_decide_eq_true q; omega) fun _ => .one fun q => nomatch q) fun b hb => .bif (fun e => ?_) fun e => .one h
    simp only [bassoc, sb]
    refine .bind (popAt_ok (by omega) (by have := hb e; omega) (by unfold RI at h; omega)) fun q hq => ?_
    simp (disch := omega) only [bif_bind, bassoc, sb, modO_eq, divO_eq, mulO_r, mulO_l]
    refine .bif (fun _ => .one ?_) fun _ => .one ?_
    all_goals unfold RI at h ⊢; simp only; omega
  · refine .bif (fun _ => ?_) fun _ => ?_
    · simp (disch := omega) only [bif_bind, bassoc, sb, modO_eq, divO_eq]
      exact .bif (fun _ => .one ⟨⟨mod_lo _ hm, mod_hi _ hm⟩, ha⟩) fun _ => .one ⟨⟨mod_lo _ hm, mod_hi _ hm⟩, ha⟩
    · simp (disch := omega) only [bassoc, sb, modO_eq, divO_eq, mulO_r, mulO_l]
      exact .one ⟨⟨mod_lo _ hm, mod_hi _ hm⟩, ha⟩
theorem shuffled_ok {n : Nat} {s : Rd} (hn : n ≤ 1000) (h : RI s) : Ok (M_law_shuffled ((n : Int), ()) s) fun r => r.1.Perm (rl n) ∧ RI r.2 := by
  have hr := rng_nat (n := n) (show n ≤ 1000000 by omega)
  unfold M_law_shuffled
  simp only [bassoc, sb, bind_id, hr]
  refine .bind (foldR_ok (fun k s => RI s.1 ∧ s.2.1.length + k = n ∧ (s.2.2 ++ s.2.1).Perm (rl n)) ⟨h, by rw [rl_len]; rfl, .refl _⟩ fun k s hk ⟨h1, h2, h3⟩ => ?_) fun s hs => .one ⟨?_, hs.1⟩
  · refine .bind (draw_ok (by omega) (by omega) h1) fun r hr => ?_
    refine .bind (popAt_ok hr.1.1 hr.1.2 (by omega)) fun q hq => ?_
    have hl : s.2.2.length + s.2.1.length = n := by rw [← List.length_append, h3.length_eq, rl_len]
    rw [appM_eq (by omega)]
    refine .one ⟨hr.2, by show q.2.length + (k + 1) = n; omega, ?_⟩
    refine List.Perm.trans ?_ h3
    rw [List.append_assoc]
    exact List.Perm.append_left _ hq.1.symm
  · have : s.2.1 = [] := List.eq_nil_of_length_eq_zero (by have := hs.2.1; omega)
    have h4 := hs.2.2
    rwa [this, List.append_nil] at h4
/-- links that lead upwards -/
def Bd (n : Nat) (p : Int × Int) : Prop := (0 ≤ p.1 ∧ p.1 < (n : Int)) ∧ (0 ≤ p.2 ∧ p.2 < (n : Int))
/-- an order as the law makes it -/
structure Od (w : Int × List (Int × Int)) : Prop where
  n : ∃ n : Nat, w.1 = (n : Int) ∧ n ≤ 10 ∧ ∀ p ∈ w.2, Bd n p
  ir : ∀ p ∈ w.2, p.1 ≠ p.2
  len : w.2.length ≤ 10000
theorem closed_ok {n : Nat} {ls : List (Int × Int)} (r : Int → Int) (hn : n ≤ 10) (hl : ∀ p ∈ ls, Bd n p) (hr : ∀ p ∈ ls, r p.1 < r p.2) : Ok (M_law_closed ((n : Int), ls, ())) fun w => w.1 = (n : Int) ∧ Od w := by
  have hg := rng_nat (n := n) (show n ≤ 1000000 by omega)
  unfold M_law_closed
  simp only [bassoc, sb, bind_id, hg]
  refine .bind (tab_mk (g := fun _ _ => false) (by omega) fun _ _ _ _ => rfl) fun t ht => ?_
  let U : List (List Bool) → Prop := fun t => Sq n t ∧ ∀ x y : Nat, gt t x y = true → r x < r y
  refine .bind (P := U) ?_ fun t ht => ?_
  · refine (fold_ok (fun _ t => U t) ?_ fun pre p s hp hs => ?_).mono fun t ht => ht
    · refine ⟨ht.1, fun x y e => ?_⟩
      by_cases hx : x < n
      · by_cases hy : y < n
        · rw [ht.2 x y hx hy] at e; cases e
        · obtain ⟨q, q1, q2⟩ := ht.1.rowk hx
          unfold gt at e
          rw [q1] at e
          simp only [Option.getD_some] at e
          rw [List.getElem?_eq_none (by omega)] at e
          cases e
      · unfold gt at e
        rw [show t[x]? = none from List.getElem?_eq_none (by rw [ht.1.len]; omega)] at e
        cases e
    · obtain ⟨⟨a1, a2⟩, a3, a4⟩ := hl p hp
      have hrp := hr p hp
      obtain ⟨x, e1⟩ := Int.eq_ofNat_of_zero_le a1
      obtain ⟨y, e2⟩ := Int.eq_ofNat_of_zero_le a3
      obtain ⟨t', b1, b2, b3⟩ := hs.1.set2 (x := x) (y := y) true (by omega) (by omega)
      rw [e1, e2] at hrp ⊢
      refine .of_eq b1 ⟨b2, fun i j e => ?_⟩
      rw [b3] at e
      split at e
      · rename_i q
        rw [q.1, q.2]; exact hrp
      · exact hs.2 i j e
  · refine .bind (P := U) ?_ fun t ht => ?_
    · refine foldR_ok (fun _ t => U t) ht fun z s hz hs => foldR_ok (fun _ t => U t) hs fun x s hx hs => ?_
      obtain ⟨q, q1, _, q2⟩ := hs.1.look hx
      simp only [q1, sb, q2 z hz]
      refine .bif (fun exz => ?_) fun _ => .one hs
      refine (foldR_ok (fun _ t => U t ∧ gt t x z = true) ⟨hs, exz⟩ fun y s hy hs => ?_).mono fun _ h => h.1
      obtain ⟨u, u1, _, u2⟩ := hs.1.1.look hz
      simp only [u1, sb, u2 y hy]
      refine .bif (fun ezy => ?_) fun _ => .one hs
      obtain ⟨t', b1, b2, b3⟩ := hs.1.1.set2 (x := x) (y := y) true hx hy
      refine .of_eq b1 ⟨⟨b2, fun i j e => ?_⟩, ?_⟩
      · rw [b3] at e
        split at e
        · rename_i q
          have g1 := hs.1.2 x z hs.2
          have g2 := hs.1.2 z y ezy
          rw [q.1, q.2]; omega
        · exact hs.1.2 i j e
      · rw [b3]
        split
        · rfl
        · exact hs.2
    · refine .bind (foldR_ok (fun k (s : List (Int × Int)) => s.length ≤ 100 * k ∧ ∀ p ∈ s, Bd n p ∧ r p.1 < r p.2) ⟨Nat.zero_le _, by simp⟩ fun k s hk hs => ?_) fun s hs => .one ⟨rfl, ⟨⟨n, rfl, hn, fun p hp => (hs.2 p hp).1⟩, fun p hp e => ?_, by have := hs.1; simp only; omega⟩⟩
      · obtain ⟨q, q1, _, q2⟩ := ht.1.look hk
        rw [compM_eq (p := fun y => gt t k y.toNat) (g := fun y => ((k : Int), y)) (by rw [rl_len]; omega) (fun x hx => by
          obtain ⟨j, hj, rfl⟩ := rl_mem.mp hx
          rw [q1, sb, q2 j hj, Int.toNat_natCast]) fun x hx _ => rfl]
        have hl : ((List.filter (fun y => gt t k y.toNat) (rl n)).map fun y => ((k : Int), y)).length ≤ n := by
          rw [List.length_map]
          have := List.length_filter_le (fun y => gt t k y.toNat) (rl n)
          rw [rl_len] at this
          exact this
        have hs1 := hs.1
        rw [sb, catM_eq (by omega)]
        refine .one ⟨by rw [List.length_append]; omega, fun p hp => ?_⟩
        rcases List.mem_append.mp hp with hp | hp
        · exact hs.2 p hp
        · obtain ⟨j, hj, rfl⟩ := List.mem_map.mp hp
          obtain ⟨hj1, hj2⟩ := List.mem_filter.mp hj
          obtain ⟨j, hj, rfl⟩ := rl_mem.mp hj1
          rw [Int.toNat_natCast] at hj2
          refine ⟨⟨⟨?_, ?_⟩, ?_, ?_⟩, ht.2 k j hj2⟩ <;> simp only <;> omega
      · have := (hs.2 p hp).2
        rw [e] at this
        omega
/-- the place of a value in a row -/
def ix (r : List Int) (v : Int) : Int := (r.idxOf v : Nat)
theorem ix_at {n : Nat} {r : List Int} (h : r.Perm (rl n)) {k : Nat} (hk : k < n) : atI r (k : Int) = some (rwv r k : Int) ∧ rwv r k < n ∧ ix r (rwv r k : Int) = k := by
  obtain ⟨a1, a2⟩ := (Rw.perm h).at hk
  refine ⟨a1, a2, ?_⟩
  have hk' : k < r.length := by rw [h.length_eq, rl_len]; exact hk
  have e := a1
  rw [atI_nat hk'] at e
  rw [← Option.some.inj e]
  unfold ix
  rw [(h.nodup_iff.mpr (rl_nodup n)).idxOf_getElem]
theorem drawn_ok {c : Nat} {s : Rd} (hc : 0 < c) (hc2 : c ≤ 8) (h : RI s) : Ok (M_law_drawn ((c : Int), ()) s) fun r => Od r.1 ∧ RI r.2 := by
  unfold M_law_drawn
  simp only [bassoc, sb, bind_id, bind_eta]
  refine .bind (draw_ok (by omega) (by omega) h) fun n0 hn0 => ?_
  obtain ⟨n, en⟩ := Int.eq_ofNat_of_zero_le (a := 1 + n0.1) (by have := hn0.1.1; omega)
  have hn : n ≤ 8 := by have := hn0.1.2; omega
  rw [en]
  refine .bind (shuffled_ok (by omega) hn0.2) fun p hp => ?_
  refine .bind (draw_ok (by omega) (by omega) hp.2) fun d hd => ?_
  refine .bind (P := fun z => 0 < z ∧ z < 10) ((atI_mem hd.1.1 (by have := hd.1.2; exact this)).mono fun z hz => by
    simp only [List.mem_cons, List.not_mem_nil, or_false] at hz
    omega) fun th hth => ?_
  simp only [rng_nat (n := n) (show n ≤ 1000000 by omega), sb]
  refine .bind (foldR_ok (fun k s => RI s.1 ∧ s.2.length ≤ 100 * k ∧ ∀ q ∈ s.2, Bd n q ∧ ix p.1 q.1 < ix p.1 q.2) ⟨hd.2, Nat.zero_le _, by simp⟩ fun k s hk hs => ?_) fun s hs => ?_
  · simp only [rng_nat (n := k) (show k ≤ 1000000 by omega), sb]
    refine (foldR_ok (fun j t => RI t.1 ∧ t.2.length ≤ 100 * k + j ∧ ∀ q ∈ t.2, Bd n q ∧ ix p.1 q.1 < ix p.1 q.2) hs fun j t hj ht => ?_).mono fun t ht => ⟨ht.1, by have := ht.2.1; omega, ht.2.2⟩
    refine .bind (draw_ok hth.1 (by omega) ht.1) fun r hr => .bif (fun _ => ?_) fun _ => .one ⟨hr.2, by have := ht.2.1; simp only; omega, ht.2.2⟩
    obtain ⟨a1, a2, a3⟩ := ix_at hp.1 (k := j) (by omega)
    obtain ⟨b1, b2, b3⟩ := ix_at hp.1 (k := k) hk
    simp only [a1, b1, sb]
    rw [appM_eq (by have := ht.2.1; omega)]
    refine .one ⟨hr.2, by rw [List.length_append]; have := ht.2.1; simp only [List.length_singleton]; omega, fun q hq => ?_⟩
    rcases List.mem_append.mp hq with hq | hq
    · exact ht.2.2 q hq
    · rw [List.mem_singleton.mp hq]
      unfold Bd
      simp only [a3, b3]
      omega
  · exact .bind (closed_ok (ix p.1) (by omega) (fun q hq => (hs.2.2 q hq).1) fun q hq => (hs.2.2 q hq).2) fun t ht => .one ⟨ht.2, hs.1⟩
theorem eight_ok {s : Rd} (h : RI s) : Ok (M_law_eight () s) fun r => Od r.1 ∧ RI r.2 := by
  unfold M_law_eight
  simp only [bassoc, sb, bind_id, bind_eta]
  refine .bind (draw_ok (by omega) (by omega) h) fun n0 hn0 => ?_
  obtain ⟨n, en⟩ := Int.eq_ofNat_of_zero_le (a := 7 + n0.1) (by have := hn0.1.1; omega)
  have hn : n ≤ 8 := by have := hn0.1.2; omega
  rw [en]
  refine .bind (shuffled_ok (by omega) hn0.2) fun p hp => ?_
  refine .bind (draw_ok (by omega) (by omega) hp.2) fun d hd => ?_
  have hd1 := hd.1
  simp only [rng_nat (n := n) (show n ≤ 1000000 by omega), sb]
  refine .bind (foldR_ok (fun k s => RI s.1 ∧ s.2.length ≤ 100 * k ∧ ∀ q ∈ s.2, Bd n q ∧ ix p.1 q.1 < ix p.1 q.2) ⟨hd.2, Nat.zero_le _, by simp⟩ fun k s hk hs => ?_) fun s hs => ?_
  · simp only [rng_nat (n := k) (show k ≤ 1000000 by omega), sb]
    refine (foldR_ok (fun j t => RI t.1 ∧ t.2.length ≤ 100 * k + j ∧ ∀ q ∈ t.2, Bd n q ∧ ix p.1 q.1 < ix p.1 q.2) hs fun j t hj ht => ?_).mono fun t ht => ⟨ht.1, by have := ht.2.1; omega, ht.2.2⟩
    refine .bind (P := fun _ => True) (.bif (fun _ => .one trivial) fun _ => .one trivial) fun b _ => ?_
    refine .bind (P := fun q => RI q.2) (.bif (fun _ => .one ht.1) fun _ => ?_) fun q hq => .bif (fun _ => ?_) fun _ => .one ⟨hq, by have := ht.2.1; simp only; omega, ht.2.2⟩
    · exact .bind (draw_ok (by omega) (by omega) ht.1) fun r hr => .one hr.2
    obtain ⟨a1, a2, a3⟩ := ix_at hp.1 (k := j) (by omega)
    obtain ⟨b1, b2, b3⟩ := ix_at hp.1 (k := k) hk
    simp only [a1, b1, sb]
    rw [appM_eq (by have := ht.2.1; omega)]
    refine .one ⟨hq, by rw [List.length_append]; have := ht.2.1; simp only [List.length_singleton]; omega, fun q hq => ?_⟩
    rcases List.mem_append.mp hq with hq | hq
    · exact ht.2.2 q hq
    · rw [List.mem_singleton.mp hq]
      unfold Bd
      simp only [a3, b3]
      omega
  · exact .bind (closed_ok (ix p.1) (by omega) (fun q hq => (hs.2.2 q hq).1) fun q hq => (hs.2.2 q hq).2) fun t ht => .one ⟨ht.2, hs.1⟩
/-- links so far, among the first k of the row's points, lead upwards -/
def Lk (n : Nat) (p : List Int) (k : Nat) (ls : List (Int × Int)) : Prop := ∃ r : Int → Int, ∀ q ∈ ls, (Bd n q ∧ ix p q.1 < k ∧ ix p q.2 < k) ∧ r q.1 < r q.2
theorem rwv_inj {n : Nat} {p : List Int} (h : p.Perm (rl n)) {a b : Nat} (ha : a < n) (hb : b < n) (e : rwv p a = rwv p b) : a = b := by
  have h1 := (ix_at h ha).2.2
  have h2 := (ix_at h hb).2.2
  rw [e, h2] at h1
  omega
theorem ring_ok {s : Rd} (h : RI s) : Ok (M_law_ring ((4 : Int), ()) s) fun r => Od r.1 ∧ RI r.2 := by
  unfold M_law_ring
  simp only [bassoc, sb, bind_id, bind_eta]
  refine .bind (draw_ok (by omega) (by omega) h) fun n0 hn0 => ?_
  obtain ⟨m, en⟩ := Int.eq_ofNat_of_zero_le (a := 2 + n0.1) (by have := hn0.1.1; omega)
  have hm : m ≤ 4 := by have := hn0.1.2; omega
  have hm2 : 2 ≤ m := by have := hn0.1.1; omega
  rw [en]
  rw [mulO_l (by omega) (by omega), sb]
  rw [show (2 : Int) * (m : Int) = ((2 * m : Nat) : Int) by omega]
  refine .bind (shuffled_ok (n := 2 * m) (by omega) hn0.2) fun p hp => ?_
  simp only [rng_nat (n := m) (show m ≤ 1000000 by omega), sb]
  refine .bind (foldR_ok (fun k (s : List (Int × Int)) => s.length ≤ 100 * k ∧ ∀ q ∈ s, Bd (2 * m) q ∧ ix p.1 q.1 < ix p.1 q.2) ⟨Nat.zero_le _, by simp⟩ fun k s hk hs => ?_) fun s hs => ?_
  · obtain ⟨a1, a2, a3⟩ := ix_at hp.1 (k := k) (by omega)
    obtain ⟨b1, b2, b3⟩ := ix_at hp.1 (k := m + k) (by omega)
    obtain ⟨j, ej⟩ := Int.eq_ofNat_of_zero_le (a := ((k : Int) + 1) % (m : Int)) (Int.emod_nonneg _ (by omega))
    have hj : j < m := by have := Int.emod_lt_of_pos ((k : Int) + 1) (b := (m : Int)) (by omega); omega
    obtain ⟨c1, c2, c3⟩ := ix_at hp.1 (k := j) (by omega)
    rw [show (m : Int) + (k : Int) = ((m + k : Nat) : Int) by omega]
    simp only [a1, b1, sb]
    rw [appM_eq (by have := hs.1; omega), sb, modO_eq (by omega), sb, ej]
    simp only [c1, sb]
    rw [appM_eq (by rw [List.length_append]; have := hs.1; simp only [List.length_singleton]; omega)]
    refine .one ⟨by rw [List.length_append, List.length_append]; have := hs.1; simp only [List.length_singleton]; omega, fun q hq => ?_⟩
    simp only [List.mem_append, List.mem_singleton] at hq
    rcases hq with (hq | hq) | hq
    · exact hs.2 q hq
    · rw [hq]
      unfold Bd
      simp only [a3, b3]
      omega
    · rw [hq]
      unfold Bd
      simp only [c3, b3]
      omega
  · exact .bind (closed_ok (ix p.1) (by omega) (fun q hq => (hs.2 q hq).1) fun q hq => (hs.2 q hq).2) fun t ht => .one ⟨ht.2, hp.2⟩
/-- one more link between a new point and an old one -/
theorem Lk.more {n : Nat} {p : List Int} (hp : p.Perm (rl n)) {k o : Nat} {ls : List (Int × Int)} (h : Lk n p k ls) (ho : o < k) (hk : k < n) : Lk n p (k + 1) (ls ++ [((rwv p o : Int), (rwv p k : Int))]) ∧ Lk n p (k + 1) (ls ++ [((rwv p k : Int), (rwv p o : Int))]) := by
  obtain ⟨r, hr⟩ := h
  obtain ⟨_, a2, a3⟩ := ix_at hp (k := k) hk
  obtain ⟨_, b2, b3⟩ := ix_at hp (k := o) (by omega)
  have old : ∀ q ∈ ls, q.1 ≠ (rwv p k : Int) ∧ q.2 ≠ (rwv p k : Int) := fun q hq => by
    have := (hr q hq).1.2
    constructor
    · intro e; rw [e, a3] at this; omega
    · intro e; rw [e, a3] at this; omega
  have ne : (rwv p o : Int) ≠ (rwv p k : Int) := fun e => by
    have : rwv p o = rwv p k := by omega
    have := rwv_inj hp (by omega) hk this
    omega
  constructor
  · refine ⟨fun z => if z = (rwv p k : Int) then r (rwv p o : Int) + 1 else r z, fun q hq => ?_⟩
    rcases List.mem_append.mp hq with hq | hq
    · have := hr q hq
      refine ⟨⟨this.1.1, by omega, by omega⟩, ?_⟩
      simp only [if_neg (old q hq).1, if_neg (old q hq).2]
      exact this.2
    · rw [List.mem_singleton.mp hq]
      simp only [if_neg ne, if_true, a3, b3]
      unfold Bd
      simp only
      omega
  · refine ⟨fun z => if z = (rwv p k : Int) then r (rwv p o : Int) - 1 else r z, fun q hq => ?_⟩
    rcases List.mem_append.mp hq with hq | hq
    · have := hr q hq
      refine ⟨⟨this.1.1, by omega, by omega⟩, ?_⟩
      simp only [if_neg (old q hq).1, if_neg (old q hq).2]
      exact this.2
    · rw [List.mem_singleton.mp hq]
      simp only [if_neg ne, if_true, a3, b3]
      unfold Bd
      simp only
      omega
/-- one way of covers -/
theorem way_ok {n : Nat} {p : List Int} (hp : p.Perm (rl n)) (hn : n ≤ 10) {size at_ c : Nat} {ls : List (Int × Int)} (h2 : 2 ≤ at_) (h3 : at_ + size ≤ n) (hl : ls.length ≤ c) (hc : c ≤ 1000) (hi : ∀ q ∈ ls, (Bd n q ∧ (ix p q.1 < at_ ∧ q.1 ≠ (rwv p 1 : Int))) ∧ (ix p q.2 < at_ ∧ (q.2 = (rwv p 1 : Int) ∨ ix p q.1 < ix p q.2))) {x : Int} (hx : x = (size : Int))
    {f : Int → (List (Int × Int)) × Int × Int → Option ((List (Int × Int)) × Int × Int)} (hf : ∀ k s, f k s = (atI p s.2.1).bind fun x => (appM s.1 (s.2.2, x)).bind fun a => (atI p s.2.1).bind fun b => some (a, s.2.1 + (1 : Int), b)) :
    Ok ((atI p (0 : Int)).bind fun a266 => (rng 0 x).bind fun x277 => (foldGo f x277 (ls, (at_ : Int), a266)).bind fun a278 => (atI p (1 : Int)).bind fun x279 => (appM a278.1 (a278.2.2, x279)).bind fun a283 => some (a283, a278.2.1))
      fun s => s.2 = ((at_ + size : Nat) : Int) ∧ s.1.length ≤ c + size + 1 ∧ ∀ q ∈ s.1, (Bd n q ∧ (ix p q.1 < (at_ + size : Nat) ∧ q.1 ≠ (rwv p 1 : Int))) ∧ (ix p q.2 < (at_ + size : Nat) ∧ (q.2 = (rwv p 1 : Int) ∨ ix p q.1 < ix p q.2)) := by
  obtain ⟨z1, z2, z3⟩ := ix_at hp (k := 0) (by omega)
  obtain ⟨o1, o2, o3⟩ := ix_at hp (k := 1) (by omega)
  have z1' : atI p (0 : Int) = some (rwv p 0 : Int) := z1
  have o1' : atI p (1 : Int) = some (rwv p 1 : Int) := o1
  rw [z1', sb, hx, rng_nat (n := size) (show size ≤ 1000000 by omega), sb]
  have ne : ∀ j : Nat, j < n → j ≠ 1 → (rwv p j : Int) ≠ (rwv p 1 : Int) := fun j hj h1 e => h1 (rwv_inj hp hj (by omega) (by omega))
  refine .bind (foldR_ok (fun k (s : (List (Int × Int)) × Int × Int) => s.2.1 = ((at_ + k : Nat) : Int) ∧ (∃ l : Nat, l < at_ + k ∧ l ≠ 1 ∧ s.2.2 = (rwv p l : Int)) ∧ s.1.length ≤ c + k ∧ ∀ q ∈ s.1, (Bd n q ∧ (ix p q.1 < (at_ + k : Nat) ∧ q.1 ≠ (rwv p 1 : Int))) ∧ (ix p q.2 < (at_ + k : Nat) ∧ (q.2 = (rwv p 1 : Int) ∨ ix p q.1 < ix p q.2))) ⟨rfl, ⟨0, by omega, by omega, rfl⟩, hl, hi⟩ fun k s hk hs => ?_) fun s hs => ?_
  · obtain ⟨e1, ⟨l, l1, l2, e2⟩, e3, e4⟩ := hs
    obtain ⟨a1, a2, a3⟩ := ix_at hp (k := at_ + k) (by omega)
    obtain ⟨b1, b2, b3⟩ := ix_at hp (k := l) (by omega)
    rw [hf, e1, a1]
    simp only [sb, e2]
    rw [appM_eq (by omega), sb]
    refine .one ⟨by simp only; omega, ⟨at_ + k, by omega, by omega, rfl⟩, by rw [List.length_append]; simp only [List.length_singleton]; omega, fun q hq => ?_⟩
    rcases List.mem_append.mp hq with hq | hq
    · have := e4 q hq
      exact ⟨⟨this.1.1, by omega, this.1.2.2⟩, by omega, this.2.2⟩
    · rw [List.mem_singleton.mp hq]
      unfold Bd
      simp only [a3, b3]
      exact ⟨⟨by omega, by omega, ne l (by omega) l2⟩, by omega, .inr (by omega)⟩
  · obtain ⟨e1, ⟨l, l1, l2, e2⟩, e3, e4⟩ := hs
    obtain ⟨b1, b2, b3⟩ := ix_at hp (k := l) (by omega)
    simp only [sb, o1', e2]
    rw [appM_eq (by omega), sb]
    refine .one ⟨e1, by rw [List.length_append]; simp only [List.length_singleton]; omega, fun q hq => ?_⟩
    rcases List.mem_append.mp hq with hq | hq
    · exact e4 q hq
    · rw [List.mem_singleton.mp hq]
      unfold Bd
      simp only [o3, b3]
      exact ⟨⟨by omega, by omega, ne l (by omega) l2⟩, by omega, .inl trivial⟩
theorem two_ways_ok {s : Rd} (h : RI s) : Ok (M_law_two_ways () s) fun r => Od r.1 ∧ RI r.2 := by
  unfold M_law_two_ways
  simp only [bassoc, sb, bind_id, bind_eta]
  refine .bind (draw_ok (by omega) (by omega) h) fun d0 hd0 => ?_
  refine .bind (draw_ok (by omega) (by omega) hd0.2) fun d1 hd1 => ?_
  refine .bind (draw_ok (by omega) (by omega) hd1.2) fun mo hmo => ?_
  obtain ⟨s0, e0⟩ := Int.eq_ofNat_of_zero_le (a := 1 + d0.1) (by have := hd0.1.1; omega)
  obtain ⟨s1, e1⟩ := Int.eq_ofNat_of_zero_le (a := 1 + d1.1) (by have := hd1.1.1; omega)
  obtain ⟨m, em⟩ := Int.eq_ofNat_of_zero_le hmo.1.1
  have hs0 : s0 ≤ 3 := by have := hd0.1.2; omega
  have hs1 : s1 ≤ 3 := by have := hd1.1.2; omega
  have hm : m ≤ 2 := by have := hmo.1.2; omega
  rw [e0, e1, em]
  rw [show atI [(s0 : Int), (s1 : Int)] (0 : Int) = some (s0 : Int) from rfl, sb, show atI [(s0 : Int), (s1 : Int)] (1 : Int) = some (s1 : Int) from rfl, sb]
  rw [show 2 + (s0 : Int) + (s1 : Int) + (m : Int) = ((2 + s0 + s1 + m : Nat) : Int) by omega]
  generalize hn : 2 + s0 + s1 + m = n
  refine .bind (shuffled_ok (n := n) (by omega) hmo.2) fun p hp => ?_
  show Ok (Option.bind (Option.bind _ fun s' => Option.bind _ fun s'' => some s'') _) _
  rw [bassoc]
  refine .bind (way_ok hp.1 (by omega) (size := s0) (at_ := 2) (c := 0) (ls := []) (by omega) (by omega) (by simp) (by omega) (by simp) rfl fun _ _ => rfl) fun a ha => ?_
  obtain ⟨a1, a2⟩ := a
  obtain ⟨ea, la, ia⟩ := ha
  simp only at ea la ia
  subst ea
  rw [bassoc]
  refine .bind (way_ok hp.1 (by omega) (size := s1) (at_ := 2 + s0) (c := 100) (ls := a1) (by omega) (by omega) (by omega) (by omega) ia rfl fun _ _ => rfl) fun b hb => ?_
  rw [sb]
  rw [show ((n : Nat) : Int) - (m : Int) = ((2 + s0 + s1 : Nat) : Int) by omega, rng_lo (by omega) (by omega), sb]
  have hL : Lk n p.1 (2 + s0 + s1) b.1 := ⟨fun z => if z = (rwv p.1 1 : Int) then 1000 else ix p.1 z, fun q hq => by
    obtain ⟨⟨q1, q2, q3⟩, q4, q5⟩ := hb.2.2 q hq
    refine ⟨⟨q1, q2, q4⟩, ?_⟩
    simp only [if_neg q3]
    split
    · omega
    · rcases q5 with q5 | q5
      · contradiction
      · exact q5⟩
  refine .bind (foldRL_ok (fun k (s : Rd × List (Int × Int)) => RI s.1 ∧ s.2.length ≤ 2000 + k ∧ Lk n p.1 k s.2) ⟨hp.2, by have := hb.2.1; simp only; omega, hL⟩ fun k s hk1 hk2 hs => ?_) fun s hs => ?_
  · refine .bind (draw_ok (by omega) (by omega) hs.1) fun o ho => ?_
    obtain ⟨j, ej⟩ := Int.eq_ofNat_of_zero_le ho.1.1
    have hj : j < k := by have := ho.1.2; omega
    obtain ⟨c1, c2, c3⟩ := ix_at hp.1 (k := j) (by omega)
    obtain ⟨k1, k2, k3⟩ := ix_at hp.1 (k := k) (by omega)
    rw [ej, c1, sb]
    refine .bind (draw_ok (by omega) (by omega) ho.2) fun w hw => ?_
    have := Lk.more hp.1 hs.2.2 hj (by omega)
    rw [k1]
    simp only [sb, bif_bind]
    have hl := hs.2.1
    refine .bif (fun _ => ?_) fun _ => ?_
    · rw [appM_eq (by omega)]
      exact .one ⟨hw.2, by rw [List.length_append]; simp only [List.length_singleton]; omega, this.1⟩
    · rw [appM_eq (by omega)]
      exact .one ⟨hw.2, by rw [List.length_append]; simp only [List.length_singleton]; omega, this.2⟩
  · obtain ⟨i1, i2, r, hr⟩ := hs
    exact .bind (closed_ok r (by omega) (fun q hq => (hr q hq).1.1) fun q hq => (hr q hq).2) fun t ht => .one ⟨ht.2, i1⟩
theorem renamed_ok {n : Nat} {ps : List (Int × Int)} {row : List Int} (hn : n ≤ 10) (hp : row.Perm (rl n)) (hl : ps.length ≤ 1000) (h : ∀ p ∈ ps, Bd n p ∧ p.1 ≠ p.2) : Ok (M_law_renamed (((n : Int), ps), row, ())) Od := by
  unfold M_law_renamed
  simp only [bassoc, sb, bind_id]
  refine .bind (mapM_ok (P := fun x y => Bd n y ∧ y.1 ≠ y.2) (by omega) fun x hx => ?_) fun ys hys => .one ?_
  · obtain ⟨⟨⟨a1, a2⟩, a3, a4⟩, a5⟩ := h x hx
    obtain ⟨i, ei⟩ := Int.eq_ofNat_of_zero_le a1
    obtain ⟨j, ej⟩ := Int.eq_ofNat_of_zero_le a3
    obtain ⟨b1, b2, b3⟩ := ix_at hp (k := i) (by omega)
    obtain ⟨c1, c2, c3⟩ := ix_at hp (k := j) (by omega)
    rw [ei, ej, b1, c1]
    simp only [sb]
    refine .one ⟨⟨⟨?_, ?_⟩, ?_, ?_⟩, fun e => ?_⟩
    all_goals try (simp only; omega)
    have : rwv row i = rwv row j := by simp only at e; omega
    have := rwv_inj hp (by omega) (by omega) this
    omega
  · have pp : (sortP ys).Perm ys := isort_perm leP ys
    have hy : ∀ y ∈ ys, Bd n y ∧ y.1 ≠ y.2 := fun y hy => (f2_mem hys hy).elim fun _ q => q.2
    exact ⟨⟨n, rfl, hn, fun p hp => (hy p (pp.mem_iff.mp hp)).1⟩, fun p hp => (hy p (pp.mem_iff.mp hp)).2, by simp only; rw [pp.length_eq, f2_len hys]; omega⟩
theorem two_crowns_ok {s : Rd} (h : RI s) : Ok (M_law_two_crowns () s) fun r => Od r.1 ∧ RI r.2 := by
  unfold M_law_two_crowns
  have e0 : (foldGo (fun x371 s372 => ((rng 0 (2 : Int)).bind fun x380 => foldGo (fun x374 s375 => (((rng 0 (2 : Int)).bind fun x377 => mapM (fun x376 => some (x371 + x374, (x371 + (2 : Int)) + x376)) x377).bind fun x378 => catM s375 x378).bind fun a379 => some a379) x380 s372).bind fun a381 => some a381) [(0 : Int), (4 : Int)] ([] : List (Int × Int))) = some [(0, 2), (0, 3), (1, 2), (1, 3), (4, 6), (4, 7), (5, 6), (5, 7)] := by decide +kernel
  rw [e0, sb]
  have e1 : ((rng 0 (4 : Int)).bind fun x405 => foldGo (fun x399 s400 => (((rng (4 : Int) (8 : Int)).bind fun x402 => mapM (fun x401 => some (x399, x401)) x402).bind fun x403 => catM s400 x403).bind fun a404 => some a404) x405 [((0 : Int), (2 : Int)), (0, 3), (1, 2), (1, 3), (4, 6), (4, 7), (5, 6), (5, 7)]) = some [(0, 2), (0, 3), (1, 2), (1, 3), (4, 6), (4, 7), (5, 6), (5, 7), (0, 4), (0, 5), (0, 6), (0, 7), (1, 4), (1, 5), (1, 6), (1, 7), (2, 4), (2, 5), (2, 6), (2, 7), (3, 4), (3, 5), (3, 6), (3, 7)] := by decide +kernel
  rw [e1]
  simp only [bassoc, sb, bind_id, bind_eta]
  refine .bind (draw_ok (by omega) (by omega) h) fun d hd => ?_
  refine .bind (P := fun q => RI q.1 ∧ q.2.length ≤ 1000 ∧ ∀ p ∈ q.2, Bd 8 p ∧ p.1 ≠ p.2) (.bif (fun _ => .one ⟨hd.2, by simp only [List.length_cons, List.length_nil]; omega, ?_⟩) fun _ => .one ⟨hd.2, by simp only [List.length_cons, List.length_nil]; omega, ?_⟩) fun q hq => ?_
  · simp only; unfold Bd; decide +kernel
  · simp only; unfold Bd; decide +kernel
  · exact .bind (shuffled_ok (n := 8) (by omega) hq.1) fun p hp => .bind (renamed_ok (n := 8) (by omega) hp.1 hq.2.1 hq.2.2) fun w hw => .one ⟨hw, hp.2⟩
end K86
set_option maxHeartbeats 1000000
namespace K86
open PySem PySem.Spec L2 CC
open PyProof.Rows hiding St
def rel (ps : List (Int × Int)) (x y : Nat) : Bool := decide (((x : Int), (y : Int)) ∈ ps)
theorem fill_ok {n : Nat} {ps : List (Int × Int)} {t0 : List (List Bool)} {g : Nat → Nat → Bool} (hb : ∀ p ∈ ps, Bd n p) (h0 : Sq n t0 ∧ ∀ x y : Nat, x < n → y < n → gt t0 x y = g x y) :
    Ok (foldGo (fun (x : Int × Int) s => setAt2 s x.1 x.2 true) ps t0) fun u => Sq n u ∧ ∀ x y : Nat, x < n → y < n → gt u x y = (g x y || rel ps x y) := by
  refine (fold_ok (fun pre u => Sq n u ∧ ∀ x y : Nat, x < n → y < n → gt u x y = (g x y || decide (((x : Int), (y : Int)) ∈ pre))) ⟨h0.1, fun x y hx hy => by rw [h0.2 x y hx hy]; simp⟩ fun pre p s hp hs => ?_).mono fun u hu => hu
  obtain ⟨⟨a1, a2⟩, a3, a4⟩ := hb p hp
  obtain ⟨p1, p2⟩ := p
  obtain ⟨i, rfl⟩ := Int.eq_ofNat_of_zero_le a1
  obtain ⟨j, rfl⟩ := Int.eq_ofNat_of_zero_le a3
  simp only at a2 a4
  obtain ⟨t', b1, b2, b3⟩ := hs.1.set2 (x := i) (y := j) true (by omega) (by omega)
  refine .of_eq b1 ⟨b2, fun x y hx hy => ?_⟩
  rw [b3]
  by_cases e : x = i ∧ y = j
  · rw [if_pos e, e.1, e.2]
    simp
  · rw [if_neg e, hs.2 x y hx hy]
    have : ¬ (((x : Int), (y : Int)) = ((i : Int), (j : Int))) := fun q => e ⟨by have := (Prod.mk.inj q).1; omega, by have := (Prod.mk.inj q).2; omega⟩
    simp only [List.mem_append, List.mem_singleton, this, or_false]
theorem table_ok {n : Nat} {ps : List (Int × Int)} (hn : n ≤ 10) (hb : ∀ p ∈ ps, Bd n p) : Ok (M_law_table (((n : Int), ps), ())) fun u => Sq n u ∧ ∀ x y : Nat, x < n → y < n → gt u x y = rel ps x y := by
  unfold M_law_table
  simp only [bassoc, sb, bind_id, rng_nat (n := n) (show n ≤ 1000000 by omega)]
  refine .bind (tab_mk (g := fun _ _ => false) (by omega) fun _ _ _ _ => rfl) fun t ht => ?_
  exact (fill_ok hb ht).mono fun u hu => ⟨hu.1, fun x y hx hy => by rw [hu.2 x y hx hy]; rfl⟩
theorem most_ok {n : Nat} {ps : List (Int × Int)} (hn : n ≤ 10) (hb : ∀ p ∈ ps, Bd n p) : Ok (M_at_most_table (((n : Int), ps), ())) fun u => Sq n u ∧ ∀ x y : Nat, x < n → y < n → gt u x y = (decide (x = y) || rel ps x y) := by
  unfold M_at_most_table
  simp only [bassoc, sb, bind_id, rng_nat (n := n) (show n ≤ 1000000 by omega)]
  refine .bind (tab_mk (g := fun x y => decide (x = y)) (by omega) fun x y _ _ => ?_) fun t ht => ?_
  · congr 1
    exact decide_eq_decide.mpr (by omega)
  exact fill_ok hb ht
/-- what the next value must keep -/
def qf (ps : List (Int × Int)) (row : List Int) (v : Int) : Bool := (List.range row.length).all fun z => decide (rel ps z row.length = rel ps (rwv row z) v.toNat) && decide (rel ps row.length z = rel ps v.toNat (rwv row z))
def pf (ps : List (Int × Int)) (row : List Int) (v : Int) : Bool := !decide (v ∈ row) && qf ps row v
theorem loop_all {f : Int → Unit → Option (Out Unit Bool)} {p : Nat → Bool} : ∀ {n : Nat}, (∀ z < n, f (z : Int) () = some (if p z then .nx () else .rt false)) → loopGo f (rl n) () = some (if (List.range n).all p then .nx () else .rt false) := by
  intro n h
  have go : ∀ (l : List Nat), (∀ z ∈ l, z < n) → loopGo f (l.map fun i : Nat => (i : Int)) () = some (if l.all p then .nx () else .rt false) := by
    intro l
    induction l with
    | nil => intro _; rfl
    | cons a l ih =>
      intro hl
      show (f (a : Int) ()).bind _ = _
      rw [h a (hl a List.mem_cons_self)]
      cases hp : p a with
      | true =>
        show loopGo f (l.map fun i : Nat => (i : Int)) () = _
        rw [ih fun z hz => hl z (List.mem_cons_of_mem _ hz), List.all_cons, hp, Bool.true_and]
      | false =>
        rw [List.all_cons, hp, Bool.false_and]
        rfl
  exact go (List.range n) fun z hz => List.mem_range.mp hz
theorem fits_ok {n : Nat} {ps : List (Int × Int)} {t : List (List Bool)} {row : List Int} {v : Int} (hn : n ≤ 10) (ht : Sq n t ∧ ∀ x y : Nat, x < n → y < n → gt t x y = (decide (x = y) || rel ps x y)) (hr : Rw row.length n row) (hl : row.length < n) (hv : 0 ≤ v ∧ v < (n : Int)) : M_fits (t, row, v, ()) = some (pf ps row v) := by
  obtain ⟨w, rfl⟩ := Int.eq_ofNat_of_zero_le hv.1
  have hw : w < n := by omega
  unfold M_fits pf
  cases hm : decide ((w : Int) ∈ row) with
  | true => rfl
  | false =>
    have hm' : (w : Int) ∉ row := of_decide_eq_false hm
    simp only [cond_false, bassoc, sb, bind_id, rng_nat (n := row.length) (show row.length ≤ 1000000 by omega)]
    obtain ⟨rx, rx1, _, rx2⟩ := ht.1.look hl
    obtain ⟨rw_, rw1, _, rw2⟩ := ht.1.look hw
    rw [loop_all (p := fun z => decide (rel ps z row.length = rel ps (rwv row z) w) && decide (rel ps row.length z = rel ps w (rwv row z))) fun z hz => ?_]
    · unfold qf
      rw [Int.toNat_natCast]
      cases (List.range row.length).all fun z => decide (rel ps z row.length = rel ps (rwv row z) w) && decide (rel ps row.length z = rel ps w (rwv row z)) <;> rfl
    · obtain ⟨a1, a2⟩ := hr.at hz
      obtain ⟨rz, rz1, _, rz2⟩ := ht.1.look (show z < n by omega)
      obtain ⟨rr, rr1, _, rr2⟩ := ht.1.look a2
      have n1 : decide (z = row.length) = false := decide_eq_false (by omega)
      have n1' : decide (row.length = z) = false := decide_eq_false (by omega)
      have hne : rwv row z ≠ w := fun e => hm' (by
        have h2 := a1
        rw [atI_nat hz] at h2
        rw [← e, ← Option.some.inj h2]
        exact List.getElem_mem hz)
      have n2 : decide (rwv row z = w) = false := decide_eq_false hne
      have n2' : decide (w = rwv row z) = false := decide_eq_false (Ne.symm hne)
      simp only [rz1, rx1, rw1, rr1, a1, sb, rz2 _ hl, rr2 _ hw, rx2 z (by omega), rw2 _ a2, ht.2 z _ (by omega) hl, ht.2 _ _ a2 hw, ht.2 _ z hl (by omega), ht.2 _ _ hw a2, n1, n1', n2, n2', Bool.false_or]
      cases rel ps z row.length <;> cases rel ps (rwv row z) w <;> cases rel ps row.length z <;> cases rel ps w (rwv row z) <;> rfl
/-! ### rows -/
def stP (n : Nat) (ps : List (Int × Int)) (rows : List (List Int)) : List (List Int) := rows.flatMap fun row => ((rl n).filter fun v => pf ps row v).map fun v => row ++ [v]
def itP (n : Nat) (ps : List (Int × Int)) : Nat → List (List Int)
  | 0 => [[]]
  | k + 1 => stP n ps (itP n ps k)
/-- the rows so far are parts of renamings -/
structure Part (n : Nat) (ps : List (Int × Int)) (k : Nat) (row : List Int) : Prop where
  rw : Rw k n row
  nd : row.Nodup
  eq : ∀ z x : Nat, z < x → x < k → rel ps z x = rel ps (rwv row z) (rwv row x) ∧ rel ps x z = rel ps (rwv row x) (rwv row z)
theorem rwv_app {row : List Int} {v : Int} {z : Nat} (h : z < row.length) : rwv (row ++ [v]) z = rwv row z := by
  unfold rwv
  rw [List.getElem?_append_left h]
theorem rwv_last {row : List Int} {v : Int} : rwv (row ++ [v]) row.length = v.toNat := by
  unfold rwv
  rw [List.getElem?_append_right (Nat.le_refl _)]
  simp
theorem part_it {n : Nat} {ps : List (Int × Int)} : ∀ {k : Nat}, ∀ row ∈ itP n ps k, Part n ps k row
  | 0, row, h => by
    have : row = [] := by simpa [itP] using h
    subst this
    exact ⟨⟨rfl, by simp⟩, List.nodup_nil, fun z x h1 h2 => by omega⟩
  | k + 1, row, h => by
    obtain ⟨r0, h0, h1⟩ := List.mem_flatMap.mp (show row ∈ (itP n ps k).flatMap _ from h)
    obtain ⟨v, hv, rfl⟩ := List.mem_map.mp h1
    obtain ⟨hv1, hv2⟩ := List.mem_filter.mp hv
    obtain ⟨w, hw, rfl⟩ := rl_mem.mp hv1
    have P0 := part_it (k := k) r0 h0
    unfold pf at hv2
    rw [Bool.and_eq_true] at hv2
    have hm : (w : Int) ∉ r0 := by simpa using hv2.1
    have hq := List.all_eq_true.mp hv2.2
    have hl := P0.rw.len
    refine ⟨⟨by rw [List.length_append, hl]; rfl, fun x hx => ?_⟩, ?_, fun z x hzx hx => ?_⟩
    · rcases List.mem_append.mp hx with hx | hx
      · exact P0.rw.lo x hx
      · rw [List.mem_singleton.mp hx]; omega
    · rw [List.nodup_append]
      exact ⟨P0.nd, List.pairwise_singleton _ _, fun a ha b hb e => hm (by rw [List.mem_singleton.mp hb] at e; exact e ▸ ha)⟩
    · by_cases e : x = k
      · have ex : x = r0.length := by omega
        have hz : z < r0.length := by omega
        have := hq z (List.mem_range.mpr hz)
        rw [Bool.and_eq_true, decide_eq_true_eq, decide_eq_true_eq] at this
        rw [rwv_app hz, ex, rwv_last]
        exact this
      · rw [rwv_app (show z < r0.length by omega), rwv_app (show x < r0.length by omega)]
        exact P0.eq z x hzx (by omega)
def dsc (n : Nat) : Nat → Nat
  | 0 => 1
  | k + 1 => dsc n k * (n - k)
theorem dsc_le : ∀ n, n ≤ 8 → ∀ k, k ≤ 8 → dsc n k ≤ 40320 := by
  have : ∀ n : Fin 9, ∀ k : Fin 9, dsc n.1 k.1 ≤ 40320 := by decide +kernel
  exact fun n hn k hk => this ⟨n, by omega⟩ ⟨k, by omega⟩
theorem free_len {n k : Nat} {row : List Int} (h : Rw k n row) (nd : row.Nodup) (p : Int → Bool) : ((rl n).filter fun v => !decide (v ∈ row) && p v).length ≤ n - k := by
  have h1 : (row ++ (rl n).filter fun v => !decide (v ∈ row) && p v).length ≤ (rl n).length := nodup_len (by
    rw [List.nodup_append]
    refine ⟨nd, List.Nodup.sublist List.filter_sublist (rl_nodup n), fun a ha b hb e => ?_⟩
    have := (List.mem_filter.mp hb).2
    rw [Bool.and_eq_true] at this
    have := this.1
    rw [← e] at this
    simp [ha] at this) fun x hx => by
    rcases List.mem_append.mp hx with hx | hx
    · obtain ⟨a1, a2⟩ := h.lo x hx
      exact rl_mem.mpr ⟨x.toNat, by omega, by omega⟩
    · exact (List.mem_filter.mp hx).1
  rw [List.length_append, h.len, rl_len] at h1
  omega
theorem flat_len {α β : Type} {f : α → List β} {c : Nat} : ∀ {l : List α}, (∀ x ∈ l, (f x).length ≤ c) → (l.flatMap f).length ≤ l.length * c
  | [], _ => by simp
  | x :: l, h => by
    rw [List.flatMap_cons, List.length_append, List.length_cons, Nat.succ_mul]
    have h1 := h x List.mem_cons_self
    have h2 := flat_len (l := l) fun y hy => h y (List.mem_cons_of_mem _ hy)
    omega
theorem it_len {n : Nat} {ps : List (Int × Int)} : ∀ k, (itP n ps k).length ≤ dsc n k
  | 0 => Nat.le_refl _
  | k + 1 => by
    refine Nat.le_trans (flat_len (c := n - k) fun row hr => ?_) (Nat.mul_le_mul_right _ (it_len k))
    rw [List.length_map]
    have P := part_it row hr
    exact free_len P.rw P.nd _
/-- the program's rows -/
theorem sym_ok {n : Nat} {ps : List (Int × Int)} (hn : n ≤ 8) (hb : ∀ p ∈ ps, Bd n p) : M_symmetries (((n : Int), ps), ()) = some (.ok (itP n ps n)) := by
  unfold M_symmetries
  rw [show decide ((8 : Int) < (n : Int)) = false from decide_eq_false (by omega), cond_false]
  refine Ok.eq_some (.bind (most_ok (by omega) hb) fun t ht => ?_)
  simp only [bassoc, sb, bind_id, rng_nat (n := n) (show n ≤ 1000000 by omega)]
  refine .bind (foldR_ok (fun k s => s = itP n ps k) rfl fun k s hk hs => ?_) fun s hs => by rw [hs]; exact .one rfl
  subst hs
  refine ⟨_, comp2M_eq (it := fun _ => rl n) (p := fun row v => pf ps row v) (g := fun row v => row ++ [v]) (fun _ _ => rfl) (fun _ _ => rfl) (fun row hr v hv => ?_) (fun row hr v hv _ => ?_) ?_, rfl⟩
  · obtain ⟨w, hw, rfl⟩ := rl_mem.mp hv
    have P := part_it row hr
    exact fits_ok (by omega) ht (by rw [P.rw.len]; exact P.rw) (by rw [P.rw.len]; exact hk) (by omega)
  · exact catM_eq (by rw [(part_it row hr).rw.len]; simp only [List.length_singleton]; omega)
  · exact Nat.le_trans (it_len (k + 1)) (Nat.le_trans (dsc_le n hn (k + 1) (by omega)) (by omega))
end K86
set_option maxHeartbeats 1000000
namespace K86
open PySem PySem.Spec L2 CC
open PyProof.Rows hiding St
def lows (n : Nat) (ps : List (Int × Int)) (x : Nat) : Nat := ((rl n).filter fun y => rel ps y.toNat x).length
def highs (n : Nat) (ps : List (Int × Int)) (x : Nat) : Nat := ((rl n).filter fun y => rel ps x y.toNat).length
def sg (n : Nat) (ps : List (Int × Int)) (x y : Nat) : Bool := decide (lows n ps x = lows n ps y) && decide (highs n ps x = highs n ps y)
def sgOk (n : Nat) (ps : List (Int × Int)) (row : List Int) : Bool := (List.range row.length).all fun z => sg n ps (rwv row z) z
theorem sgOk_app {n k : Nat} {ps : List (Int × Int)} {row : List Int} {w : Nat} (h : row.length = k) : sgOk n ps (row ++ [(w : Int)]) = (sgOk n ps row && sg n ps w k) := by
  unfold sgOk
  rw [List.length_append, List.length_singleton, List.range_succ, List.all_append, List.all_cons, List.all_nil, Bool.and_true, rwv_last, Int.toNat_natCast, h]
  congr 1
  have : ∀ l : List Nat, (∀ z ∈ l, z < row.length) → (l.all fun z => sg n ps (rwv (row ++ [(w : Int)]) z) z) = l.all fun z => sg n ps (rwv row z) z := by
    intro l
    induction l with
    | nil => intro _; rfl
    | cons a l ih =>
      intro hl
      rw [List.all_cons, List.all_cons, ih fun z hz => hl z (List.mem_cons_of_mem _ hz), rwv_app (hl a List.mem_cons_self)]
  exact this _ fun z hz => by rw [h]; exact List.mem_range.mp hz
def fL (n : Nat) (ps : List (Int × Int)) (k : Nat) (row : List Int) : List (List Int) := ((rl n).filter fun v => sg n ps v.toNat k && pf ps row v).map fun v => row ++ [v]
theorem filt {n k : Nat} {ps : List (Int × Int)} : ∀ {rows : List (List Int)}, (∀ row ∈ rows, row.length = k) → (rows.filter (sgOk n ps)).flatMap (fL n ps k) = (stP n ps rows).filter (sgOk n ps)
  | [], _ => rfl
  | row :: rows, h => by
    have ih := filt (n := n) (k := k) (ps := ps) (rows := rows) fun r hr => h r (List.mem_cons_of_mem _ hr)
    have e : ((((rl n).filter fun v => pf ps row v).map fun v => row ++ [v]).filter (sgOk n ps)) = if sgOk n ps row then fL n ps k row else [] := by
      rw [List.filter_map, List.filter_filter]
      have e1 : ∀ v ∈ rl n, ((sgOk n ps ∘ fun v => row ++ [v]) v && pf ps row v) = (sgOk n ps row && (sg n ps v.toNat k && pf ps row v)) := fun v hv => by
        obtain ⟨w, hw, rfl⟩ := rl_mem.mp hv
        show (sgOk n ps (row ++ [(w : Int)]) && _) = _
        rw [sgOk_app (h row List.mem_cons_self), Int.toNat_natCast, Bool.and_assoc]
      rw [List.filter_congr e1]
      cases sgOk n ps row with
      | true => simp only [Bool.true_and, if_true]; rfl
      | false => simp
    show _ = List.filter _ ((row :: rows).flatMap _)
    rw [List.flatMap_cons, List.filter_append, e]
    cases hs : sgOk n ps row with
    | true =>
      rw [List.filter_cons_of_pos hs, List.flatMap_cons, ih]
      rfl
    | false =>
      rw [List.filter_cons_of_neg (by rw [hs]; exact fun z => nomatch z), ih]
      simp only [Bool.false_eq_true, if_false, List.nil_append]
      rfl
theorem lsym_ok {n : Nat} {ps : List (Int × Int)} (hn : n ≤ 8) (hb : ∀ p ∈ ps, Bd n p) : M_law_symmetries (((n : Int), ps), ()) = some ((itP n ps n).filter (sgOk n ps)) := by
  unfold M_law_symmetries
  refine Ok.eq_some (.bind (table_ok (by omega) hb) fun t ht => ?_)
  simp only [bassoc, sb, bind_id, rng_nat (n := n) (show n ≤ 1000000 by omega)]
  refine .bind (mapR_ok (P := fun k y => y = ((lows n ps k : Int), (highs n ps k : Int))) (by omega) fun k hk => ?_) fun S hS => ?_
  · obtain ⟨r, r1, _, r2⟩ := ht.1.look hk
    rw [compM_eq (p := fun y => rel ps y.toNat k) (g := fun y => y) (by rw [rl_len]; omega) (fun y hy => by
      obtain ⟨j, hj, rfl⟩ := rl_mem.mp hy
      obtain ⟨q, q1, _, q2⟩ := ht.1.look hj
      rw [q1, sb, q2 k hk, ht.2 j k hj hk, Int.toNat_natCast]) fun y _ _ => rfl, sb]
    rw [compM_eq (p := fun y => rel ps k y.toNat) (g := fun y => y) (by rw [rl_len]; omega) (fun y hy => by
      obtain ⟨j, hj, rfl⟩ := rl_mem.mp hy
      rw [r1, sb, r2 j hj, ht.2 k j hk hj, Int.toNat_natCast]) fun y _ _ => rfl, sb]
    exact .one (by rw [List.map_id', List.map_id']; rfl)
  have hSa : ∀ v : Nat, v < n → atI S (v : Int) = some ((lows n ps v : Int), (highs n ps v : Int)) := fun v hv => by
    have hv' : v < S.length := by rw [hS.1]; exact hv
    rw [atI_nat hv', hS.2 v _ (List.getElem?_eq_getElem hv')]
  refine .bind (loopR_ok (fun k s => s = (itP n ps k).filter (sgOk n ps)) rfl fun k s hk hs => ?_) fun o ho => by
    obtain ⟨s', rfl, e⟩ := ho
    exact .one e
  have hlen : s.length ≤ 40320 := by
    rw [hs]
    exact Nat.le_trans (List.length_filter_le _ _) (Nat.le_trans (it_len k) (dsc_le n hn k (by omega)))
  have hpart : ∀ row ∈ s, Part n ps k row := fun row hr => by
    rw [hs] at hr
    exact part_it row (List.mem_filter.mp hr).1
  have hfl : ∀ row, (fL n ps k row).length ≤ 8 := fun row => by
    unfold fL
    rw [List.length_map]
    refine Nat.le_trans (List.length_filter_le _ _) ?_
    rw [rl_len]; exact hn
  refine .bind (P := fun o => ∃ s', o = Out.nx s' ∧ s' = s.flatMap (fL n ps k)) ?_ fun o ho => ?_
  · refine (loopGo_ok (Inv := fun j (u : List (List Int)) => u = (s.take j).flatMap (fL n ps k)) s 0 rfl fun j row u hj hu => ?_).mono fun o ho => ?_
    · have hrow := List.mem_of_getElem? hj
      have P := hpart row hrow
      have hul : u.length ≤ 322560 := by
        rw [hu]
        refine Nat.le_trans (flat_len (c := 8) fun r _ => hfl r) ?_
        rw [List.length_take]
        omega
      refine .bind (loopR_ok (fun i (w : List (List Int)) => w = u ++ ((rl i).filter fun v => sg n ps v.toNat k && pf ps row v).map fun v => row ++ [v]) (by simp [rl]) fun v w hv hw => ?_) fun o ho => ?_
      · have hwl : w.length ≤ 322560 + 8 := by
          rw [hw, List.length_append, List.length_map]
          have := List.length_filter_le (fun v => sg n ps v.toNat k && pf ps row v) (rl v)
          rw [rl_len] at this
          omega
        have nx : ∀ b : Bool, (sg n ps v k && pf ps row (v : Int)) = b → ((rl (v + 1)).filter fun v => sg n ps v.toNat k && pf ps row v) = ((rl v).filter fun v => sg n ps v.toNat k && pf ps row v) ++ if b then [(v : Int)] else [] := fun b hb => by
          rw [rl_succ, List.filter_append, List.filter_cons, List.filter_nil, Int.toNat_natCast, hb]
        rw [hSa v hv, sb, hSa k hk, sb]
        unfold neP
        rw [eqP_prs, sb, sb]
        have esg : (decide ((lows n ps v : Int) = (lows n ps k : Int)) && decide ((highs n ps v : Int) = (highs n ps k : Int))) = sg n ps v k := by
          unfold sg
          congr 1 <;> exact decide_eq_decide.mpr (by omega)
        rw [esg]
        have eb : (bif !sg n ps v k then some true else some (decide ((v : Int) ∈ row))) = some (!(sg n ps v k && !decide ((v : Int) ∈ row))) := by
          cases sg n ps v k <;> simp
        rw [eb, sb]
        cases hc : (sg n ps v k && !decide ((v : Int) ∈ row)) with
        | false =>
          refine .one ⟨w, .inr rfl, ?_⟩
          have : (sg n ps v k && pf ps row (v : Int)) = false := by
            unfold pf
            rw [← Bool.and_assoc, hc, Bool.false_and]
          rw [nx _ this, hw]
          simp
        | true =>
          have hc' := Bool.and_eq_true_iff.mp hc
          simp only [Bool.not_true, cond_false, rng_nat (n := k) (show k ≤ 1000000 by omega), sb]
          rw [mapM_is (g := fun z => decide (rel ps z.toNat row.length = rel ps (rwv row z.toNat) v) && decide (rel ps row.length z.toNat = rel ps v (rwv row z.toNat))) (by rw [rl_len]; omega) fun z hz => ?_]
          · rw [sb]
            have eq : ((rl k).map fun z => decide (rel ps z.toNat row.length = rel ps (rwv row z.toNat) v) && decide (rel ps row.length z.toNat = rel ps v (rwv row z.toNat))).all id = qf ps row (v : Int) := by
              unfold qf rl
              rw [List.map_map, List.all_map, P.rw.len, Int.toNat_natCast]
              refine List.all_congr rfl fun z => ?_
              simp
            rw [eq]
            have ep : pf ps row (v : Int) = qf ps row (v : Int) := by unfold pf; rw [hc'.2, Bool.true_and]
            cases hq : qf ps row (v : Int) with
            | true =>
              rw [cond_true, catM_eq (by rw [P.rw.len]; simp only [List.length_singleton]; omega), sb, appM_eq (by omega), sb]
              refine .one ⟨_, .inl rfl, ?_⟩
              have : (sg n ps v k && pf ps row (v : Int)) = true := by rw [ep, hq, hc'.1]; rfl
              rw [nx _ this, hw]
              simp
            | false =>
              rw [cond_false, sb]
              refine .one ⟨_, .inl rfl, ?_⟩
              have : (sg n ps v k && pf ps row (v : Int)) = false := by rw [ep, hq, Bool.and_false]
              rw [nx _ this, hw]
              simp
          · obtain ⟨z, hz1, rfl⟩ := rl_mem.mp hz
            obtain ⟨a1, a2⟩ := P.rw.at hz1
            obtain ⟨rz, rz1, _, rz2⟩ := ht.1.look (show z < n by omega)
            obtain ⟨rr, rr1, _, rr2⟩ := ht.1.look a2
            obtain ⟨rx, rx1, _, rx2⟩ := ht.1.look hk
            obtain ⟨rv, rv1, _, rv2⟩ := ht.1.look hv
            have hz' : z < n := by omega
            simp only [rz1, rx1, rv1, rr1, a1, sb, rz2 _ hk, rr2 _ hv, rx2 z hz', rv2 _ a2, ht.2 z _ hz' hk, ht.2 _ _ a2 hv, ht.2 _ z hk hz', ht.2 _ _ hv a2, Int.toNat_natCast, P.rw.len]
            cases rel ps z k <;> cases rel ps (rwv row z) v <;> cases rel ps k z <;> cases rel ps v (rwv row z) <;> rfl
      · obtain ⟨w, rfl, hw⟩ := ho
        refine .one ⟨w, .inl rfl, ?_⟩
        rw [hw, Nat.zero_add, List.take_add_one, hj]
        rw [hu, Nat.zero_add]
        simp only [Option.toList_some, List.flatMap_append, List.flatMap_cons, List.flatMap_nil, List.append_nil]
        rfl
    · obtain ⟨s', rfl, e⟩ := ho
      refine ⟨s', rfl, ?_⟩
      rw [e, Nat.zero_add, List.take_length]
  · obtain ⟨s', rfl, e⟩ := ho
    refine .one ⟨s', .inl rfl, ?_⟩
    rw [e, hs, filt fun row hr => (part_it row hr).rw.len]
    rfl
/-! ### a whole row keeps the signs -/
theorem row_perm {n : Nat} {ps : List (Int × Int)} {row : List Int} (P : Part n ps n row) : row.Perm (rl n) :=
  nodup_perm P.nd (fun x hx => by
    obtain ⟨a1, a2⟩ := P.rw.lo x hx
    exact rl_mem.mpr ⟨x.toNat, by omega, by omega⟩) (by rw [rl_len, P.rw.len]; exact Nat.le_refl _)
theorem row_eq {n : Nat} {ps : List (Int × Int)} {row : List Int} (P : Part n ps n row) (ir : ∀ x, rel ps x x = false) : ∀ z x : Nat, z < n → x < n → rel ps z x = rel ps (rwv row z) (rwv row x) := fun z x hz hx => by
  rcases Nat.lt_trichotomy z x with h | h | h
  · exact (P.eq z x h hx).1
  · rw [h, ir, ir]
  · exact (P.eq x z h hz).2
theorem row_map {n : Nat} {row : List Int} (h : Rw n n row) : row = (rl n).map fun z => (rwv row z.toNat : Int) := by
  refine List.ext_getElem (by rw [List.length_map, rl_len, h.len]) fun i h1 h2 => ?_
  have hi : i < n := by rw [← h.len]; exact h1
  have := (h.at hi).1
  rw [atI_nat h1] at this
  rw [Option.some.inj this, List.getElem_map]
  have e : (rl n)[i]'(by rw [rl_len]; exact hi) = (i : Int) := by
    have := rl_get hi
    rw [List.getElem?_eq_getElem (by rw [rl_len]; exact hi)] at this
    exact Option.some.inj this
  rw [e, Int.toNat_natCast]
theorem cnt_perm {n : Nat} {row : List Int} (h : Rw n n row) (hp : row.Perm (rl n)) (p q : Int → Bool) (hpq : ∀ z : Nat, z < n → p (rwv row z : Int) = q (z : Int)) : ((rl n).filter p).length = ((rl n).filter q).length := by
  rw [← (hp.filter p).length_eq]
  conv => lhs; rw [row_map h]
  rw [List.filter_map, List.length_map]
  congr 1
  refine List.filter_congr fun z hz => ?_
  obtain ⟨k, hk, rfl⟩ := rl_mem.mp hz
  show p (rwv row (k : Int).toNat : Int) = _
  rw [Int.toNat_natCast]
  exact hpq k hk
theorem sg_all {n : Nat} {ps : List (Int × Int)} {row : List Int} (P : Part n ps n row) (ir : ∀ x, rel ps x x = false) : sgOk n ps row = true := by
  refine List.all_eq_true.mpr fun z hz => ?_
  have hz' : z < n := by rw [← P.rw.len]; exact List.mem_range.mp hz
  have e := row_eq P ir
  have hp := row_perm P
  unfold sg
  rw [Bool.and_eq_true, decide_eq_true_eq, decide_eq_true_eq]
  constructor
  · refine cnt_perm P.rw hp _ _ fun y hy => ?_
    simp only [Int.toNat_natCast]
    exact (e y z hy hz').symm
  · refine cnt_perm P.rw hp _ _ fun y hy => ?_
    simp only [Int.toNat_natCast]
    exact (e z y hz' hy).symm
theorem both {n : Nat} {ps : List (Int × Int)} (ir : ∀ x, rel ps x x = false) : (itP n ps n).filter (sgOk n ps) = itP n ps n :=
  List.filter_eq_self.mpr fun row hr => sg_all (part_it row hr) ir
/-! ### alike -/
theorem same_int (d : Nat) (i : Int) : M_law_same (d + 1) (.int i, .int i, ()) = some true := by
  show N_law_same (M_law_same d) _ = _
  unfold N_law_same M_law_is_int
  simp [pT, pN, pS, pI, pB, eqA]
theorem same_str (d : Nat) (z : Str) : M_law_same (d + 1) (.str z, .str z, ()) = some true := by
  show N_law_same (M_law_same d) _ = _
  unfold N_law_same
  simp [pT, pN, pS, eqA]
theorem same_non (d : Nat) : M_law_same (d + 1) (.non, .non, ()) = some true := by
  show N_law_same (M_law_same d) _ = _
  unfold N_law_same
  simp [pT, pN, pS, eqA]
theorem same_tup {d : Nat} {xs : List PV} (hl : xs.length ≤ 1000000) (h : ∀ x ∈ xs, M_law_same d (x, x, ()) = some true) : M_law_same (d + 1) (.tup xs, .tup xs, ()) = some true := by
  show N_law_same (M_law_same d) _ = _
  unfold N_law_same
  simp only [pT, cond_true, Bool.not_true, cond_false, lenA, bassoc, sb, decide_true, rng_nat (n := xs.length) hl]
  rw [mapM_is (g := fun _ => true) (by rw [rl_len]; exact hl) fun x hx => ?_]
  · rw [sb]
    congr 1
    rw [List.all_map]
    exact List.all_eq_true.mpr fun _ _ => rfl
  · obtain ⟨j, hj, rfl⟩ := rl_mem.mp hx
    simp only [ixA, atI_nat hj, sb]
    exact h _ (List.getElem_mem hj)
def rowsV (rows : List (List Int)) : PV := .tup (rows.map fun r => .tup (r.map .int))
theorem same_rows {rows : List (List Int)} (hl : rows.length ≤ 100000) (h : ∀ r ∈ rows, r.length ≤ 1000) (z : Str) : M_law_same 6 (.tup [.str z, rowsV rows], .tup [.str z, rowsV rows], ()) = some true := by
  refine same_tup (by simp) fun x hx => ?_
  simp only [List.mem_cons, List.not_mem_nil, or_false] at hx
  rcases hx with rfl | rfl
  · exact same_str 4 z
  · refine same_tup (by rw [List.length_map]; omega) fun x hx => ?_
    obtain ⟨r, hr, rfl⟩ := List.mem_map.mp hx
    refine same_tup (by rw [List.length_map]; have := h r hr; omega) fun x hx => ?_
    obtain ⟨i, _, rfl⟩ := List.mem_map.mp hx
    exact same_int 2 i
theorem same_big (z : Str) : M_law_same 6 (.tup [.str z, .non], .tup [.str z, .non], ()) = some true := by
  refine same_tup (by simp) fun x hx => ?_
  simp only [List.mem_cons, List.not_mem_nil, or_false] at hx
  rcases hx with rfl | rfl
  · exact same_str 4 z
  · exact same_non 4
theorem ans_big {n : Int} {ps : List (Int × Int)} {b : Bool} (h : 8 < n) : M_law_answer ((n, ps), b, ()) = some (.tup [.str (Str.ofString "too large"), .non]) := by
  have e : M_symmetries ((n, ps), ()) = some (.er .TooLarge) := by
    unfold M_symmetries
    rw [show decide ((8 : Int) < n) = true from decide_eq_true h]
    rfl
  unfold M_law_answer
  simp only [e]
  cases b <;> rfl
theorem ans_told {n : Nat} {ps : List (Int × Int)} {b : Bool} (hn : n ≤ 8) (hb : ∀ p ∈ ps, Bd n p) : M_law_answer (((n : Int), ps), b, ()) = some (.tup [.str (Str.ofString "told"), rowsV (itP n ps n)]) := by
  have e := sym_ok hn hb
  unfold M_law_answer
  simp only [e]
  cases b <;> rfl
theorem law_ok (ns : List Int) (h : ns.length ≤ 63) : M_law (ns, ()) = some true := by
  refine Ok.eq_some ?_
  unfold M_law
  simp only [bassoc, sb, bind_id, bind_eta]
  refine .bind (draw_ok (by omega) (by omega) (by unfold RI; simp only; omega)) fun d hd => ?_
  refine .bind (P := fun a => RI a.1 ∧ Od a.2) (.bif (fun _ => .bind (drawn_ok (c := 6) (by omega) (by omega) hd.2) fun r hr => .one ⟨hr.2, hr.1⟩) fun _ => ?_) fun a ha => ?_
  · refine .bif (fun _ => .bind (eight_ok hd.2) fun r hr => .one ⟨hr.2, hr.1⟩) fun _ => .bif (fun _ => .bind (two_ways_ok hd.2) fun r hr => .one ⟨hr.2, hr.1⟩) fun _ => ?_
    exact .bind (P := fun r => Od r.1 ∧ RI r.2) (.bif (fun _ => ring_ok hd.2) fun _ => two_crowns_ok hd.2) fun r hr => .one ⟨hr.2, hr.1⟩
  obtain ⟨s, w, ps⟩ := a
  obtain ⟨hs, ⟨n, ew, hn, hb⟩, hir, _⟩ := ha
  simp only at hs ew hb hir
  subst ew
  have ir : ∀ x, rel ps x x = false := fun x => by
    refine decide_eq_false fun hm => ?_
    exact hir _ hm rfl
  refine .bind (draw_ok (by omega) (by omega) hs) fun nm hnm => ?_
  refine .bind (P := fun v => M_law_answer (((n : Int), ps), decide (nm.1 = 1), ()) = some v ∧ M_law_same 6 (v, v, ()) = some true) (.bif (fun e => .one ?_) fun e => ?_) fun v hv => ?_
  · exact ⟨ans_big (of_decide_eq_true e), same_big _⟩
  · have h8 : n ≤ 8 := by have := of_decide_eq_false e; simp only at this; omega
    rw [lsym_ok h8 hb, both ir]
    refine .one ⟨ans_told h8 hb, same_rows ?_ (fun r hr => ?_) _⟩
    · exact Nat.le_trans (it_len n) (Nat.le_trans (dsc_le n h8 n h8) (by omega))
    · have := (part_it r hr).rw.len
      omega
  rw [hv.1, sb, hv.2, sb, Bool.not_true, cond_false]
  have e0 : M_law_answer (((0 : Int), []), decide (nm.1 = 1), ()) = some (.tup [.str (Str.ofString "told"), rowsV [[]]]) := ans_told (n := 0) (ps := []) (by omega) (by simp)
  rw [e0, sb]
  have e1 : M_law_same 6 (PV.tup [PV.str (Str.ofString "told"), rowsV [[]]], PV.tup [PV.str (Str.ofString "told"), PV.tup ([[]].map (fun u689 => PV.tup (u689.map PV.int)))], ()) = some true := same_rows (rows := [[]]) (by simp) (by simp) _
  rw [e1, sb, Bool.not_true, cond_false]
  refine .bind (draw_ok (by omega) (by omega) hnm.2) fun g hg => ?_
  obtain ⟨k, ek⟩ := Int.eq_ofNat_of_zero_le (a := 9 + g.1) (by have := hg.1.1; omega)
  have hk : k ≤ 64 := by have := hg.1.2; omega
  have hk9 : 9 ≤ k := by have := hg.1.1; omega
  rw [ek, show (1 : Int) = ((1 : Nat) : Int) from rfl, rng_lo (by omega) (by omega), sb, mapM_is (g := fun x => ((0 : Int), x)) (by rw [rlo_len]; omega) fun _ _ => rfl, sb]
  simp only [ans_big (show (8 : Int) < (k : Int) by omega), sb, same_big, Bool.not_true, cond_false]
  exact .one rfl
end K86
open PySem PySem.W PySem.Calls PyProof.Rows in
set_option maxHeartbeats 0 in
theorem PySem.Challenge.cw_chaincore_k86_symmetries_holds : PySem.Challenge.rw_chaincore_k86_symmetries.Holds := by
  w_on; o_law
  refine HandSHeadRun.head_any (r := OpenLaw.row PySem.Challenge.rw_chaincore_k86_symmetries) (q := view (OpenLaw.row PySem.Challenge.rw_chaincore_k86_symmetries).prog [26]) (H := K86.hk) (ob := K86.ob) (M := 3120) (loose := K86.loose) (d := HandSHeadRun.topDef (OpenLaw.row PySem.Challenge.rw_chaincore_k86_symmetries).prog 26) (kwd := []) K86.ob_eq
    (by kernel_rfl) (fun s => by kernel_rfl) K86.run (by kernel_rfl) (by kernel_rfl) (by kernel_rfl) (by rfl) (by first | assumption | decide +kernel) (by decide +kernel) ⟨rfl, rfl, rfl, rfl, rfl, by decide +kernel⟩ ?hw ?hc
  case hw => w_witness2
  case hc =>
    refine L2.walk_ofE (l := PySem.Challenge.rw_chaincore_k86_symmetries) (n := 63) (k := 9) (x := "script") (CX := L2.CX0) rfl (by decide) (by kernel_rfl) ⟨rfl, by decide, by decide⟩ ?F (fun _ _ _ _ z => z)
    intro w mg fa h Y G hmg0
    obtain ⟨K, KX, c⟩ := Y
    have hmg : mg ("law" : PySem.Str) = some (.ref fa) := by
      have e : (HandSHeadRun.topDef (OpenLaw.row PySem.Challenge.rw_chaincore_k86_symmetries).prog 26).name = ("law" : PySem.Str) := by kernel_rfl
      rw [← e]
      exact hmg0
    obtain ⟨fd, hb, hF⟩ := K86.facts (P := (PySem.Challenge.rw_chaincore_k86_symmetries).prog) (w := w) KX G hmg c
    exact ⟨K, fd, _, KX, hb, fun H a ns hl _ hS => CC.law_in hS (K86.law_ok ns hl), hF⟩
