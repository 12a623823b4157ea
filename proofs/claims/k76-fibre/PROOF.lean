import PyProof.Rows.All
import Wide.All
import OpenK.AllK
import Wide.FinOn
import HandS.ForMost
import HandS.Wide
import HandS.IsInst
import HandS.SortRule
import HandS.Conv
import HandS.Style
import HandS.Defaults
import HandS.MakeKwOnly
import HandS.HeadEnd
import HandS.HeadHook2
import HandS.Head2
import PySem.Challenge.RW_chaincore_k76_fibre
set_option Elab.async false
set_option linter.all false
set_option maxRecDepth 100000
set_option maxHeartbeats 4000000
/-! A logic over the hand layer: worlds, what is shared, what is owned, and how a piece of Python follows its mirror. -/
namespace CC
open PySem PySem.Spec L2
open PyProof.Rows hiding St
/-! ### worlds -/
/-- the tracked heap, and the part of it that nobody changes any more -/
structure Wd where
  H : Hp
  B : Hp
def Ex (H H' : Hp) : Prop := ∀ a o, H a = some o → H' a = some o
theorem Ex.refl (H : Hp) : Ex H H := fun _ _ h => h
theorem Ex.trans {H H1 H2 : Hp} (a : Ex H H1) (b : Ex H1 H2) : Ex H H2 := fun x o h => b x o (a x o h)
theorem Ex.new {H : Hp} {p : Addr} {o : HO} (h : H p = none) : Ex H (upd H p o) := fun a u e => by
  rw [upd_ne (ne_of_none e h)]
  exact e
theorem Ex.ne {H H' : Hp} {a : Addr} (e : Ex H H') (h : H a ≠ none) : H' a ≠ none := by
  cases q : H a with
  | none => exact absurd q h
  | some o =>
    rw [e a o q]
    exact fun z => nomatch z
theorem Ex.eq {H H' : Hp} {a : Addr} (e : Ex H H') (h : H a ≠ none) : H' a = H a := by
  cases q : H a with
  | none => exact absurd q h
  | some o => exact e a o q
theorem Ex.back {H H' : Hp} {p : Addr} (e : Ex H H') (h : H' p = none) : H p = none := by
  cases h1 : H p with
  | none => rfl
  | some o =>
    rw [e p o h1] at h
    cases h
/-- things are added, nothing changes -/
structure Ext (W W' : Wd) : Prop where
  ok : Ex W'.B W'.H
  h : Ex W.H W'.H
  b : Ex W.B W'.B
  fr : ∀ a, W.H a ≠ none → W.B a = none → W'.B a = none
theorem Ext.refl {W : Wd} (ok : Ex W.B W.H) : Ext W W := ⟨ok, Ex.refl _, Ex.refl _, fun _ _ h => h⟩
theorem Ext.trans {W W1 W2 : Wd} (a : Ext W W1) (b : Ext W1 W2) : Ext W W2 :=
  ⟨b.ok, a.h.trans b.h, a.b.trans b.b, fun x h1 h2 => b.fr x (a.h.ne h1) (a.fr x h1 h2)⟩
/-- a new object, owned -/
theorem Ext.new {W : Wd} (ok : Ex W.B W.H) {p : Addr} {o : HO} (h : W.H p = none) : Ext W ⟨upd W.H p o, W.B⟩ :=
  ⟨ok.trans (Ex.new h), Ex.new h, Ex.refl _, fun _ _ h => h⟩
/-- a new object, shared -/
theorem Ext.newB {W : Wd} (ok : Ex W.B W.H) {p : Addr} {o : HO} (h : W.H p = none) : Ext W ⟨upd W.H p o, upd W.B p o⟩ := by
  refine ⟨fun a u e => ?_, Ex.new h, Ex.new (ok.back h), fun a h1 h2 => ?_⟩
  · by_cases z : a = p
    · subst z
      have e1 : upd W.B a o a = some u := e
      show upd W.H a o a = some u
      rw [upd_same] at e1 ⊢
      exact e1
    · have e' : W.B a = some u := by rw [← e]; exact (upd_ne z).symm
      show upd W.H p o a = some u
      rw [upd_ne z]
      exact ok a u e'
  · have z : a ≠ p := fun z => h1 (z ▸ h)
    show upd W.B p o a = none
    rw [upd_ne z]
    exact h2
/-- what is owned at F may change; F' is owned behind -/
structure Stp (W : Wd) (F : List Addr) (W' : Wd) (F' : List Addr) : Prop where
  ok : Ex W'.B W'.H
  b : Ex W.B W'.B
  h : ∀ a o, W.H a = some o → a ∉ F → W'.H a = some o
  al : ∀ a, W.H a ≠ none → W'.H a ≠ none
  fr : ∀ a, W.H a ≠ none → W.B a = none → a ∉ F → W'.B a = none
  fp : ∀ a ∈ F', a ∈ F ∨ W.H a = none
theorem Stp.refl {W : Wd} {F : List Addr} (ok : Ex W.B W.H) : Stp W F W F :=
  ⟨ok, Ex.refl _, fun _ _ h _ => h, fun _ h => h, fun _ _ h _ => h, fun _ h => .inl h⟩
theorem Stp.trans {W W1 W2 : Wd} {F F1 F2 : List Addr} (a : Stp W F W1 F1) (b : Stp W1 F1 W2 F2) : Stp W F W2 F2 where
  ok := b.ok
  b := a.b.trans b.b
  h := fun x o h n => b.h x o (a.h x o h n) fun z => by
    rcases a.fp x z with z | z
    · exact n z
    · rw [h] at z; cases z
  al := fun x h => b.al x (a.al x h)
  fr := fun x h1 h2 n => b.fr x (a.al x h1) (a.fr x h1 h2 n) fun z => by
    rcases a.fp x z with z | z
    · exact n z
    · exact h1 z
  fp := fun x hx => by
    rcases b.fp x hx with z | z
    · exact a.fp x z
    · refine .inr ?_
      cases q : W.H x with
      | none => rfl
      | some o => exact absurd z (a.al x (by rw [q]; exact fun z => nomatch z))
theorem Stp.perm {W W1 : Wd} {F F1 F2 : List Addr} (a : Stp W F W1 F1) (p : ∀ x ∈ F2, x ∈ F1) : Stp W F W1 F2 :=
  ⟨a.ok, a.b, a.h, a.al, a.fr, fun x h => a.fp x (p x h)⟩
theorem Stp.permL {W W1 : Wd} {F F0 F1 : List Addr} (a : Stp W F W1 F1) (p : ∀ x ∈ F, x ∈ F0) : Stp W F0 W1 F1 :=
  ⟨a.ok, a.b, fun x o h n => a.h x o h fun z => n (p x z), a.al, fun x h1 h2 n => a.fr x h1 h2 fun z => n (p x z), fun x h => (a.fp x h).imp (p x) id⟩
theorem Ext.stp {W W' : Wd} {F Fv : List Addr} (e : Ext W W') (fresh : ∀ a ∈ Fv, W.H a = none) : Stp W F W' (F ++ Fv) :=
  ⟨e.ok, e.b, fun x o h _ => e.h x o h, fun x h => e.h.ne h, fun x h1 h2 _ => e.fr x h1 h2, fun x hx => (List.mem_append.mp hx).imp id (fresh x)⟩
/-- with nothing owned a step only adds -/
theorem Stp.ext {W W' : Wd} {F' : List Addr} (s : Stp W [] W' F') : Ext W W' ∧ ∀ a ∈ F', W.H a = none :=
  ⟨⟨s.ok, fun a o h => s.h a o h (by simp), s.b, fun a h1 h2 => s.fr a h1 h2 (by simp)⟩, fun a ha => (s.fp a ha).resolve_left (by simp)⟩
/-! ### footprints -/
structure FpOk (W : Wd) (F : List Addr) : Prop where
  nd : F.Nodup
  al : ∀ a ∈ F, W.H a ≠ none
  fr : ∀ a ∈ F, W.B a = none
theorem FpOk.nil {W : Wd} : FpOk W [] := ⟨List.nodup_nil, fun _ h => (List.not_mem_nil h).elim, fun _ h => (List.not_mem_nil h).elim⟩
theorem FpOk.perm {W : Wd} {F F' : List Addr} (f : FpOk W F) (p : F.Perm F') : FpOk W F' :=
  ⟨p.nodup_iff.mp f.nd, fun a h => f.al a (p.mem_iff.mpr h), fun a h => f.fr a (p.mem_iff.mpr h)⟩
theorem FpOk.ext {W W' : Wd} {F : List Addr} (f : FpOk W F) (e : Ext W W') : FpOk W' F :=
  ⟨f.nd, fun a h => e.h.ne (f.al a h), fun a h => e.fr a (f.al a h) (f.fr a h)⟩
theorem FpOk.left {W : Wd} {F F' : List Addr} (f : FpOk W (F ++ F')) : FpOk W F :=
  ⟨(List.nodup_append.mp f.nd).1, fun a h => f.al a (List.mem_append_left _ h), fun a h => f.fr a (List.mem_append_left _ h)⟩
theorem FpOk.right {W : Wd} {F F' : List Addr} (f : FpOk W (F ++ F')) : FpOk W F' :=
  ⟨(List.nodup_append.mp f.nd).2.1, fun a h => f.al a (List.mem_append_right _ h), fun a h => f.fr a (List.mem_append_right _ h)⟩
theorem FpOk.disj {W : Wd} {F F' : List Addr} (f : FpOk W (F ++ F')) : ∀ a ∈ F, a ∉ F' := fun a h h' =>
  (List.nodup_append.mp f.nd).2.2 a h a h' rfl
theorem FpOk.app {W : Wd} {F F' : List Addr} (f : FpOk W F) (f' : FpOk W F') (d : ∀ a ∈ F, a ∉ F') : FpOk W (F ++ F') :=
  ⟨List.nodup_append.mpr ⟨f.nd, f'.nd, fun a h b h' e => d a h (e ▸ h')⟩, fun a h => (List.mem_append.mp h).elim (f.al a) (f'.al a), fun a h => (List.mem_append.mp h).elim (f.fr a) (f'.fr a)⟩
/-- an extension's new owned things stand apart from the old -/
theorem FpOk.fresh {W W' : Wd} {F Fv : List Addr} (f : FpOk W F) (e : Ext W W') (fv : FpOk W' Fv) (n : ∀ a ∈ Fv, W.H a = none) : FpOk W' (F ++ Fv) :=
  (f.ext e).app fv fun a h h' => f.al a h (n a h')
/-! ### descriptions -/
/-- a shared thing, described over the part that stands still -/
structure SP where
  P : Hp → V → Prop
  mono : ∀ {B B' v}, P B v → Ex B B' → P B' v
/-- a thing with what is owned of it -/
structure OP where
  C : Wd → V → List Addr → Prop
  loc : ∀ {W W' v F}, C W v F → Ex W.B W'.B → (∀ a ∈ F, W'.H a = W.H a) → C W' v F
def sh (p : SP) : OP := ⟨fun W v F => F = [] ∧ p.P W.B v, fun h e _ => ⟨h.1, p.mono h.2 e⟩⟩
theorem OP.ext (o : OP) {W W' : Wd} {v : V} {F : List Addr} (h : o.C W v F) (e : Ext W W') (f : FpOk W F) : o.C W' v F := o.loc h e.b fun a ha => e.h.eq (f.al a ha)
def intS (i : Int) : SP := ⟨fun _ v => v = .int i, fun h _ => h⟩
def boolS (b : Bool) : SP := ⟨fun _ v => v = .bl b, fun h _ => h⟩
def strS (z : Str) : SP := ⟨fun _ v => v = .str z, fun h _ => h⟩
def nonS : SP := ⟨fun _ v => v = .non, fun h _ => h⟩
def valS (x : V) : SP := ⟨fun _ v => v = x, fun h _ => h⟩
def optS {α : Type} (E : α → SP) : Option α → SP
  | none => nonS
  | some x => E x
/-- values one by one -/
def Each {α : Type} (E : α → SP) (B : Hp) : List V → List α → Prop
  | [], [] => True
  | v :: vs, x :: xs => (E x).P B v ∧ Each E B vs xs
  | _, _ => False
theorem Each.mono {α : Type} {E : α → SP} {B B' : Hp} (e : Ex B B') : ∀ {vs : List V} {xs : List α}, Each E B vs xs → Each E B' vs xs
  | [], [], _ => trivial
  | _ :: _, _ :: _, h => ⟨SP.mono _ h.1 e, Each.mono e h.2⟩
  | [], _ :: _, h => h.elim
  | _ :: _, [], h => h.elim
theorem Each.len {α : Type} {E : α → SP} {B : Hp} : ∀ {vs : List V} {xs : List α}, Each E B vs xs → vs.length = xs.length
  | [], [], _ => rfl
  | _ :: _, _ :: _, h => by rw [List.length_cons, List.length_cons, Each.len h.2]
  | [], _ :: _, h => h.elim
  | _ :: _, [], h => h.elim
theorem Each.get {α : Type} {E : α → SP} {B : Hp} : ∀ {vs : List V} {xs : List α} {i : Nat} {x : α}, Each E B vs xs → xs[i]? = some x → ∃ v, vs[i]? = some v ∧ (E x).P B v
  | [], [], i, x, _, e => by simp at e
  | v :: vs, y :: xs, 0, x, h, e => by
    have : y = x := by simpa using e
    subst this
    exact ⟨v, rfl, h.1⟩
  | v :: vs, y :: xs, i + 1, x, h, e => by
    obtain ⟨u, h1, h2⟩ := Each.get (i := i) h.2 (by simpa using e)
    exact ⟨u, by simpa using h1, h2⟩
  | [], _ :: _, _, _, h, _ => h.elim
  | _ :: _, [], _, _, h, _ => h.elim
theorem Each.app {α : Type} {E : α → SP} {B : Hp} : ∀ {vs us : List V} {xs ys : List α}, Each E B vs xs → Each E B us ys → Each E B (vs ++ us) (xs ++ ys)
  | [], _, [], _, _, k => k
  | _ :: _, _, _ :: _, _, h, k => ⟨h.1, Each.app h.2 k⟩
  | [], _, _ :: _, _, h, _ => h.elim
  | _ :: _, _, [], _, h, _ => h.elim
theorem Each.take {α : Type} {E : α → SP} {B : Hp} : ∀ {vs : List V} {xs : List α} (n : Nat), Each E B vs xs → Each E B (vs.take n) (xs.take n)
  | [], [], _, _ => by simp [Each]
  | _ :: _, _ :: _, 0, _ => trivial
  | _ :: _, _ :: _, n + 1, h => ⟨h.1, Each.take n h.2⟩
  | [], _ :: _, _, h => h.elim
  | _ :: _, [], _, h => h.elim
theorem Each.drop {α : Type} {E : α → SP} {B : Hp} : ∀ {vs : List V} {xs : List α} (n : Nat), Each E B vs xs → Each E B (vs.drop n) (xs.drop n)
  | [], [], _, _ => by simp [Each]
  | _ :: _, _ :: _, 0, h => h
  | _ :: _, _ :: _, n + 1, h => Each.drop n h.2
  | [], _ :: _, _, h => h.elim
  | _ :: _, [], _, h => h.elim
theorem Each.set {α : Type} {E : α → SP} {B : Hp} {v : V} {x : α} (hv : (E x).P B v) : ∀ {vs : List V} {xs : List α} (i : Nat), Each E B vs xs → Each E B (vs.set i v) (xs.set i x)
  | [], [], _, _ => by simp [Each]
  | _ :: _, _ :: _, 0, h => ⟨hv, h.2⟩
  | _ :: _, _ :: _, n + 1, h => ⟨h.1, Each.set hv n h.2⟩
  | [], _ :: _, _, h => h.elim
  | _ :: _, [], _, h => h.elim
theorem Each.eraseIdx {α : Type} {E : α → SP} {B : Hp} : ∀ {vs : List V} {xs : List α} (i : Nat), Each E B vs xs → Each E B (vs.eraseIdx i) (xs.eraseIdx i)
  | [], [], _, _ => by simp [Each]
  | _ :: _, _ :: _, 0, h => h.2
  | _ :: _, _ :: _, n + 1, h => ⟨h.1, Each.eraseIdx n h.2⟩
  | [], _ :: _, _, h => h.elim
  | _ :: _, [], _, h => h.elim
theorem Each.rev {α : Type} {E : α → SP} {B : Hp} : ∀ {vs : List V} {xs : List α}, Each E B vs xs → Each E B vs.reverse xs.reverse
  | [], [], _ => by simp [Each]
  | v :: vs, x :: xs, h => by
    rw [List.reverse_cons, List.reverse_cons]
    exact Each.app (Each.rev h.2) ⟨h.1, trivial⟩
  | [], _ :: _, h => h.elim
  | _ :: _, [], h => h.elim
theorem Each.imp {α β : Type} {E : α → SP} {G : β → SP} {B : Hp} (f : α → β) (hf : ∀ x v, (E x).P B v → (G (f x)).P B v) : ∀ {vs : List V} {xs : List α}, Each E B vs xs → Each G B vs (xs.map f)
  | [], [], _ => trivial
  | _ :: _, _ :: _, h => ⟨hf _ _ h.1, Each.imp f hf h.2⟩
  | [], _ :: _, h => h.elim
  | _ :: _, [], h => h.elim
/-- a list, a tuple that stand still -/
def lstS {α : Type} (E : α → SP) (xs : List α) : SP := ⟨fun B v => ∃ a vs, v = .ref a ∧ B a = some (.lst vs) ∧ Each E B vs xs, fun h e => by
  obtain ⟨a, vs, h1, h2, h3⟩ := h
  exact ⟨a, vs, h1, e a _ h2, h3.mono e⟩⟩
def tupS {α : Type} (E : α → SP) (xs : List α) : SP := ⟨fun B v => ∃ a vs, v = .ref a ∧ B a = some (.tup vs) ∧ Each E B vs xs, fun h e => by
  obtain ⟨a, vs, h1, h2, h3⟩ := h
  exact ⟨a, vs, h1, e a _ h2, h3.mono e⟩⟩
/-- the script -/
def scrS (K : PySem.W.Frag) (ns : List Int) : SP := ⟨fun B v => ∃ a, v = .ref a ∧ SqL K B a (ns.map V.int), fun h e => by
  obtain ⟨a, h1, h2⟩ := h
  refine ⟨a, h1, ?_⟩
  rcases h2 with (h | ⟨o, h⟩) | h
  · exact .inl (.inl (e _ _ h))
  · exact .inl (.inr ⟨o, e _ _ h⟩)
  · exact .inr h⟩
/-- things of several kinds, one by one -/
def Hets (B : Hp) : List V → List SP → Prop
  | [], [] => True
  | v :: vs, p :: ps => p.P B v ∧ Hets B vs ps
  | _, _ => False
theorem Hets.mono {B B' : Hp} (e : Ex B B') : ∀ {vs : List V} {ps : List SP}, Hets B vs ps → Hets B' vs ps
  | [], [], _ => trivial
  | _ :: _, _ :: _, h => ⟨SP.mono _ h.1 e, Hets.mono e h.2⟩
  | [], _ :: _, h => h.elim
  | _ :: _, [], h => h.elim
theorem Hets.len {B : Hp} : ∀ {vs : List V} {ps : List SP}, Hets B vs ps → vs.length = ps.length
  | [], [], _ => rfl
  | _ :: _, _ :: _, h => by rw [List.length_cons, List.length_cons, Hets.len h.2]
  | [], _ :: _, h => h.elim
  | _ :: _, [], h => h.elim
theorem Hets.get {B : Hp} : ∀ {vs : List V} {ps : List SP} {i : Nat} {p : SP}, Hets B vs ps → ps[i]? = some p → ∃ v, vs[i]? = some v ∧ p.P B v
  | [], [], i, x, _, e => by simp at e
  | v :: vs, y :: xs, 0, x, h, e => by
    have : y = x := by simpa using e
    subst this
    exact ⟨v, rfl, h.1⟩
  | v :: vs, y :: xs, i + 1, x, h, e => by
    obtain ⟨u, h1, h2⟩ := Hets.get (i := i) h.2 (by simpa using e)
    exact ⟨u, by simpa using h1, h2⟩
  | [], _ :: _, _, _, h, _ => h.elim
  | _ :: _, [], _, _, h, _ => h.elim
theorem Hets.set {B : Hp} {v : V} {p : SP} (hv : p.P B v) : ∀ {vs : List V} {ps : List SP} (i : Nat), Hets B vs ps → Hets B (vs.set i v) (ps.set i p)
  | [], [], _, _ => by simp [Hets]
  | _ :: _, _ :: _, 0, h => ⟨hv, h.2⟩
  | _ :: _, _ :: _, n + 1, h => ⟨h.1, Hets.set hv n h.2⟩
  | [], _ :: _, _, h => h.elim
  | _ :: _, [], _, h => h.elim
def htupS (ps : List SP) : SP := ⟨fun B v => ∃ a vs, v = .ref a ∧ B a = some (.tup vs) ∧ Hets B vs ps, fun h e => by
  obtain ⟨a, vs, h1, h2, h3⟩ := h
  exact ⟨a, vs, h1, e a _ h2, h3.mono e⟩⟩
def hlstS (ps : List SP) : SP := ⟨fun B v => ∃ a vs, v = .ref a ∧ B a = some (.lst vs) ∧ Hets B vs ps, fun h e => by
  obtain ⟨a, vs, h1, h2, h3⟩ := h
  exact ⟨a, vs, h1, e a _ h2, h3.mono e⟩⟩
/-- a pair -/
def prS {α β : Type} (E : α → SP) (G : β → SP) (p : α × β) : SP := htupS [E p.1, G p.2]
/-! ### owned things, one by one -/
def Owns {α : Type} (E : α → OP) (W : Wd) : List V → List α → List Addr → Prop
  | [], [], F => F = []
  | v :: vs, x :: xs, F => ∃ F1 F2, F = F1 ++ F2 ∧ (E x).C W v F1 ∧ Owns E W vs xs F2
  | _, _, _ => False
theorem Owns.loc {α : Type} {E : α → OP} {W W' : Wd} (e : Ex W.B W'.B) : ∀ {vs : List V} {xs : List α} {F : List Addr}, Owns E W vs xs F → (∀ a ∈ F, W'.H a = W.H a) → Owns E W' vs xs F
  | [], [], _, h, _ => h
  | _ :: _, _ :: _, _, ⟨F1, F2, h1, h2, h3⟩, k => by
    subst h1
    exact ⟨F1, F2, rfl, OP.loc _ h2 e fun a ha => k a (List.mem_append_left _ ha), Owns.loc e h3 fun a ha => k a (List.mem_append_right _ ha)⟩
  | [], _ :: _, _, h, _ => h.elim
  | _ :: _, [], _, h, _ => h.elim
theorem Owns.len {α : Type} {E : α → OP} {W : Wd} : ∀ {vs : List V} {xs : List α} {F : List Addr}, Owns E W vs xs F → vs.length = xs.length
  | [], [], _, _ => rfl
  | _ :: _, _ :: _, _, ⟨_, _, _, _, h⟩ => by rw [List.length_cons, List.length_cons, Owns.len h]
  | [], _ :: _, _, h => h.elim
  | _ :: _, [], _, h => h.elim
theorem Owns.app {α : Type} {E : α → OP} {W : Wd} : ∀ {vs us : List V} {xs ys : List α} {F G : List Addr}, Owns E W vs xs F → Owns E W us ys G → Owns E W (vs ++ us) (xs ++ ys) (F ++ G)
  | [], _, [], _, _, _, h, k => by
    subst h
    exact k
  | _ :: _, _, _ :: _, _, _, _, ⟨F1, F2, h1, h2, h3⟩, k => by
    subst h1
    exact ⟨F1, F2 ++ _, List.append_assoc _ _ _, h2, Owns.app h3 k⟩
  | [], _, _ :: _, _, _, _, h, _ => h.elim
  | _ :: _, _, [], _, _, _, h, _ => h.elim
/-- the item at a place, and what may stand there instead -/
theorem Owns.at {α : Type} {E : α → OP} {W : Wd} : ∀ {vs : List V} {xs : List α} {F : List Addr} {i : Nat} {x : α}, Owns E W vs xs F → xs[i]? = some x →
    ∃ v F1 F2, vs[i]? = some v ∧ (E x).C W v F1 ∧ F.Perm (F1 ++ F2) ∧ ∀ (W' : Wd) (x' : α) (v' : V) (F1' : List Addr), Ex W.B W'.B → (∀ a ∈ F2, W'.H a = W.H a) → (E x').C W' v' F1' →
      ∃ F', Owns E W' (vs.set i v') (xs.set i x') F' ∧ F'.Perm (F1' ++ F2)
  | [], [], _, _, _, _, e => by simp at e
  | v :: vs, y :: xs, _, 0, x, ⟨F1, F2, h1, h2, h3⟩, e => by
    have : y = x := by simpa using e
    subst this h1
    refine ⟨v, F1, F2, rfl, h2, .refl _, fun W' x' v' F1' eb hk hc => ⟨F1' ++ F2, ⟨F1', F2, rfl, hc, h3.loc eb hk⟩, .refl _⟩⟩
  | v :: vs, y :: xs, _, i + 1, x, ⟨F1, F2, h1, h2, h3⟩, e => by
    subst h1
    obtain ⟨u, G1, G2, a1, a2, a3, a4⟩ := Owns.at (i := i) h3 (by simpa using e)
    refine ⟨u, G1, F1 ++ G2, by simpa using a1, a2, ?_, fun W' x' v' F1' eb hk hc => ?_⟩
    · refine (List.Perm.append_left F1 a3).trans ?_
      rw [← List.append_assoc, ← List.append_assoc]
      exact List.Perm.append_right G2 List.perm_append_comm
    · obtain ⟨F', b1, b2⟩ := a4 W' x' v' F1' eb (fun a ha => hk a (List.mem_append_right _ ha)) hc
      refine ⟨F1 ++ F', ⟨F1, F', rfl, OP.loc _ h2 eb fun a ha => hk a (List.mem_append_left _ ha), b1⟩, ?_⟩
      refine (List.Perm.append_left F1 b2).trans ?_
      rw [← List.append_assoc, ← List.append_assoc]
      exact List.Perm.append_right G2 List.perm_append_comm
  | [], _ :: _, _, _, _, h, _ => h.elim
  | _ :: _, [], _, _, _, h, _ => h.elim
theorem Owns.of_each {α : Type} {E : α → SP} {W : Wd} : ∀ {vs : List V} {xs : List α}, Each E W.B vs xs → Owns (fun x => sh (E x)) W vs xs []
  | [], [], _ => rfl
  | _ :: _, _ :: _, h => ⟨[], [], rfl, ⟨rfl, h.1⟩, Owns.of_each h.2⟩
  | [], _ :: _, h => h.elim
  | _ :: _, [], h => h.elim
theorem Owns.each {α : Type} {E : α → SP} {W : Wd} : ∀ {vs : List V} {xs : List α} {F : List Addr}, Owns (fun x => sh (E x)) W vs xs F → F = [] ∧ Each E W.B vs xs
  | [], [], _, h => ⟨h, trivial⟩
  | _ :: _, _ :: _, _, ⟨F1, F2, h1, ⟨h2, h2'⟩, h3⟩ => by
    obtain ⟨e, h4⟩ := Owns.each h3
    subst e h2
    exact ⟨h1, h2', h4⟩
  | [], _ :: _, _, h => h.elim
  | _ :: _, [], _, h => h.elim
/-- a list of one's own -/
def lstO {α : Type} (E : α → OP) (xs : List α) : OP := ⟨fun W v F => ∃ a vs F2, v = .ref a ∧ W.H a = some (.lst vs) ∧ F = a :: F2 ∧ Owns E W vs xs F2, fun h e k => by
  obtain ⟨a, vs, F2, h1, h2, h3, h4⟩ := h
  subst h3
  exact ⟨a, vs, F2, h1, (k a List.mem_cons_self).trans h2, rfl, h4.loc e fun b hb => k b (List.mem_cons_of_mem _ hb)⟩⟩
/-- owned things of several kinds -/
def HetO (W : Wd) : List V → List OP → List Addr → Prop
  | [], [], F => F = []
  | v :: vs, p :: ps, F => ∃ F1 F2, F = F1 ++ F2 ∧ p.C W v F1 ∧ HetO W vs ps F2
  | _, _, _ => False
theorem HetO.loc {W W' : Wd} (e : Ex W.B W'.B) : ∀ {vs : List V} {xs : List OP} {F : List Addr}, HetO W vs xs F → (∀ a ∈ F, W'.H a = W.H a) → HetO W' vs xs F
  | [], [], _, h, _ => h
  | _ :: _, _ :: _, _, ⟨F1, F2, h1, h2, h3⟩, k => by
    subst h1
    exact ⟨F1, F2, rfl, OP.loc _ h2 e fun a ha => k a (List.mem_append_left _ ha), HetO.loc e h3 fun a ha => k a (List.mem_append_right _ ha)⟩
  | [], _ :: _, _, h, _ => h.elim
  | _ :: _, [], _, h, _ => h.elim
theorem HetO.len {W : Wd} : ∀ {vs : List V} {xs : List OP} {F : List Addr}, HetO W vs xs F → vs.length = xs.length
  | [], [], _, _ => rfl
  | _ :: _, _ :: _, _, ⟨_, _, _, _, h⟩ => by rw [List.length_cons, List.length_cons, HetO.len h]
  | [], _ :: _, _, h => h.elim
  | _ :: _, [], _, h => h.elim
theorem HetO.at {W : Wd} : ∀ {vs : List V} {xs : List OP} {F : List Addr} {i : Nat} {x : OP}, HetO W vs xs F → xs[i]? = some x →
    ∃ v F1 F2, vs[i]? = some v ∧ x.C W v F1 ∧ F.Perm (F1 ++ F2) ∧ ∀ (W' : Wd) (x' : OP) (v' : V) (F1' : List Addr), Ex W.B W'.B → (∀ a ∈ F2, W'.H a = W.H a) → x'.C W' v' F1' →
      ∃ F', HetO W' (vs.set i v') (xs.set i x') F' ∧ F'.Perm (F1' ++ F2)
  | [], [], _, _, _, _, e => by simp at e
  | v :: vs, y :: xs, _, 0, x, ⟨F1, F2, h1, h2, h3⟩, e => by
    have : y = x := by simpa using e
    subst this h1
    refine ⟨v, F1, F2, rfl, h2, .refl _, fun W' x' v' F1' eb hk hc => ⟨F1' ++ F2, ⟨F1', F2, rfl, hc, h3.loc eb hk⟩, .refl _⟩⟩
  | v :: vs, y :: xs, _, i + 1, x, ⟨F1, F2, h1, h2, h3⟩, e => by
    subst h1
    obtain ⟨u, G1, G2, a1, a2, a3, a4⟩ := HetO.at (i := i) h3 (by simpa using e)
    refine ⟨u, G1, F1 ++ G2, by simpa using a1, a2, ?_, fun W' x' v' F1' eb hk hc => ?_⟩
    · refine (List.Perm.append_left F1 a3).trans ?_
      rw [← List.append_assoc, ← List.append_assoc]
      exact List.Perm.append_right G2 List.perm_append_comm
    · obtain ⟨F', b1, b2⟩ := a4 W' x' v' F1' eb (fun a ha => hk a (List.mem_append_right _ ha)) hc
      refine ⟨F1 ++ F', ⟨F1, F', rfl, OP.loc _ h2 eb fun a ha => hk a (List.mem_append_left _ ha), b1⟩, ?_⟩
      refine (List.Perm.append_left F1 b2).trans ?_
      rw [← List.append_assoc, ← List.append_assoc]
      exact List.Perm.append_right G2 List.perm_append_comm
  | [], _ :: _, _, _, _, h, _ => h.elim
  | _ :: _, [], _, _, _, h, _ => h.elim
def hetO (ps : List OP) : OP := ⟨fun W v F => ∃ a vs F2, v = .ref a ∧ W.H a = some (.lst vs) ∧ F = a :: F2 ∧ HetO W vs ps F2, fun h e k => by
  obtain ⟨a, vs, F2, h1, h2, h3, h4⟩ := h
  subst h3
  exact ⟨a, vs, F2, h1, (k a List.mem_cons_self).trans h2, rfl, h4.loc e fun b hb => k b (List.mem_cons_of_mem _ hb)⟩⟩
/-! ### the slots -/
abbrev Ctx := List (Option OP)
def Holds : Ctx → St → Wd → List Addr → Prop
  | [], _, _, F => F = []
  | none :: Γ, σ, W, F => Holds Γ σ.tail W F
  | some o :: Γ, σ, W, F => ∃ v F1 F2, σ.head? = some (some v) ∧ F = F1 ++ F2 ∧ o.C W v F1 ∧ Holds Γ σ.tail W F2
theorem Holds.loc {W W' : Wd} (e : Ex W.B W'.B) : ∀ {Γ : Ctx} {σ : St} {F : List Addr}, Holds Γ σ W F → (∀ a ∈ F, W'.H a = W.H a) → Holds Γ σ W' F
  | [], _, _, h, _ => h
  | none :: Γ, σ, F, h, k => Holds.loc e (Γ := Γ) (σ := σ.tail) (F := F) h k
  | some o :: Γ, σ, _, ⟨v, F1, F2, h1, h2, h3, h4⟩, k => by
    subst h2
    exact ⟨v, F1, F2, h1, rfl, o.loc h3 e fun a ha => k a (List.mem_append_left _ ha), Holds.loc e (Γ := Γ) h4 fun a ha => k a (List.mem_append_right _ ha)⟩
/-- the entry at a place, and what may stand there instead -/
theorem Holds.at {W : Wd} : ∀ {Γ : Ctx} {σ : St} {F : List Addr} {i : Nat} {o : OP}, Holds Γ σ W F → Γ[i]? = some (some o) →
    ∃ v F1 F2, σ[i]? = some (some v) ∧ o.C W v F1 ∧ F.Perm (F1 ++ F2) ∧ ∀ (W' : Wd) (o' : OP) (v' : V) (F1' : List Addr), Ex W.B W'.B → (∀ a ∈ F2, W'.H a = W.H a) → o'.C W' v' F1' →
      ∃ F', Holds (Γ.set i (some o')) (σ.set i (some v')) W' F' ∧ F'.Perm (F1' ++ F2)
  | [], _, _, _, _, _, e => by simp at e
  | none :: Γ, σ, F, 0, o, h, e => by simp at e
  | none :: Γ, [], F, i + 1, o, h, e => by
    obtain ⟨u, G1, G2, a1, _⟩ := Holds.at (i := i) (Γ := Γ) (σ := []) h (by simpa using e)
    simp at a1
  | none :: Γ, s :: σ, F, i + 1, o, h, e => by
    obtain ⟨u, G1, G2, a1, a2, a3, a4⟩ := Holds.at (i := i) (Γ := Γ) (σ := σ) h (by simpa using e)
    exact ⟨u, G1, G2, by simpa using a1, a2, a3, fun W' o' v' F1' eb hk hc => a4 W' o' v' F1' eb hk hc⟩
  | some p :: Γ, [], F, i, o, ⟨v, F1, F2, h1, h2, h3, h4⟩, e => by simp at h1
  | some p :: Γ, s :: σ, F, 0, o, ⟨v, F1, F2, h1, h2, h3, h4⟩, e => by
    have : p = o := by simpa using e
    subst this h2
    refine ⟨v, F1, F2, by simpa using h1, h3, .refl _, fun W' o' v' F1' eb hk hc => ⟨F1' ++ F2, ⟨v', F1', F2, rfl, rfl, hc, Holds.loc eb (Γ := Γ) h4 hk⟩, .refl _⟩⟩
  | some p :: Γ, s :: σ, F, i + 1, o, ⟨v, F1, F2, h1, h2, h3, h4⟩, e => by
    subst h2
    obtain ⟨u, G1, G2, a1, a2, a3, a4⟩ := Holds.at (i := i) (Γ := Γ) (σ := σ) h4 (by simpa using e)
    refine ⟨u, G1, F1 ++ G2, by simpa using a1, a2, ?_, fun W' x' v' F1' eb hk hc => ?_⟩
    · refine (List.Perm.append_left F1 a3).trans ?_
      rw [← List.append_assoc, ← List.append_assoc]
      exact List.Perm.append_right G2 List.perm_append_comm
    · obtain ⟨F', b1, b2⟩ := a4 W' x' v' F1' eb (fun a ha => hk a (List.mem_append_right _ ha)) hc
      refine ⟨F1 ++ F', ⟨v, F1, F', h1, rfl, OP.loc _ h3 eb fun a ha => hk a (List.mem_append_left _ ha), b1⟩, ?_⟩
      refine (List.Perm.append_left F1 b2).trans ?_
      rw [← List.append_assoc, ← List.append_assoc]
      exact List.Perm.append_right G2 List.perm_append_comm
/-- a slot is stored anew -/
theorem Holds.put {W : Wd} {o : OP} {v : V} {F1 : List Addr} (hc : o.C W v F1) : ∀ {Γ : Ctx} {σ : St} {F : List Addr} {i : Nat}, Holds Γ σ W F → i < Γ.length → i < σ.length →
    ∃ F' G, Holds (Γ.set i (some o)) (σ.set i (some v)) W F' ∧ F'.Perm (F1 ++ G) ∧ ∃ G', F.Perm (G ++ G')
  | [], _, _, _, _, h, _ => by simp at h
  | _ :: _, [], _, _, _, _, h => by simp at h
  | none :: Γ, s :: σ, F, 0, h, _, _ => ⟨F1 ++ F, F, ⟨v, F1, F, rfl, rfl, hc, h⟩, .refl _, [], by rw [List.append_nil]⟩
  | some p :: Γ, s :: σ, F, 0, ⟨u, G1, G2, h1, h2, h3, h4⟩, _, _ => ⟨F1 ++ G2, G2, ⟨v, F1, G2, rfl, rfl, hc, h4⟩, .refl _, G1, by subst h2; exact List.perm_append_comm⟩
  | none :: Γ, s :: σ, F, i + 1, h, l1, l2 => by
    obtain ⟨F', G, a1, a2, a3⟩ := Holds.put hc (i := i) (Γ := Γ) (σ := σ) h (by simpa using l1) (by simpa using l2)
    exact ⟨F', G, a1, a2, a3⟩
  | some p :: Γ, s :: σ, F, i + 1, ⟨u, G1, G2, h1, h2, h3, h4⟩, l1, l2 => by
    obtain ⟨F', G, a1, a2, G', a3⟩ := Holds.put hc (i := i) (Γ := Γ) (σ := σ) h4 (by simpa using l1) (by simpa using l2)
    subst h2
    refine ⟨G1 ++ F', G1 ++ G, ⟨u, G1, F', h1, rfl, h3, a1⟩, ?_, G', ?_⟩
    · refine (List.Perm.append_left G1 a2).trans ?_
      rw [← List.append_assoc, ← List.append_assoc]
      exact List.Perm.append_right G List.perm_append_comm
    · rw [List.append_assoc]
      exact List.Perm.append_left G1 a3
/-- less is known -/
inductive Weak : Ctx → Ctx → Prop
  | nil : Weak [] []
  | same {e Γ Δ} : Weak Γ Δ → Weak (e :: Γ) (e :: Δ)
  | drop {e Γ Δ} : Weak Γ Δ → Weak (e :: Γ) (none :: Δ)
theorem Weak.refl : ∀ Γ : Ctx, Weak Γ Γ
  | [] => .nil
  | _ :: Γ => .same (Weak.refl Γ)
theorem Weak.len {Γ Δ : Ctx} (w : Weak Γ Δ) : Γ.length = Δ.length := by induction w <;> simp_all
theorem Weak.holds {W : Wd} {Γ Δ : Ctx} (w : Weak Γ Δ) : ∀ {σ : St} {F : List Addr}, Holds Γ σ W F → ∃ F' G, Holds Δ σ W F' ∧ F.Perm (F' ++ G) := by
  induction w with
  | nil => exact fun {σ F} h => ⟨[], F, rfl, .refl _⟩
  | @same e Γ Δ w ih =>
    intro σ F h
    cases e with
    | none => exact ih (σ := σ.tail) h
    | some o =>
      obtain ⟨v, F1, F2, h1, h2, h3, h4⟩ := h
      obtain ⟨F', G, a1, a2⟩ := ih (σ := σ.tail) h4
      subst h2
      refine ⟨F1 ++ F', G, ⟨v, F1, F', h1, rfl, h3, a1⟩, ?_⟩
      rw [List.append_assoc]
      exact List.Perm.append_left F1 a2
  | @drop e Γ Δ w ih =>
    intro σ F h
    cases e with
    | none => exact ih (σ := σ.tail) h
    | some o =>
      obtain ⟨v, F1, F2, h1, h2, h3, h4⟩ := h
      obtain ⟨F', G, a1, a2⟩ := ih (σ := σ.tail) h4
      subst h2
      refine ⟨F', G ++ F1, a1, ?_⟩
      rw [← List.append_assoc]
      exact (List.Perm.append_left F1 a2).trans List.perm_append_comm
structure Sta (Γ : Ctx) (σ : St) (W : Wd) (F : List Addr) : Prop where
  ok : Ex W.B W.H
  fp : FpOk W F
  len : σ.length = Γ.length
  hold : Holds Γ σ W F
theorem Sta.ext {Γ : Ctx} {σ : St} {W W' : Wd} {F : List Addr} (s : Sta Γ σ W F) (e : Ext W W') : Sta Γ σ W' F :=
  ⟨e.ok, s.fp.ext e, s.len, s.hold.loc e.b fun a ha => e.h.eq (s.fp.al a ha)⟩
theorem Sta.weak {Γ Δ : Ctx} {σ : St} {W : Wd} {F : List Addr} (s : Sta Γ σ W F) (w : Weak Γ Δ) : ∃ F', Sta Δ σ W F' ∧ ∀ a ∈ F', a ∈ F := by
  obtain ⟨F', G, a1, a2⟩ := w.holds s.hold
  exact ⟨F', ⟨s.ok, (s.fp.perm a2).left, s.len.trans w.len, a1⟩, fun a h => a2.mem_iff.mpr (List.mem_append_left _ h)⟩
/-- a shared slot -/
theorem Sta.get {Γ : Ctx} {σ : St} {W : Wd} {F : List Addr} {i : Nat} {p : SP} (s : Sta Γ σ W F) (h : Γ[i]? = some (some (sh p))) : ∃ v, σ[i]? = some (some v) ∧ p.P W.B v := by
  obtain ⟨v, F1, F2, h1, h2, _⟩ := s.hold.at h
  exact ⟨v, h1, h2.2⟩
theorem Sta.put {Γ : Ctx} {σ : St} {W : Wd} {F F1 : List Addr} {i : Nat} {o : OP} {v : V} (s : Sta Γ σ W F) (hi : i < Γ.length) (hc : o.C W v F1) (f : FpOk W (F ++ F1)) :
    ∃ F', Sta (Γ.set i (some o)) (σ.set i (some v)) W F' ∧ ∀ a ∈ F', a ∈ F ++ F1 := by
  obtain ⟨F', G, a1, a2, G', a3⟩ := Holds.put hc (i := i) s.hold hi (by rw [s.len]; exact hi)
  have f2 : FpOk W ((F1 ++ G) ++ G') := f.perm (by
    refine List.perm_append_comm.trans ?_
    rw [List.append_assoc]
    exact List.Perm.append_left F1 a3)
  refine ⟨F', ⟨s.ok, f2.left.perm a2.symm, by rw [List.length_set, List.length_set]; exact s.len, a1⟩, fun a h => ?_⟩
  rcases List.mem_append.mp (a2.mem_iff.mp h) with z | z
  · exact List.mem_append_right _ z
  · exact List.mem_append_left _ (a3.mem_iff.mpr (List.mem_append_left _ z))
end CC
set_option maxHeartbeats 4000000
/-! Judgements: a piece of Python and its mirror. -/
namespace CC
open PySem PySem.Spec L2
open PyProof.Rows hiding St
/-- what does not change while a def's body (or a comprehension's block) runs -/
structure Stc where
  P : Program
  w : World
  K : PySem.W.Frag
  mg : Str → Option Value
  base : Heap
  N : List Str
  sc : Scope
  k : Nat
  fn : Str → Bool
  prot : List Nat
structure Stc.In (S : Stc) (X : Cx) : Prop where
  prog : X.prog = S.P
  w : X.w = S.w
  K : X.K = S.K
  mg : X.mg = S.mg
  base : X.base = S.base
  N : X.N = S.N
  sc : X.env.scope = S.sc
  fn : X.fn = S.fn
  calm : X.calm = true
  room : Room S.k X.A
  xe : X.xe = fun _ _ => False
abbrev Stc.blk (S : Stc) (scope : Scope) : Stc := { S with sc := relS scope S.sc, fn := fun x => scope.names.lookup x == some .cell }
theorem Stc.In.blk {S : Stc} {X : Cx} (h : S.In X) (scope : Scope) (s : Shared) (H : Hp) (C : Addr) (cl : List (Str × Addr)) (fp : List Addr) : (S.blk scope).In (X.blk s H scope (compEnvC scope cl C X.env) fp) :=
  ⟨h.prog, h.w, h.K, h.mg, h.base, h.N, by
    show relabel scope X.env = relS scope S.sc
    rw [← h.sc]
    rfl, rfl, h.calm, h.room, rfl⟩
/-! ### readings for every context at once -/
def tOf (S : Stc) (e : Expr) : TE := fun σ H Q => ∃ t : TE, (∀ X, S.In X → PE X e t) ∧ t σ H Q
def ttOf (S : Stc) (e : Expr) : TT := fun σ H Q => ∃ t : TT, (∀ X, S.In X → PT X e t) ∧ t σ H Q
def twOf (S : Stc) (e : Expr) : TT := fun σ H Q => ∃ t : TT, (∀ X, S.In X → PW X e t) ∧ t σ H Q
def taOf (S : Stc) (es : List Expr) : TA := fun σ H Q => ∃ t : TA, (∀ X, S.In X → PA X es t) ∧ t σ H Q
def tsOf (S : Stc) (st : Stmt) : TS := fun D σ H => ∃ t : TS, (∀ X, S.In X → PS X st t) ∧ t D σ H
def tbOf (S : Stc) (sts : List Stmt) : TS := fun D σ H => ∃ t : TS, (∀ X, S.In X → PSs X sts t) ∧ t D σ H
section
variable {S : Stc} {X : Cx}
theorem peO {e : Expr} (h : S.In X) : PE X e (tOf S e) := ⟨fun pins s σ H Q I ⟨_, p, q⟩ => (p X h).run pins s σ H Q I q⟩
theorem ptO {e : Expr} (h : S.In X) : PT X e (ttOf S e) := ⟨fun pins s σ H Q I ⟨_, p, q⟩ => (p X h).run pins s σ H Q I q⟩
theorem pwO {e : Expr} (h : S.In X) : PW X e (twOf S e) := ⟨fun wh pins s σ H Q I ⟨_, p, q⟩ => (p X h).run wh pins s σ H Q I q⟩
theorem paO {es : List Expr} (h : S.In X) : PA X es (taOf S es) := ⟨fun pos pins s σ H Q I ⟨_, p, q⟩ => (p X h).run pos pins s σ H Q I q⟩
theorem psO {st : Stmt} (h : S.In X) : PS X st (tsOf S st) := ⟨fun pins s σ H D I ⟨_, p, q⟩ => (p X h).run pins s σ H D I q⟩
theorem pbO {sts : List Stmt} (h : S.In X) : PSs X sts (tbOf S sts) := ⟨fun pins s σ H D I ⟨_, p, q⟩ => (p X h).run pins s σ H D I q⟩
end
def GlS (S : Stc) (x : Str) : Prop := S.sc.names.lookup x = some .globalImplicit
theorem GlS.gl {S : Stc} {X : Cx} {x : Str} (g : GlS S x) (h : S.In X) : Gl X x := by
  show X.env.scope.names.lookup x = some .globalImplicit
  rw [h.sc]
  exact g
theorem visS {S : Stc} {X : Cx} {x : Str} (g : Vis S.sc x) (h : S.In X) : Vis X.env.scope x := by rw [h.sc]; exact g
theorem locS {S : Stc} {X : Cx} {x : Str} (g : Loc S.sc x) (h : S.In X) : Loc X.env.scope x := by rw [h.sc]; exact g
theorem mgS {S : Stc} {X : Cx} {x : Str} {u : Option Value} (g : S.mg x = u) (h : S.In X) : X.mg x = u := by rw [h.mg]; exact g
theorem fnokS {S : Stc} {X : Cx} {CX : CXT} {k : Nat} {f : Addr} {fd : FuncData} {ps : List Str} {sp : Sp} (F : FnOk S.P S.w S.K S.mg S.base CX k f fd ps sp) (h : S.In X) : FnOk X.prog X.w X.K X.mg X.base CX k f fd ps sp := by
  rw [h.prog, h.w, h.K, h.mg, h.base]
  exact F
/-! ### the judgements -/
variable {α β γ δ τ ω ρ : Type}
/-- a value has come, things were added -/
def Got (R : OP) (W : Wd) (Q : VK) : Prop := ∀ v W' Fv, Ext W W' → (∀ a ∈ Fv, W.H a = none) → FpOk W' Fv → R.C W' v Fv → Q v W'.H
/-- a pure expression: its mirror m (none: no claim), what its value is -/
def JN (S : Stc) (e : Expr) (Γ : Ctx) (m : Option α) (R : α → OP) : Prop :=
  ∀ σ W F, Sta Γ σ W F → ∀ x, m = some x → ∀ Q : VK, Got (R x) W Q → tOf S e σ W.H Q
/-- .. read where it stands: what is owned stays with its owner -/
def JR (S : Stc) (e : Expr) (Γ : Ctx) (m : Option α) (R : α → OP) : Prop :=
  ∀ σ W F, Sta Γ σ W F → ∀ x, m = some x → ∀ Q : VK, (∀ v W', Ext W W' → (∃ F1, (R x).C W' v F1 ∧ ∀ a ∈ F1, W'.H a ≠ none) → Q v W'.H) → tOf S e σ W.H Q
/-- a pure test -/
def JT (S : Stc) (e : Expr) (Γ : Ctx) (m : Option Bool) : Prop :=
  ∀ σ W F, Sta Γ σ W F → ∀ b, m = some b → ∀ Q : Bool → Hp → Prop, (∀ W', Ext W W' → Q b W'.H) → ttOf S e σ W.H Q
def JW (S : Stc) (e : Expr) (Γ : Ctx) (m : Option Bool) : Prop :=
  ∀ σ W F, Sta Γ σ W F → ∀ b, m = some b → ∀ Q : Bool → Hp → Prop, (∀ W', Ext W W' → Q b W'.H) → twOf S e σ W.H Q
/-- pure arguments, all shared -/
def JA (S : Stc) (es : List Expr) (Γ : Ctx) (m : Option α) (R : α → List SP) : Prop :=
  ∀ σ W F, Sta Γ σ W F → ∀ x, m = some x → ∀ Q : List V → Hp → Prop, (∀ vs W', Ext W W' → Hets W'.B vs (R x) → Q vs W'.H) → taOf S es σ W.H Q
/-- an expression that changes what is owned: Γ by the state s -/
def JE (S : Stc) (e : Expr) (Γ : τ → Ctx) (s : τ) (m : Option (α × τ)) (R : α → OP) : Prop :=
  ∀ σ W F, Sta (Γ s) σ W F → ∀ x, m = some x → ∀ Q : VK, (∀ v W' F' Fv, Stp W F W' (F' ++ Fv) → Sta (Γ x.2) σ W' F' → FpOk W' (F' ++ Fv) → (R x.1).C W' v Fv → Q v W'.H) → tOf S e σ W.H Q
/-- how a block may end -/
inductive Kd where
  | nx (Γ : Ctx)
  | rt (Γ : Ctx) (R : OP)
  | bk (Γ : Ctx)
  | ct (Γ : Ctx)
/-- the slots that must stay -/
def Keep (prot : List Nat) (σ σ' : St) : Prop := ∀ p ∈ prot, σ'[p]? = σ[p]?
theorem Keep.refl {prot : List Nat} {σ : St} : Keep prot σ σ := fun _ _ => rfl
theorem Keep.trans {prot : List Nat} {σ σ1 σ2 : St} (a : Keep prot σ σ1) (b : Keep prot σ1 σ2) : Keep prot σ σ2 := fun p h => (b p h).trans (a p h)
theorem Keep.set {prot : List Nat} {σ : St} {i : Nat} {v : Option V} (h : i ∉ prot) : Keep prot σ (σ.set i v) := fun p hp => List.getElem?_set_ne fun e => h (by rw [e]; exact hp)
theorem ncon {prot : List Nat} {i : Nat} (h : prot.contains i = false) : i ∉ prot := fun z => by
  rw [List.contains_iff_mem.mpr z] at h
  cases h
def Post (prot : List Nat) (σ : St) (W : Wd) (F : List Addr) (D : Ends) : Kd → Prop
  | .nx Γ => ∀ σ' W' F', Keep prot σ σ' → Stp W F W' F' → Sta Γ σ' W' F' → D.nx σ' W'.H
  | .bk Γ => ∀ σ' W' F', Keep prot σ σ' → Stp W F W' F' → Sta Γ σ' W' F' → D.bk σ' W'.H
  | .ct Γ => ∀ σ' W' F', Keep prot σ σ' → Stp W F W' F' → Sta Γ σ' W' F' → D.ct σ' W'.H
  | .rt Γ R => ∀ v σ' W' F' Fv, Keep prot σ σ' → Stp W F W' (F' ++ Fv) → Sta Γ σ' W' F' → FpOk W' (F' ++ Fv) → R.C W' v Fv → D.rt v W'.H
/-- a block: its mirror, and how each outcome ends -/
def JB (S : Stc) (sts : List Stmt) (Γ : Ctx) (m : Option ω) (D : ω → Kd) : Prop :=
  ∀ σ W F, Sta Γ σ W F → ∀ x, m = some x → ∀ E : Ends, Post S.prot σ W F E (D x) → tbOf S sts E σ W.H
/-- one statement -/
def JS (S : Stc) (st : Stmt) (Γ : Ctx) (m : Option ω) (D : ω → Kd) : Prop :=
  ∀ σ W F, Sta Γ σ W F → ∀ x, m = some x → ∀ E : Ends, Post S.prot σ W F E (D x) → tsOf S st E σ W.H
theorem Post.before {prot : List Nat} {σ σ1 : St} {W W1 : Wd} {F F1 : List Addr} {D : Ends} {k : Kd} (p : Post prot σ W F D k) (hk : Keep prot σ σ1) (hs : Stp W F W1 F1) : Post prot σ1 W1 F1 D k := by
  cases k with
  | nx Γ => exact fun σ' W' F' a b c => p σ' W' F' (hk.trans a) (hs.trans b) c
  | bk Γ => exact fun σ' W' F' a b c => p σ' W' F' (hk.trans a) (hs.trans b) c
  | ct Γ => exact fun σ' W' F' a b c => p σ' W' F' (hk.trans a) (hs.trans b) c
  | rt Γ R => exact fun v σ' W' F' Fv a b c d e => p v σ' W' F' Fv (hk.trans a) (hs.trans b) c d e
section
variable {S : Stc} {Γ Δ : Ctx} {a b c e : Expr} {es : List Expr} {pos : Pos}
theorem JN.cong {m m' : Option α} {R : α → OP} (h : JN S e Γ m R) (q : m = m') : JN S e Γ m' R := q ▸ h
theorem JB.cong {sts : List Stmt} {m m' : Option ω} {D : ω → Kd} (h : JB S sts Γ m D) (q : m = m') : JB S sts Γ m' D := q ▸ h
theorem JN.weak {m : Option α} {R : α → OP} (w : Weak Γ Δ) (h : JN S e Δ m R) : JN S e Γ m R := fun σ W F st x hx Q k => by
  obtain ⟨F', st', _⟩ := st.weak w
  exact h σ W F' st' x hx Q k
theorem JB.weak {sts : List Stmt} {m : Option ω} {D : ω → Kd} (w : Weak Γ Δ) (h : JB S sts Δ m D) : JB S sts Γ m D := fun σ W F st x hx E k => by
  obtain ⟨F', st', sub⟩ := st.weak w
  exact h σ W F' st' x hx E (k.before Keep.refl ((Stp.refl st.ok).perm sub))
/-- mirrors of the value and of the description -/
theorem JN.map {m : Option α} {R : α → OP} {R' : β → OP} {f : α → β} (h : JN S e Γ m R) (hR : ∀ x W v F, (R x).C W v F → (R' (f x)).C W v F) : JN S e Γ (m.bind fun x => some (f x)) R' := fun σ W F st y hy Q k => by
  cases hm : m with
  | none => rw [hm] at hy; cases hy
  | some x =>
    rw [hm] at hy
    cases hy
    exact h σ W F st x hm Q fun v W' Fv e fr fp r => k v W' Fv e fr fp (hR x W' v Fv r)
/-! ### what is owned becomes shared -/
theorem FpOk.head {W : Wd} {a : Addr} {F : List Addr} (f : FpOk W (a :: F)) : a ∉ F := (List.nodup_cons.mp f.nd).1
/-- freezing with the footprint's own facts -/
structure FrzN (R : OP) (P : SP) : Prop where
  run : ∀ {W v F}, R.C W v F → F.Nodup → (∀ a ∈ F, W.B a = none) → Ex W.B W.H → ∃ B', Ex W.B B' ∧ Ex B' W.H ∧ (∀ a, W.B a = none → a ∉ F → B' a = none) ∧ P.P B' v
theorem fz_sh {p : SP} : FrzN (sh p) p := ⟨fun {W v F} h _ _ ok => ⟨W.B, Ex.refl _, ok, fun _ h _ => h, h.2⟩⟩
theorem fz_owns {E : α → OP} {G : α → SP} (f : ∀ x, FrzN (E x) (G x)) : ∀ {vs : List V} {xs : List α} {W : Wd} {F : List Addr}, Owns E W vs xs F → F.Nodup → (∀ a ∈ F, W.B a = none) → Ex W.B W.H →
    ∃ B', Ex W.B B' ∧ Ex B' W.H ∧ (∀ a, W.B a = none → a ∉ F → B' a = none) ∧ Each G B' vs xs
  | [], [], W, F, _, _, _, ok => ⟨W.B, Ex.refl _, ok, fun _ h _ => h, trivial⟩
  | v :: vs, x :: xs, W, F, ⟨F1, F2, h1, h2, h3⟩, nd, fr, ok => by
    subst h1
    have nd' := List.nodup_append.mp nd
    obtain ⟨B1, a1, a2, a3, a4⟩ := (f x).run h2 nd'.1 (fun a ha => fr a (List.mem_append_left _ ha)) ok
    obtain ⟨B2, b1, b2, b3, b4⟩ := fz_owns f (W := ⟨W.H, B1⟩) (h3.loc (W' := ⟨W.H, B1⟩) a1 fun _ _ => rfl) nd'.2.1 (fun a ha => a3 a (fr a (List.mem_append_right _ ha)) fun z => nd'.2.2 a z a ha rfl) a2
    exact ⟨B2, a1.trans b1, b2, fun a h n => b3 a (a3 a h fun z => n (List.mem_append_left _ z)) fun z => n (List.mem_append_right _ z), SP.mono _ a4 b1, b4⟩
  | [], _ :: _, _, _, h, _, _, _ => h.elim
  | _ :: _, [], _, _, h, _, _, _ => h.elim
theorem fz_lst {E : α → OP} {G : α → SP} (f : ∀ x, FrzN (E x) (G x)) (xs : List α) : FrzN (lstO E xs) (lstS G xs) := ⟨fun {W v F} h nd fr ok => by
  obtain ⟨a, vs, F2, rfl, h2, rfl, h4⟩ := h
  have nd' := List.nodup_cons.mp nd
  obtain ⟨B1, a1, a2, a3, a4⟩ := fz_owns f h4 nd'.2 (fun b hb => fr b (List.mem_cons_of_mem _ hb)) ok
  have na : B1 a = none := a3 a (fr a List.mem_cons_self) nd'.1
  refine ⟨upd B1 a (.lst vs), a1.trans (Ex.new na), fun b o e => ?_, fun b hb n => ?_, a, vs, rfl, upd_same, a4.mono (Ex.new na)⟩
  · by_cases z : b = a
    · subst z
      rw [upd_same] at e
      rw [h2]
      exact e
    · rw [upd_ne z] at e
      exact a2 b o e
  · have z : b ≠ a := fun z => n (z ▸ List.mem_cons_self)
    rw [upd_ne z]
    exact a3 b hb fun q => n (List.mem_cons_of_mem _ q)⟩
theorem fz_het {ps : List OP} {qs : List SP} : ∀ {vs : List V} {ps : List OP} {qs : List SP} {W : Wd} {F : List Addr}, HetO W vs ps F → Paired FrzN ps qs → F.Nodup → (∀ a ∈ F, W.B a = none) → Ex W.B W.H →
    ∃ B', Ex W.B B' ∧ Ex B' W.H ∧ (∀ a, W.B a = none → a ∉ F → B' a = none) ∧ Hets B' vs qs
  | [], [], _, W, F, _, .nil, _, _, ok => ⟨W.B, Ex.refl _, ok, fun _ h _ => h, trivial⟩
  | v :: vs, x :: xs, _, W, F, ⟨F1, F2, h1, h2, h3⟩, .cons f fs, nd, fr, ok => by
    subst h1
    have nd' := List.nodup_append.mp nd
    obtain ⟨B1, a1, a2, a3, a4⟩ := f.run h2 nd'.1 (fun a ha => fr a (List.mem_append_left _ ha)) ok
    obtain ⟨B2, b1, b2, b3, b4⟩ := fz_het (ps := ps) (qs := qs) (W := ⟨W.H, B1⟩) (h3.loc (W' := ⟨W.H, B1⟩) a1 fun _ _ => rfl) fs nd'.2.1 (fun a ha => a3 a (fr a (List.mem_append_right _ ha)) fun z => nd'.2.2 a z a ha rfl) a2
    exact ⟨B2, a1.trans b1, b2, fun a h n => b3 a (a3 a h fun z => n (List.mem_append_left _ z)) fun z => n (List.mem_append_right _ z), SP.mono _ a4 b1, b4⟩
  | [], _ :: _, _, _, _, h, _, _, _, _ => h.elim
  | _ :: _, [], _, _, _, h, _, _, _, _ => h.elim
/-- a fresh value frozen on the way -/
theorem JN.frz {m : Option α} {R : α → OP} {P : α → SP} (f : ∀ x, FrzN (R x) (P x)) (h : JN S e Γ m R) : JN S e Γ m fun x => sh (P x) := fun σ W F st x hx Q k =>
  h σ W F st x hx Q fun v W' Fv ext fresh fp r => by
    obtain ⟨B', b1, b2, b3, b4⟩ := (f x).run r fp.nd fp.fr ext.ok
    have e2 : Ext W ⟨W'.H, B'⟩ := ⟨b2, ext.h, ext.b.trans b1, fun a h1 h2 => b3 a (ext.fr a h1 h2) fun z => h1 (fresh a z)⟩
    exact k v ⟨W'.H, B'⟩ [] e2 (fun _ h => (List.not_mem_nil h).elim) FpOk.nil ⟨rfl, b4⟩
theorem FrzN.lst (E : α → SP) : ∀ xs : List α, FrzN (lstO (fun x => sh (E x)) xs) (lstS E xs) := fz_lst fun _ => fz_sh
theorem FrzN.lst2 (E : α → SP) : ∀ xs : List (List α), FrzN (lstO (fun ys => lstO (fun x => sh (E x)) ys) xs) (lstS (lstS E) xs) := fz_lst fun ys => fz_lst (fun _ => fz_sh) ys
/-- a slot frozen -/
theorem JB.frz {sts : List Stmt} {m : Option ω} {D : ω → Kd} {i : Nat} {o : OP} {p : SP} (hi : Γ[i]? = some (some o)) (f : FrzN o p) (h : JB S sts (Γ.set i (some (sh p))) m D) : JB S sts Γ m D := fun σ W F st x hx E k => by
  obtain ⟨v, F1, F2, a1, a2, a3, a4⟩ := st.hold.at hi
  have fp := st.fp.perm a3
  obtain ⟨B', b1, b2, b3, b4⟩ := f.run a2 fp.left.nd fp.left.fr st.ok
  obtain ⟨F', c1, c2⟩ := a4 ⟨W.H, B'⟩ (sh p) v [] b1 (fun _ _ => rfl) ⟨rfl, b4⟩
  have sub : ∀ a ∈ F', a ∈ F2 := fun a ha => by simpa using c2.mem_iff.mp ha
  have fp' : FpOk ⟨W.H, B'⟩ F' := by
    refine FpOk.perm (F := F2) ?_ (by simpa using c2.symm)
    exact ⟨fp.right.nd, fp.right.al, fun a ha => b3 a (fp.right.fr a ha) fun z => fp.disj a z ha⟩
  have hset : σ.set i (some v) = σ := by
    refine List.ext_getElem? fun j => ?_
    by_cases e : i = j
    · subst e
      rw [a1, List.getElem?_set_self (List.getElem?_eq_some_iff.mp a1).1]
    · rw [List.getElem?_set_ne e]
  rw [hset] at c1
  refine h σ ⟨W.H, B'⟩ F' ⟨b2, fp', by rw [List.length_set]; exact st.len, c1⟩ x hx E (k.before Keep.refl ?_)
  refine ⟨b2, b1, fun a o h _ => h, fun a h => h, fun a h1 h2 n => b3 a h2 fun z => n (a3.mem_iff.mpr (List.mem_append_left _ z)), fun a ha => .inl (a3.mem_iff.mpr (List.mem_append_right _ (sub a ha)))⟩
/-! ### names and constants -/
theorem jn_var {E : α → SP} {a : α} {x : Str} (i : Nat) (hi : Γ[i]? = some (some (sh (E a))) := by rfl) (hN : S.N[i]? = some x := by rfl) (hv : Vis S.sc x := by first | exact Or.inl rfl | exact Or.inr (Or.inl rfl) | exact Or.inr (Or.inr rfl))
    (hd : (x == ("__debug__" : Str)) = false := by decide) (hcd : (x == ("__classdict__" : Str)) = false := by decide) : JN S (.Name x pos) Γ (some a) fun a => sh (E a) := fun σ W F st y hy Q k => by
  cases hy
  obtain ⟨v, h1, h2⟩ := st.get hi
  exact ⟨tVar i, fun X hX => pe_var (by rw [hX.N]; exact hN) (visS hv hX) hd hcd, v, h1, k v W [] (Ext.refl st.ok) (fun _ h => (List.not_mem_nil h).elim) FpOk.nil ⟨rfl, h2⟩⟩
theorem jr_var {R : α → OP} {a : α} {x : Str} (i : Nat) (hi : Γ[i]? = some (some (R a)) := by rfl) (hN : S.N[i]? = some x := by rfl) (hv : Vis S.sc x := by first | exact Or.inl rfl | exact Or.inr (Or.inl rfl) | exact Or.inr (Or.inr rfl))
    (hd : (x == ("__debug__" : Str)) = false := by decide) (hcd : (x == ("__classdict__" : Str)) = false := by decide) : JR S (.Name x pos) Γ (some a) R := fun σ W F st y hy Q k => by
  cases hy
  obtain ⟨v, F1, F2, h1, h2, h3, _⟩ := st.hold.at hi
  exact ⟨tVar i, fun X hX => pe_var (by rw [hX.N]; exact hN) (visS hv hX) hd hcd, v, h1, k v W (Ext.refl st.ok) ⟨F1, h2, fun a ha => st.fp.al a (h3.mem_iff.mpr (List.mem_append_left _ ha))⟩⟩
theorem jr_of {m : Option α} {R : α → OP} (h : JN S e Γ m R) : JR S e Γ m R := fun σ W F st x hx Q k => h σ W F st x hx Q fun v W' Fv e _ fp r => k v W' e ⟨Fv, r, fp.al⟩
theorem jn_of {m : Option α} {P : α → SP} (h : JR S e Γ m fun x => sh (P x)) : JN S e Γ m fun x => sh (P x) := fun σ W F st x hx Q k => h σ W F st x hx Q fun v W' e r => by
  obtain ⟨F1, r, _⟩ := r
  exact k v W' [] e (fun _ h => (List.not_mem_nil h).elim) FpOk.nil ⟨rfl, r.2⟩
theorem jn_c {v : V} {E : α → SP} {a : α} (hp : ∀ X, S.In X → PE X e (tC v)) (hv : ∀ B, (E a).P B v) : JN S e Γ (some a) fun a => sh (E a) := fun σ W F st y hy Q k => by
  cases hy
  exact ⟨tC v, hp, k v W [] (Ext.refl st.ok) (fun _ h => (List.not_mem_nil h).elim) FpOk.nil ⟨rfl, hv _⟩⟩
theorem jn_int {i j} : JN S (.Constant (.int i) j pos) Γ (some i) fun a => sh (intS a) := jn_c (fun _ _ => pe_int) fun _ => rfl
theorem jn_bl {b j} : JN S (.Constant (.bool b) j pos) Γ (some b) fun a => sh (boolS a) := jn_c (fun _ _ => pe_bl) fun _ => rfl
theorem jn_str {x j} : JN S (.Constant (.str x) j pos) Γ (some x) fun a => sh (strS a) := jn_c (fun _ _ => pe_str) fun _ => rfl
theorem jn_non {j} : JN S (.Constant .none j pos) Γ (some ()) fun _ => sh nonS := jn_c (E := fun _ => nonS) (fun _ _ => pe_non) fun _ => rfl
/-! ### operators -/
/-- a two-place operation on shared values -/
def OpV (r : R2) (E : α → SP) (G : β → SP) (f : α → β → Option γ) (R : γ → OP) : Prop :=
  ∀ W x y v u z, Ex W.B W.H → (E x).P W.B v → (G y).P W.B u → f x y = some z → ∀ Q : VK, Got (R z) W Q → r v u W.H Q
theorem Got.val {p : SP} {W : Wd} {Q : VK} {v : V} (k : Got (sh p) W Q) (ok : Ex W.B W.H) (h : p.P W.B v) : Q v W.H := k v W [] (Ext.refl ok) (fun _ h => (List.not_mem_nil h).elim) FpOk.nil ⟨rfl, h⟩
theorem Got.ext {R : OP} {W W1 : Wd} {Q : VK} (k : Got R W Q) (e : Ext W W1) : Got R W1 Q := fun v W' Fv e1 fr fp r => k v W' Fv (e.trans e1) (fun a ha => e.h.back (fr a ha)) fp r
theorem run2 {ma : Option α} {mb : Option β} {f : α → β → Option γ} {z : γ} (h : (ma.bind fun x => mb.bind fun y => f x y) = some z) : ∃ x y, ma = some x ∧ mb = some y ∧ f x y = some z := by
  cases ma with
  | none => cases h
  | some x =>
    cases mb with
    | none => cases h
    | some y => exact ⟨x, y, rfl, rfl, h⟩
theorem run1 {ma : Option α} {f : α → Option γ} {z : γ} (h : (ma.bind fun x => f x) = some z) : ∃ x, ma = some x ∧ f x = some z := by
  cases ma with
  | none => cases h
  | some x => exact ⟨x, rfl, h⟩
theorem tOp_run {r : R2} {E : α → SP} {G : β → SP} {f : α → β → Option γ} {R : γ → OP} {ma : Option α} {mb : Option β} (ha : JN S a Γ ma fun x => sh (E x)) (hb : JN S b Γ mb fun y => sh (G y)) (hr : OpV r E G f R)
    {σ : L2.St} {W : Wd} {F : List Addr} (st : Sta Γ σ W F) {z : γ} (hz : (ma.bind fun x => mb.bind fun y => f x y) = some z) {Q : VK} (k : Got (R z) W Q) : tOp r (tOf S a) (tOf S b) σ W.H Q := by
  obtain ⟨x, y, h1, h2, h3⟩ := run2 hz
  refine ha σ W F st x h1 _ fun v W1 F1 e1 _ _ r1 => ?_
  refine hb σ W1 F (st.ext e1) y h2 _ fun u W2 F2 e2 _ _ r2 => ?_
  exact hr W2 x y v u z e2.ok (SP.mono _ r1.2 e2.b) r2.2 h3 Q (k.ext (e1.trans e2))
theorem jn_bin {op : Operator} {r : R2} {E : α → SP} {G : β → SP} {f : α → β → Option γ} {R : γ → OP} {ma : Option α} {mb : Option β} (ho : ∀ X, S.In X → OpR X (binaryOp op) r) (hr : OpV r E G f R)
    (ha : JN S a Γ ma fun x => sh (E x)) (hb : JN S b Γ mb fun y => sh (G y)) : JN S (.BinOp a op b pos) Γ (ma.bind fun x => mb.bind fun y => f x y) R := fun σ W F st z hz Q k =>
  ⟨tOp r (tOf S a) (tOf S b), fun X hX => pe_op (ho X hX) (peO hX) (peO hX), tOp_run ha hb hr st hz k⟩
theorem jn_cmp {op : CmpOp} {r : R2} {E : α → SP} {G : β → SP} {f : α → β → Option γ} {R : γ → OP} {ma : Option α} {mb : Option β} (ho : ∀ X, S.In X → OpR X (compareOp op) r) (hr : OpV r E G f R)
    (ha : JN S a Γ ma fun x => sh (E x)) (hb : JN S b Γ mb fun y => sh (G y)) (hm : behindInMarks op b = false := by first | exact nomark _ | rfl) : JN S (.Compare a [op] [b] pos) Γ (ma.bind fun x => mb.bind fun y => f x y) R := fun σ W F st z hz Q k =>
  ⟨tOp r (tOf S a) (tOf S b), fun X hX => pe_cmpR (ho X hX) (peO hX) (peO hX) hm, tOp_run ha hb hr st hz k⟩
theorem jt_cmp {op : CmpOp} {r : R2} {E : α → SP} {G : β → SP} {f : α → β → Option Bool} {ma : Option α} {mb : Option β} (ho : ∀ X, S.In X → OpR X (compareOp op) r) (hr : OpV r E G f fun z => sh (boolS z))
    (ha : JN S a Γ ma fun x => sh (E x)) (hb : JN S b Γ mb fun y => sh (G y)) (hm : behindInMarks op b = false := by first | exact nomark _ | rfl) : JT S (.Compare a [op] [b] pos) Γ (ma.bind fun x => mb.bind fun y => f x y) := fun σ W F st z hz Q k =>
  ⟨tTest (tOp r (tOf S a) (tOf S b)), fun X hX => pt_cmpR (ho X hX) (peO hX) (peO hX) hm, tOp_run ha hb hr st hz fun v W' Fv e _ _ h => ⟨z, h.2, k W' e⟩⟩
/-- a subscript of something read where it stands -/
def IxV (r : R2) (R0 : α → OP) (G : β → SP) (f : α → β → Option γ) (R : γ → OP) : Prop :=
  ∀ W x y v u z F1, Ex W.B W.H → (R0 x).C W v F1 → (G y).P W.B u → f x y = some z → ∀ Q : VK, (∀ t, (∃ F2, (R z).C W t F2 ∧ ∀ a ∈ F2, a ∈ F1) → Q t W.H) → r v u W.H Q
theorem jr_ix {r : R2} {R0 : α → OP} {G : β → SP} {f : α → β → Option γ} {R : γ → OP} {ma : Option α} {mb : Option β} (ho : ∀ X, S.In X → IxR X r) (hr : IxV r R0 G f R)
    (ha : JR S a Γ ma R0) (hb : JN S b Γ mb fun y => sh (G y)) (hs : PlainIx b := by exact fun _ _ => rfl) : JR S (.Subscript a b pos) Γ (ma.bind fun x => mb.bind fun y => f x y) R := fun σ W F st z hz Q k => by
  refine ⟨tOp r (tOf S a) (tOf S b), fun X hX => pe_ix (ho X hX) (peO hX) (peO hX) hs, ?_⟩
  obtain ⟨x, y, h1, h2, h3⟩ := run2 hz
  refine ha σ W F st x h1 _ fun v W1 e1 ⟨F1, r1, al1⟩ => ?_
  refine hb σ W1 F (st.ext e1) y h2 _ fun u W2 F2 e2 _ _ r2 => ?_
  have r1' : (R0 x).C W2 v F1 := OP.loc _ r1 e2.b fun a ha => e2.h.eq (al1 a ha)
  exact hr W2 x y v u z F1 e2.ok r1' r2.2 h3 _ fun t ⟨F3, q1, q2⟩ => k t W2 (e1.trans e2) ⟨F3, q1, fun a ha => e2.h.ne (al1 a (q2 a ha))⟩
theorem jn_un {op : UnaryOp} {r : V → Hp → VK → Prop} {E : α → SP} {f : α → Option γ} {R : γ → OP} {ma : Option α} (ho : ∀ X, S.In X → UnR X (unaryOp op) r)
    (hr : ∀ W x v z, Ex W.B W.H → (E x).P W.B v → f x = some z → ∀ Q : VK, Got (R z) W Q → r v W.H Q) (ha : JN S a Γ ma fun x => sh (E x)) : JN S (.UnaryOp op a pos) Γ (ma.bind fun x => f x) R := fun σ W F st z hz Q k => by
  refine ⟨tUn r (tOf S a), fun X hX => pe_un (ho X hX) (peO hX), ?_⟩
  obtain ⟨x, h1, h3⟩ := run1 hz
  exact ha σ W F st x h1 _ fun v W1 F1 e1 _ _ r1 => hr W1 x v z e1.ok r1.2 h3 Q (k.ext e1)
theorem jn_neg {ma : Option Int} (ha : JN S a Γ ma fun x => sh (intS x)) : JN S (.UnaryOp .USub a pos) Γ (ma.bind fun x => some (-x)) fun z => sh (intS z) :=
  jn_un (f := fun x : Int => some (-x)) (fun _ _ => un_neg) (fun W x v z ok h e Q k => by cases e; cases h; exact ⟨x, rfl, k.val ok rfl⟩) ha
/-! ### tests -/
theorem jt_val {m : Option Bool} (h : JN S e Γ m fun z => sh (boolS z)) (he : ∀ env whole, isTrue e env whole = (do let v ← whole; standAt e.pos; holding [v] (truthy v)) := by intro _ _; rfl) : JT S e Γ m := fun σ W F st z hz Q k =>
  ⟨tB (tOf S e), fun X hX => pt_val (peO hX) (he _), h σ W F st z hz _ fun v W' Fv e _ _ r => ⟨z, r.2, k W' e⟩⟩
theorem jt_not {m : Option Bool} (h : JT S e Γ m) : JT S (.UnaryOp .Not e pos) Γ (m.bind fun x => some (!x)) := fun σ W F st z hz Q k => by
  obtain ⟨x, h1, h2⟩ := run1 hz
  cases h2
  exact ⟨tNot (ttOf S e), fun X hX => pt_not (ptO hX), h σ W F st x h1 _ fun W' e => k W' e⟩
theorem jw_and1 {m : Option Bool} (h : JT S a Γ m) : JW S (.BoolOp .And [a] pos) Γ m := fun σ W F st z hz Q k => ⟨ttOf S a, fun X hX => pw_and1 (ptO hX), h σ W F st z hz _ k⟩
theorem jw_or1 {m : Option Bool} (h : JT S a Γ m) : JW S (.BoolOp .Or [a] pos) Γ m := fun σ W F st z hz Q k => ⟨ttOf S a, fun X hX => pw_or1 (ptO hX), h σ W F st z hz _ k⟩
theorem jw_and {ma mb : Option Bool} (ha : JT S a Γ ma) (hb : JW S (.BoolOp .And (b :: es) pos) Γ mb) : JW S (.BoolOp .And (a :: b :: es) pos) Γ (ma.bind fun x => bif x then mb else some false) := fun σ W F st z hz Q k => by
  obtain ⟨x, h1, h2⟩ := run1 hz
  refine ⟨tAnd (ttOf S a) (twOf S (.BoolOp .And (b :: es) pos)), fun X hX => pw_and (ptO hX) (pwO hX), ha σ W F st x h1 _ fun W' e => ?_⟩
  cases x with
  | true => exact iteT (hb σ W' F (st.ext e) z h2 Q fun W'' e' => k W'' (e.trans e'))
  | false =>
    cases h2
    exact iteF (k W' e)
theorem jw_or {ma mb : Option Bool} (ha : JT S a Γ ma) (hb : JW S (.BoolOp .Or (b :: es) pos) Γ mb) : JW S (.BoolOp .Or (a :: b :: es) pos) Γ (ma.bind fun x => bif x then some true else mb) := fun σ W F st z hz Q k => by
  obtain ⟨x, h1, h2⟩ := run1 hz
  refine ⟨tOr (ttOf S a) (twOf S (.BoolOp .Or (b :: es) pos)), fun X hX => pw_or (ptO hX) (pwO hX), ha σ W F st x h1 _ fun W' e => ?_⟩
  cases x with
  | false => exact iteF (hb σ W' F (st.ext e) z h2 Q fun W'' e' => k W'' (e.trans e'))
  | true =>
    cases h2
    exact iteT (k W' e)
theorem jt_w {m : Option Bool} (h : JW S e Γ m) : JT S e Γ m := fun σ W F st z hz Q k => ⟨twOf S e, fun X hX => (pwO hX).pt, h σ W F st z hz Q k⟩
/-- as values: all True or False -/
theorem jn_one {op : BoolOp} {m : Option α} {R : α → OP} (h : JN S a Γ m R) : JN S (.BoolOp op [a] pos) Γ m R := fun σ W F st z hz Q k => ⟨tOf S a, fun X hX => pe_one (peO hX), h σ W F st z hz Q k⟩
theorem jn_and {ma mb : Option Bool} (ha : JN S a Γ ma fun z => sh (boolS z)) (hb : JN S (.BoolOp .And (b :: es) pos) Γ mb fun z => sh (boolS z)) :
    JN S (.BoolOp .And (a :: b :: es) pos) Γ (ma.bind fun x => bif x then mb else some false) fun z => sh (boolS z) := fun σ W F st z hz Q k => by
  obtain ⟨x, h1, h2⟩ := run1 hz
  refine ⟨tAndV (tOf S a) (tOf S (.BoolOp .And (b :: es) pos)), fun X hX => pe_and (peO hX) (peO hX), ha σ W F st x h1 _ fun v W' Fv e _ _ r => ⟨x, r.2, ?_⟩⟩
  cases x with
  | true => exact iteT (hb σ W' F (st.ext e) z h2 Q (k.ext e))
  | false =>
    cases h2
    exact iteF ((k.ext e).val e.ok rfl)
theorem jn_or {ma mb : Option Bool} (ha : JN S a Γ ma fun z => sh (boolS z)) (hb : JN S (.BoolOp .Or (b :: es) pos) Γ mb fun z => sh (boolS z)) :
    JN S (.BoolOp .Or (a :: b :: es) pos) Γ (ma.bind fun x => bif x then some true else mb) fun z => sh (boolS z) := fun σ W F st z hz Q k => by
  obtain ⟨x, h1, h2⟩ := run1 hz
  refine ⟨tOrV (tOf S a) (tOf S (.BoolOp .Or (b :: es) pos)), fun X hX => pe_or (peO hX) (peO hX), ha σ W F st x h1 _ fun v W' Fv e _ _ r => ⟨x, r.2, ?_⟩⟩
  cases x with
  | false => exact iteF (hb σ W' F (st.ext e) z h2 Q (k.ext e))
  | true =>
    cases h2
    exact iteT ((k.ext e).val e.ok rfl)
theorem jn_notV {m : Option Bool} (h : JN S e Γ m fun z => sh (boolS z)) : JN S (.UnaryOp .Not e pos) Γ (m.bind fun x => some (!x)) fun z => sh (boolS z) := fun σ W F st z hz Q k => by
  obtain ⟨x, h1, h2⟩ := run1 hz
  cases h2
  exact ⟨tNotV (tOf S e), fun X hX => pe_not (peO hX), h σ W F st x h1 _ fun v W' Fv e _ _ r => ⟨x, r.2, (k.ext e).val e.ok rfl⟩⟩
theorem jn_if {mc : Option Bool} {ma mb : Option α} {R : α → OP} (hc : JT S c Γ mc) (ha : JN S a Γ ma R) (hb : JN S b Γ mb R) : JN S (.IfExp c a b pos) Γ (mc.bind fun x => bif x then ma else mb) R := fun σ W F st z hz Q k => by
  obtain ⟨x, h1, h2⟩ := run1 hz
  refine ⟨tIf (ttOf S c) (tOf S a) (tOf S b), fun X hX => pe_ifExp (ptO hX) (peO hX) (peO hX), hc σ W F st x h1 _ fun W' e => ?_⟩
  cases x with
  | true => exact iteT (ha σ W' F (st.ext e) z h2 Q (k.ext e))
  | false => exact iteF (hb σ W' F (st.ext e) z h2 Q (k.ext e))
/-! ### arguments, displays, calls -/
theorem ja_nil : JA S [] Γ (some ()) fun _ => [] := fun σ W F st x hx Q k => ⟨tNil, fun _ _ => pa_nil, k [] W (Ext.refl st.ok) trivial⟩
theorem ja_cons {ma : Option α} {mb : Option β} {E : α → SP} {G : β → List SP} (ha : JN S e Γ ma fun x => sh (E x)) (hb : JA S es Γ mb G) (hs : ∀ env, starEach (e :: es) env = (false, eval e env) :: starEach es env := by intro _; rfl) :
    JA S (e :: es) Γ (ma.bind fun x => mb.bind fun y => some (x, y)) fun p => E p.1 :: G p.2 := fun σ W F st z hz Q k => by
  obtain ⟨x, y, h1, h2, h3⟩ := run2 hz
  cases h3
  refine ⟨tCons (tOf S e) (taOf S es), fun X hX => pa_cons (peO hX) (paO hX) (hs _), ?_⟩
  refine ha σ W F st x h1 _ fun v W1 F1 e1 _ _ r1 => ?_
  exact hb σ W1 F (st.ext e1) y h2 _ fun vs W2 e2 h => k (v :: vs) W2 (e1.trans e2) ⟨SP.mono _ r1.2 e2.b, h⟩
theorem jn_tup {m : Option α} {R : α → List SP} {p : SP → Prop} (h : JA S es Γ m R) {k : Nat} (hl : ∀ x, (R x).length ≤ 1000 := by intro _; decide) : JN S (.Tuple es k pos) Γ m fun x => sh (htupS (R x)) := fun σ W F st x hx Q kk =>
  ⟨tTup (taOf S es), fun X hX => pe_tup (paO hX), h σ W F st x hx _ fun vs W' e hh => by
    refine ⟨Nat.le_trans (by rw [hh.len]; exact hl x) (by decide), fun q hq => ?_⟩
    have e2 := Ext.newB e.ok (o := .tup vs) hq
    exact kk (.ref q) ⟨upd W'.H q (.tup vs), upd W'.B q (.tup vs)⟩ [] (e.trans e2) (fun _ h => (List.not_mem_nil h).elim) FpOk.nil ⟨rfl, q, vs, rfl, upd_same, hh.mono e2.b⟩⟩
/-- a call of a builtin by values -/
theorem jn_callB {x : Str} {id : String} {p : Pos} {r : List V → Hp → VK → Prop} {m : Option α} {G : α → List SP} {f : α → Option γ} {R : γ → OP} (hc : ∀ X, S.In X → CallR X (.builtin id) r)
    (hr : ∀ W x vs z, Ex W.B W.H → Hets W.B vs (G x) → f x = some z → ∀ Q : VK, Got (R z) W Q → r vs W.H Q) (hm : S.mg x = none) (ha : JA S (e :: es) Γ m G)
    (hg : GlS S x := by rfl) (hv : bootBuiltins x = some (.builtin id) := by decide +kernel) (hn : x ≠ "__name__" := by decide) (hdb : (x == ("__debug__" : Str)) = false := by decide)
    (he : ∀ env, starEach (e :: es) env = (false, eval e env) :: starEach es env := by intro _; rfl) (hpl : ∀ env, (backTo pos (starEach es env)).any (·.1) = false := by intro _; rfl) : JN S (.Call (.Name x p) (e :: es) [] pos) Γ (m.bind fun y => f y) R := fun σ W F st z hz Q k => by
  obtain ⟨y, h1, h2⟩ := run1 hz
  exact ⟨tCB r (taOf S (e :: es)), fun X hX => pe_callB (hc X hX) (hg.gl hX) (mgS hm hX) hv (paO hX) hn hdb (he _) (hpl _), ha σ W F st y h1 _ fun vs W' e hh => hr W' y vs z e.ok hh h2 Q (k.ext e)⟩
theorem jn_callTy {x : Str} {T : String} {p : Pos} {r : List V → Hp → VK → Prop} {m : Option α} {G : α → List SP} {f : α → Option γ} {R : γ → OP} (hc : ∀ X, S.In X → CallR X (.type T) r)
    (hr : ∀ W x vs z, Ex W.B W.H → Hets W.B vs (G x) → f x = some z → ∀ Q : VK, Got (R z) W Q → r vs W.H Q) (hm : S.mg x = none) (ha : JA S (e :: es) Γ m G)
    (hg : GlS S x := by rfl) (hv : bootBuiltins x = some (.type T) := by decide +kernel) (hn : x ≠ "__name__" := by decide) (hdb : (x == ("__debug__" : Str)) = false := by decide)
    (he : ∀ env, starEach (e :: es) env = (false, eval e env) :: starEach es env := by intro _; rfl) (hpl : ∀ env, (backTo pos (starEach es env)).any (·.1) = false := by intro _; rfl) : JN S (.Call (.Name x p) (e :: es) [] pos) Γ (m.bind fun y => f y) R := fun σ W F st z hz Q k => by
  obtain ⟨y, h1, h2⟩ := run1 hz
  exact ⟨tCB r (taOf S (e :: es)), fun X hX => pe_callTy (hc X hX) (hg.gl hX) (mgS hm hX) hv (paO hX) hn hdb (he _) (hpl _), ha σ W F st y h1 _ fun vs W' e hh => hr W' y vs z e.ok hh h2 Q (k.ext e)⟩
end
end CC
set_option maxHeartbeats 4000000
/-! Walks, comprehensions, loops, calls. -/
namespace CC
open PySem PySem.Spec L2
open PyProof.Rows hiding St
variable {α β γ δ τ ω ρ : Type}
/-- the length up to which lists are claimed -/
def LIM : Nat := 1000000
theorem lim_le {n : Nat} (h : n ≤ LIM) : n ≤ sizeLine := Nat.le_trans h (by decide)
theorem lim_lt {n : Nat} (h : n < LIM) : n < sizeLine := Nat.lt_of_lt_of_le h (by decide)
/-! ### walks -/
def ItOk (J : It) (C : Wd → Prop) (xs : List α) (E : α → SP) : Prop :=
  ∀ W1, C W1 → (∀ i x, xs[i]? = some x → J.go i W1.H ∧ ∀ v H', J.yld i W1.H v H' → ∃ W2, W2.H = H' ∧ Ext W1 W2 ∧ (E x).P W2.B v) ∧ ∀ i, xs.length ≤ i → J.stop i W1.H
def tiOf (S : Stc) (tg iter : Expr) : TI := fun σ H R => ∃ wi : TI, (∀ X, S.In X → PI X tg iter wi) ∧ wi σ H R
theorem piO {S : Stc} {X : Cx} {tg e : Expr} (h : S.In X) : PI X tg e (tiOf S tg e) := ⟨fun pins s σ H R I ⟨_, p, q⟩ => (p X h).run pins s σ H R I q⟩
/-- a walk over what is shared -/
def JI (S : Stc) (tg iter : Expr) (Γ : Ctx) (m : Option (List α)) (E : α → SP) : Prop :=
  ∀ σ W F, Sta Γ σ W F → ∀ xs, m = some xs → ∀ R : It → Hp → Prop, (∀ J W', Ext W W' → ItOk J (fun W1 => Ex W1.B W1.H ∧ Ex W'.B W1.B) xs E → R J W'.H) → tiOf S tg iter σ W.H R
/-- .. over what stands as it stands now -/
def JIc (S : Stc) (tg iter : Expr) (Γ : Ctx) (m : Option (List α)) (E : α → SP) : Prop :=
  ∀ σ W F, Sta Γ σ W F → ∀ xs, m = some xs → ∀ R : It → Hp → Prop, (∀ J W', Ext W W' → ItOk J (fun W1 => Ext W' W1) xs E → R J W'.H) → tiOf S tg iter σ W.H R
section
variable {S : Stc} {Γ Δ : Ctx} {a b c e tg iter elt : Expr} {es ifs : List Expr} {pos : Pos}
theorem jic_of {m : Option (List α)} {E : α → SP} (h : JI S tg iter Γ m E) : JIc S tg iter Γ m E := fun σ W F st xs hx R k => h σ W F st xs hx R fun J W' e ok => k J W' e fun W1 e1 => ok W1 ⟨e1.ok, e1.b⟩
theorem ok_list {K : PySem.W.Frag} {C : Wd → Prop} {p : Addr} {xs : List α} {E : α → SP} (h : ∀ W1, C W1 → Ex W1.B W1.H ∧ ∃ vs, W1.H p = some (.lst vs) ∧ Each E W1.B vs xs) : ItOk (Itl K p) C xs E := fun W1 c => by
  obtain ⟨ok, vs, h1, h2⟩ := h W1 c
  have hq : SqL K W1.H p vs := .inl (.inl h1)
  refine ⟨fun i x hx => ?_, fun i hi => ⟨vs, hq, by rw [h2.len]; exact hi⟩⟩
  obtain ⟨v, hv, pv⟩ := h2.get hx
  refine ⟨⟨vs, v, hq, hv⟩, fun u H' ⟨e1, e2⟩ => ⟨W1, e1.symm, Ext.refl ok, ?_⟩⟩
  have q := e2 vs hq
  rw [hv] at q
  cases q
  exact pv
theorem ok_tup {K : PySem.W.Frag} {C : Wd → Prop} {p : Addr} {xs : List α} {E : α → SP} (h : ∀ W1, C W1 → Ex W1.B W1.H ∧ ∃ vs, W1.H p = some (.tup vs) ∧ Each E W1.B vs xs) : ItOk (Itt K p) C xs E := fun W1 c => by
  obtain ⟨ok, vs, h1, h2⟩ := h W1 c
  have hq : SqT K W1.H p vs := .inl (.inl h1)
  refine ⟨fun i x hx => ?_, fun i hi => ⟨vs, hq, by rw [h2.len]; exact hi⟩⟩
  obtain ⟨v, hv, pv⟩ := h2.get hx
  refine ⟨⟨vs, v, hq, hv⟩, fun u H' ⟨e1, e2⟩ => ⟨W1, e1.symm, Ext.refl ok, ?_⟩⟩
  have q := e2 vs hq
  rw [hv] at q
  cases q
  exact pv
theorem ji_lst {m : Option (List α)} {E : α → SP} (h : JN S iter Γ m fun xs => sh (lstS E xs)) : JI S tg iter Γ m E := fun σ W F st xs hx R k => by
  refine ⟨iList S.K (tOf S iter), fun X hX => hX.K ▸ pi_list (peO hX), h σ W F st xs hx _ fun v W' Fv ext _ _ r => ?_⟩
  obtain ⟨_, a, vs, rfl, h2, h3⟩ := r
  refine ⟨a, rfl, ⟨vs, .inl (.inl (ext.ok a _ h2))⟩, k _ W' ext (ok_list fun W1 c => ⟨c.1, vs, c.1 a _ (c.2 a _ h2), h3.mono c.2⟩)⟩
theorem ji_tup {m : Option (List α)} {E : α → SP} (h : JN S iter Γ m fun xs => sh (tupS E xs)) : JI S tg iter Γ m E := fun σ W F st xs hx R k => by
  refine ⟨iTup S.K (tOf S iter), fun X hX => hX.K ▸ pi_tup (peO hX), h σ W F st xs hx _ fun v W' Fv ext _ _ r => ?_⟩
  obtain ⟨_, a, vs, rfl, h2, h3⟩ := r
  refine ⟨a, rfl, ⟨vs, .inl (.inl (ext.ok a _ h2))⟩, k _ W' ext (ok_tup fun W1 c => ⟨c.1, vs, c.1 a _ (c.2 a _ h2), h3.mono c.2⟩)⟩
theorem ji_scr {m : Option (List Int)} (h : JN S iter Γ m fun xs => sh (scrS S.K xs)) : JI S tg iter Γ m intS := fun σ W F st xs hx R k => by
  refine ⟨iList S.K (tOf S iter), fun X hX => hX.K ▸ pi_list (peO hX), h σ W F st xs hx _ fun v W' Fv ext _ _ r => ?_⟩
  obtain ⟨_, a, rfl, h2⟩ := r
  have mv : ∀ {B : Hp} {W1 : Wd}, SqL S.K B a (xs.map V.int) → Ex B W1.H → SqL S.K W1.H a (xs.map V.int) := fun {B W1} h e => by
    rcases h with (h | ⟨o, h⟩) | h
    · exact .inl (.inl (e _ _ h))
    · exact .inl (.inr ⟨o, e _ _ h⟩)
    · exact .inr h
  refine ⟨a, rfl, ⟨_, mv (W1 := W') h2 ext.ok⟩, k _ W' ext fun W1 c => ?_⟩
  have hq := mv (W1 := W1) h2 (c.2.trans c.1)
  refine ⟨fun i x hx => ?_, fun i hi => ⟨_, hq, by rw [List.length_map]; exact hi⟩⟩
  have hv : (xs.map V.int)[i]? = some (.int x) := by rw [List.getElem?_map, hx]; rfl
  refine ⟨⟨_, _, hq, hv⟩, fun u H' ⟨e1, e2⟩ => ⟨W1, e1.symm, Ext.refl c.1, ?_⟩⟩
  have q := e2 _ hq
  rw [hv] at q
  cases q
  rfl
/-- over a list of one's own, as it stands -/
theorem jic_own {m : Option (List α)} {E : α → SP} (h : JR S iter Γ m fun xs => lstO (fun x => sh (E x)) xs) : JIc S tg iter Γ m E := fun σ W F st xs hx R k => by
  refine ⟨iList S.K (tOf S iter), fun X hX => hX.K ▸ pi_list (peO hX), h σ W F st xs hx _ fun v W' ext ⟨F1, r, _⟩ => ?_⟩
  obtain ⟨a, vs, F2, rfl, h2, _, h4⟩ := r
  obtain ⟨_, h5⟩ := h4.each
  exact ⟨a, rfl, ⟨vs, .inl (.inl h2)⟩, k _ W' ext (ok_list fun W1 c => ⟨c.ok, vs, c.h a _ h2, h5.mono c.b⟩)⟩
/-- range -/
def rng (lo hi : Int) : Option (List Int) := if hi - lo ≤ LIM ∧ -LIM ≤ lo ∧ lo ≤ LIM ∧ -LIM ≤ hi ∧ hi ≤ LIM then some ((List.range (hi - lo).toNat).map fun i : Nat => lo + (i : Int)) else none
theorem ok_rng {lo : Int} {n : Nat} {C : Wd → Prop} (hC : ∀ W1, C W1 → Ex W1.B W1.H) : ItOk (Itr lo n) C ((List.range n).map fun i : Nat => lo + (i : Int)) intS := fun W1 c => by
  refine ⟨fun i x hx => ?_, fun i hi => by
    show n ≤ i
    simpa using hi⟩
  have hi : i < n := by
    have := (List.getElem?_eq_some_iff.mp hx).1
    simpa using this
  have e : lo + (i : Int) = x := by
    rw [List.getElem?_map, List.getElem?_range hi] at hx
    exact Option.some.inj hx
  exact ⟨hi, fun v H' ⟨e1, e2⟩ => ⟨W1, e1.symm, Ext.refl (hC W1 c), by rw [e2, e]; rfl⟩⟩
theorem ji_rng1 {p : Pos} {m : Option Int} (hm : S.mg "range" = none) (h : JN S a Γ m fun x => sh (intS x)) (hg : GlS S "range" := by rfl) (hs : ∀ env, starEach [a] env = [(false, eval a env)] := by intro _; rfl) :
    JI S tg (.Call (.Name "range" p) [a] [] pos) Γ (m.bind fun n => rng 0 n) intS := fun σ W F st xs hx R k => by
  obtain ⟨n, h1, h2⟩ := run1 hx
  unfold rng at h2
  split at h2
  · rename_i hb
    cases h2
    refine ⟨iRng1 (tCons (tOf S a) tNil), fun X hX => pi_range1 (hg.gl hX) (mgS hm hX) (pa_cons (peO hX) pa_nil (hs _)) (hs _), h σ W F st n h1 _ fun v W' Fv ext _ _ r => ?_⟩
    obtain ⟨_, rfl⟩ := r
    have z : (LIM : Int) = 1000000 := rfl
    refine ⟨n, rfl, by omega, by omega, ?_⟩
    have e : (n - 0).toNat = n.toNat := by rw [Int.sub_zero]
    rw [← e]
    exact k _ W' ext (ok_rng fun W1 c => c.1)
  · cases h2
theorem ji_rng2 {p : Pos} {m m' : Option Int} (hm : S.mg "range" = none) (h : JN S a Γ m fun x => sh (intS x)) (h' : JN S b Γ m' fun x => sh (intS x)) (hg : GlS S "range" := by rfl) (hs : ∀ env, starEach [a, b] env = [(false, eval a env), (false, eval b env)] := by intro _; rfl)
    (hs2 : ∀ env, starEach [b] env = [(false, eval b env)] := by intro _; rfl) : JI S tg (.Call (.Name "range" p) [a, b] [] pos) Γ (m.bind fun lo => m'.bind fun hi => rng lo hi) intS := fun σ W F st xs hx R k => by
  obtain ⟨lo, hi, h1, h1', h2⟩ := run2 hx
  unfold rng at h2
  split at h2
  · rename_i hb
    cases h2
    refine ⟨iRng2 (tCons (tOf S a) (tCons (tOf S b) tNil)), fun X hX => pi_range2 (hg.gl hX) (mgS hm hX) (pa_cons (peO hX) (pa_cons (peO hX) pa_nil (hs2 _)) ((hs _).trans (by rw [hs2]))) (hs _) (hs2 _), h σ W F st lo h1 _ fun v W1 Fv ext _ _ r => ?_⟩
    obtain ⟨_, rfl⟩ := r
    refine h' σ W1 F (st.ext ext) hi h1' _ fun v W2 Fv ext2 _ _ r => ?_
    obtain ⟨_, rfl⟩ := r
    have z : (LIM : Int) = 1000000 := rfl
    exact ⟨lo, hi, rfl, by omega, k _ W2 (ext.trans ext2) (ok_rng fun W1 c => c.1)⟩
  · cases h2
/-! ### targets -/
def tgOf (S : Stc) (tg : Expr) : TG := fun v σ H Q => ∃ g : TG, (∀ X, S.In X → PG X tg g) ∧ g v σ H Q
theorem pgO {S : Stc} {X : Cx} {tg : Expr} (h : S.In X) : PG X tg (tgOf S tg) := ⟨fun pins s σ H v u Q I r ⟨_, p, q⟩ => (p X h).run pins s σ H v u Q I r q⟩
/-- a target that stores into the slots ws -/
def JG (S : Stc) (tg : Expr) (E : α → SP) (up : α → Ctx → Ctx) (ws : List Nat) : Prop :=
  ∀ Γ σ W F x v, Sta Γ σ W F → (∀ i ∈ ws, i < Γ.length) → (E x).P W.B v → ∀ Q : L2.St → Hp → Prop, (∀ σ' F', (∀ vs : List Nat, (∀ i ∈ ws, i ∈ vs) → wipe σ' vs = wipe σ vs) → Keep S.prot σ σ' → Sta (up x Γ) σ' W F' → (∀ a ∈ F', a ∈ F) → Q σ' W.H) → tgOf S tg v σ W.H Q
theorem wipe_set {i : Nat} {x : Option V} : ∀ {vs : List Nat} {σ : L2.St}, i ∈ vs → wipe (σ.set i x) vs = wipe σ vs
  | [], _, h => by simp at h
  | v :: vs, σ, h => by
    show (wipe (σ.set i x) vs).set v none = (wipe σ vs).set v none
    by_cases hi : i ∈ vs
    · rw [wipe_set hi]
    · have e : i = v := by simpa [hi] using h
      subst e
      have go : ∀ (ws : List Nat) (σ : L2.St), i ∉ ws → wipe (σ.set i x) ws = (wipe σ ws).set i x := by
        intro ws
        induction ws with
        | nil => intro σ _; rfl
        | cons w ws ih =>
          intro σ hn
          have h1 : w ≠ i := fun z => hn (z ▸ List.mem_cons_self)
          show (wipe (σ.set i x) ws).set w none = ((wipe σ ws).set w none).set i x
          rw [ih σ fun z => hn (List.mem_cons_of_mem _ z), List.set_comm _ _ h1.symm]
      rw [go vs σ hi, List.set_set]
theorem set_keeps {Γ : Ctx} {σ : L2.St} {W : Wd} {F : List Addr} {i : Nat} {p : SP} {v : V} (st : Sta Γ σ W F) (hi : i < Γ.length) (h : p.P W.B v) : ∃ F', Sta (Γ.set i (some (sh p))) (σ.set i (some v)) W F' ∧ ∀ a ∈ F', a ∈ F := by
  obtain ⟨F', s', sub⟩ := st.put (o := sh p) (F1 := []) hi ⟨rfl, h⟩ (by rw [List.append_nil]; exact st.fp)
  exact ⟨F', s', fun a ha => by simpa using sub a ha⟩
theorem jg_name {E : α → SP} {x : Str} {pos : Pos} (i : Nat) (nd : S.N.Nodup) (hN : S.N[i]? = some x := by rfl) (hx : Loc S.sc x := by first | exact Or.inl rfl | exact Or.inr rfl) (hp : (S.prot.contains i) = false := by rfl)
    (hf : S.fn x = true ∨ S.sc.names.lookup x = some .local := by first | exact .inl rfl | exact .inr rfl) : JG S (.Name x pos) E (fun a Γ => Γ.set i (some (sh (E a)))) [i] := fun Γ σ W F y v st hl h Q k => by
  refine ⟨gName i, fun X hX => pg_name (by rw [hX.N]; exact nd) (by rw [hX.N]; exact hN) (locS hx hX) (by rw [hX.fn, hX.sc]; exact hf), ?_⟩
  obtain ⟨F', s', sub⟩ := set_keeps st (hl i (by simp)) h
  exact k _ F' (fun vs hv => wipe_set (hv i (by simp))) (Keep.set (ncon hp)) s' sub
/-- a name that is not read any more -/
theorem jg_pair {E : α → SP} {G : β → SP} {x y : Str} {pos p1 p2 : Pos} {k : Nat} (i j : Nat) (nd : S.N.Nodup) (hN : S.N[i]? = some x := by rfl) (hM : S.N[j]? = some y := by rfl) (hx : Loc S.sc x := by first | exact Or.inl rfl | exact Or.inr rfl) (hy : Loc S.sc y := by first | exact Or.inl rfl | exact Or.inr rfl)
    (hp : (S.prot.contains i) = false := by rfl) (hq : (S.prot.contains j) = false := by rfl) (hf : S.fn x = true ∨ S.sc.names.lookup x = some .local := by first | exact .inl rfl | exact .inr rfl) (hf2 : S.fn y = true ∨ S.sc.names.lookup y = some .local := by first | exact .inl rfl | exact .inr rfl)
    (hs : ∀ env, (assignEach [Expr.Name x p1, .Name y p2] env).map (·.2) = assign (.Name x p1) env :: (assignEach [Expr.Name y p2] env).map (·.2) := by intro _; rfl) (hs2 : ∀ env, (assignEach [Expr.Name y p2] env).map (·.2) = assign (.Name y p2) env :: (assignEach [] env).map (·.2) := by intro _; rfl)
    (hn : ∀ env, (assignEach [Expr.Name x p1, .Name y p2] env).length = 2 := by intro _; rfl) (hst : ∀ env, (assignEach [Expr.Name x p1, .Name y p2] env).findIdx? (·.1) = none := by intro _; rfl) :
    JG S (.Tuple [.Name x p1, .Name y p2] k pos) (prS E G) (fun a Γ => (Γ.set i (some (sh (E a.1)))).set j (some (sh (G a.2)))) [i, j] := fun Γ σ W F q v st hl h Q kk => by
  refine ⟨gTup S.K 2 (gCons (gName i) (gCons (gName j) gNil)), fun X hX => hX.K ▸ pg_tup hX.calm (pgs_cons (pg_name (by rw [hX.N]; exact nd) (by rw [hX.N]; exact hN) (locS hx hX) (by rw [hX.fn, hX.sc]; exact hf)) (pgs_cons (pg_name (by rw [hX.N]; exact nd) (by rw [hX.N]; exact hM) (locS hy hX) (by rw [hX.fn, hX.sc]; exact hf2)) pgs_nil (hs2 _)) (hs _)) (hn _) (hst _), ?_⟩
  obtain ⟨a, vs, rfl, h2, h3⟩ := h
  match vs, h3 with
  | [u, w], ⟨p1, p2, _⟩ =>
    refine ⟨a, [u, w], rfl, .inl (.inl (st.ok a _ h2)), rfl, u, [w], rfl, w, [], rfl, rfl, ?_⟩
    obtain ⟨F1, s1, sub1⟩ := set_keeps st (hl i (by simp)) p1
    obtain ⟨F2, s2, sub2⟩ := set_keeps s1 (by rw [List.length_set]; exact hl j (by simp)) p2
    refine kk _ F2 (fun vs hv => ?_) ((Keep.set (ncon hp)).trans (Keep.set (ncon hq))) s2 fun b hb => sub1 b (sub2 b hb)
    rw [wipe_set (hv j (by simp)), wipe_set (hv i (by simp))]
/-! ### comprehensions -/
/-- the items that pass, turned -/
def compGo (t : α → Option Bool) (f : α → Option β) : List α → Option (List β)
  | [] => some []
  | x :: xs => (t x).bind fun b => bif b then (f x).bind fun y => (compGo t f xs).bind fun ys => some (y :: ys) else compGo t f xs
def compM (t : α → Option Bool) (f : α → Option β) (xs : List α) : Option (List β) := if xs.length ≤ LIM then compGo t f xs else none
def mapGo (f : α → Option β) : List α → Option (List β)
  | [] => some []
  | x :: xs => (f x).bind fun y => (mapGo f xs).bind fun ys => some (y :: ys)
def mapM (f : α → Option β) (xs : List α) : Option (List β) := if xs.length ≤ LIM then mapGo f xs else none
theorem compGo_yes (f : α → Option β) : ∀ xs : List α, compGo (fun _ => some true) f xs = mapGo f xs
  | [] => rfl
  | x :: xs => by
    show (f x).bind _ = (f x).bind _
    rw [compGo_yes f xs]
def ttsOf (S : Stc) (ifs : List Expr) : TT := fun σ H Q => ∃ t : TT, (∀ X, S.In X → PTs X ifs t) ∧ t σ H Q
theorem ptsO {S : Stc} {X : Cx} {ifs : List Expr} (h : S.In X) : PTs X ifs (ttsOf S ifs) := ⟨fun pins s σ H Q I ⟨_, p, q⟩ => (p X h).run pins s σ H Q I q⟩
def JTs (S : Stc) (ifs : List Expr) (Γ : Ctx) (m : Option Bool) : Prop :=
  ∀ σ W F, Sta Γ σ W F → ∀ b, m = some b → ∀ Q : Bool → Hp → Prop, (∀ W', Ext W W' → Q b W'.H) → ttsOf S ifs σ W.H Q
theorem jts_nil : JTs S [] Γ (some true) := fun σ W F st b hb Q k => by
  cases hb
  exact ⟨tYes, fun _ _ => pts_nil, k W (Ext.refl st.ok)⟩
theorem jts_one {m : Option Bool} (h : JT S c Γ m) : JTs S [c] Γ m := fun σ W F st b hb Q k => ⟨ttOf S c, fun X hX => pts_one (ptO hX), h σ W F st b hb Q k⟩
/-- the block's own slots forgotten -/
def wipeC (Γ : Ctx) : List Nat → Ctx
  | [] => Γ
  | v :: vs => (wipeC Γ vs).set v none
theorem wipeC_len (Γ : Ctx) : ∀ vs, (wipeC Γ vs).length = Γ.length
  | [] => rfl
  | v :: vs => by
    show ((wipeC Γ vs).set v none).length = _
    rw [List.length_set, wipeC_len Γ vs]
theorem Holds.wipe1 {W : Wd} : ∀ {Γ : Ctx} {σ : L2.St} {F : List Addr} (i : Nat), Holds Γ σ W F → ∃ F' G, Holds (Γ.set i none) (σ.set i none) W F' ∧ F.Perm (F' ++ G)
  | [], σ, F, i, h => ⟨[], F, rfl, .refl _⟩
  | none :: Γ, σ, F, 0, h => ⟨F, [], by
      show Holds Γ (σ.set 0 none).tail W F
      cases σ <;> exact h, by rw [List.append_nil]⟩
  | some o :: Γ, σ, F, 0, ⟨v, F1, F2, h1, h2, h3, h4⟩ => ⟨F2, F1, by
      show Holds Γ (σ.set 0 none).tail W F2
      cases σ <;> exact h4, by subst h2; exact List.perm_append_comm⟩
  | none :: Γ, σ, F, i + 1, h => by
    cases σ with
    | nil =>
      obtain ⟨F', G, a1, a2⟩ := Holds.wipe1 (Γ := Γ) (σ := []) i h
      exact ⟨F', G, a1, a2⟩
    | cons s σ =>
      obtain ⟨F', G, a1, a2⟩ := Holds.wipe1 (Γ := Γ) (σ := σ) i h
      exact ⟨F', G, a1, a2⟩
  | some o :: Γ, σ, F, i + 1, ⟨v, F1, F2, h1, h2, h3, h4⟩ => by
    cases σ with
    | nil => simp at h1
    | cons s σ =>
      obtain ⟨F', G, a1, a2⟩ := Holds.wipe1 (Γ := Γ) (σ := σ) i h4
      subst h2
      refine ⟨F1 ++ F', G, ⟨v, F1, F', h1, rfl, h3, a1⟩, ?_⟩
      rw [List.append_assoc]
      exact List.Perm.append_left F1 a2
theorem Sta.wipe {Γ : Ctx} {σ : L2.St} {W : Wd} {F : List Addr} (st : Sta Γ σ W F) : ∀ vs : List Nat, ∃ F', Sta (wipeC Γ vs) (L2.wipe σ vs) W F' ∧ ∀ a ∈ F', a ∈ F
  | [] => ⟨F, st, fun _ h => h⟩
  | v :: vs => by
    obtain ⟨F1, s1, sub1⟩ := st.wipe vs
    obtain ⟨F', G, a1, a2⟩ := s1.hold.wipe1 v
    exact ⟨F', ⟨st.ok, (s1.fp.perm a2).left, by
      show ((L2.wipe σ vs).set v none).length = ((wipeC Γ vs).set v none).length
      rw [List.length_set, List.length_set]; exact s1.len, a1⟩, fun a h => sub1 a (a2.mem_iff.mpr (List.mem_append_left _ h))⟩
/-- a comprehension's parts, and its reading -/
def JC (S : Stc) (elt tg iter : Expr) (ifs : List Expr) (scope : Scope) (Γ : Ctx) (m : Option α) (R : α → OP) : Prop :=
  ∃ own : List (Str × Nat), BlkOk S.N S.sc scope own ∧ ∀ σ W F, Sta Γ σ W F → ∀ x, m = some x → ∀ Q : VK, Got (R x) W Q → tLc (tiOf S tg iter) (tgOf (S.blk scope) tg) (ttsOf (S.blk scope) ifs) (tOf (S.blk scope) elt) (own.map (·.2)) σ W.H Q
theorem jn_lc {scope : Scope} {m : Option α} {R : α → OP} (nd : S.N.Nodup) (h : JC S elt tg iter ifs scope Γ m R) (hs : ∀ env x, foldedSetIterable iter env x = pure x := by intro _ _; rfl) : JN S (.ListComp elt [⟨tg, iter, ifs, 0⟩] scope pos) Γ m R := fun σ W F st x hx Q k => by
  obtain ⟨own, ok, go⟩ := h
  exact ⟨_, fun X hX => pe_lc hX.calm (by rw [hX.N]; exact nd) (piO hX) (by rw [hX.N, hX.sc]; exact ok) (fun s H C cl fp => pgO (hX.blk scope s H C cl fp)) (fun s H C cl fp => ptsO (hX.blk scope s H C cl fp)) (fun s H C cl fp => peO (hX.blk scope s H C cl fp)) (hs _), go σ W F st x hx Q k⟩
theorem compGo_len {t : α → Option Bool} {f : α → Option β} : ∀ {xs : List α} {ys : List β}, compGo t f xs = some ys → ys.length ≤ xs.length
  | [], ys, h => by cases h; exact Nat.le_refl _
  | x :: xs, ys, h => by
    obtain ⟨b, h1, h2⟩ := run1 (f := fun b => bif b then (f x).bind fun y => (compGo t f xs).bind fun ys => some (y :: ys) else compGo t f xs) h
    cases b with
    | true =>
      obtain ⟨y, ys', h3, h4, h5⟩ := run2 (f := fun y ys => some (y :: ys)) h2
      cases h5
      exact Nat.succ_le_succ (compGo_len h4)
    | false => exact Nat.le_succ_of_le (compGo_len (xs := xs) h2)
/-- the block's turns, over a walk -/
theorem jc_of {scope : Scope} {mi : Option (List α)} {E : α → SP} {up : α → Ctx → Ctx} {ws : List Nat} {mt : α → Option Bool} {me : α → Option β} {R : β → OP} (own : List (Str × Nat)) (hi : JIc S tg iter Γ mi E) (ok : blkC S.N S.sc scope own = true) (hg : JG (S.blk scope) tg E up ws)
    (hw : ∀ i ∈ ws, i ∈ own.map (·.2)) (hl : ∀ i ∈ ws, i < Γ.length) (ht : ∀ x, JTs (S.blk scope) ifs (up x (wipeC Γ (own.map (·.2)))) (mt x)) (he : ∀ x, JN (S.blk scope) elt (up x (wipeC Γ (own.map (·.2)))) (me x) R) :
    JC S elt tg iter ifs scope Γ (mi.bind fun xs => compM mt me xs) fun ys => lstO R ys := by
  refine ⟨own, blkOk_by ok, fun σ W F st ys hx Q k => ?_⟩
  obtain ⟨xs, h1, h2⟩ := run1 hx
  unfold compM at h2
  split at h2
  · rename_i hlen
    refine hi σ W F st xs h1 _ fun J W' ext iok => fun D hD => ?_
    have st' := st.ext ext
    -- the invariant: what is made so far, what is left
    refine ⟨fun i m H => m = xs.length - i ∧ i ≤ xs.length ∧ ∃ (W1 : Wd) (acc : List V) (as : List β) (bs : List β) (Fa : List Addr), W1.H = H ∧ Ext W' W1 ∧ W1.H D = some (.lst acc) ∧ W1.B D = none ∧ as.length ≤ i ∧
      compGo mt me (xs.drop i) = some bs ∧ as ++ bs = ys ∧ Owns R W1 acc as Fa ∧ FpOk W1 Fa ∧ D ∉ Fa ∧ ∀ a ∈ Fa, W'.H a = none, ⟨xs.length, by simp, Nat.zero_le _, ⟨upd W'.H D (.lst []), W'.B⟩, [], [], ys, [], rfl, Ext.new ext.ok hD, upd_same, ext.ok.back hD, Nat.le_refl _, by simpa using h2, rfl, rfl, FpOk.nil, by simp, by simp⟩, ?_⟩
    rintro i m H ⟨rfl, hi', W1, acc, as, bs, Fa, rfl, e1, d1, d2, la, c1, c2, o1, o2, o3, o4⟩
    obtain ⟨iok1, iok2⟩ := iok W1 e1
    by_cases hlt : i < xs.length
    · obtain ⟨g1, g2⟩ := iok1 i xs[i] (List.getElem?_eq_getElem hlt)
      refine .inr ⟨g1, fun H' => ∃ m', m' < xs.length - i ∧ (m' = xs.length - (i + 1) ∧ i + 1 ≤ xs.length ∧ ∃ (W1 : Wd) (acc : List V) (as : List β) (bs : List β) (Fa : List Addr), W1.H = H' ∧ Ext W' W1 ∧ W1.H D = some (.lst acc) ∧ W1.B D = none ∧ as.length ≤ i + 1 ∧
        compGo mt me (xs.drop (i + 1)) = some bs ∧ as ++ bs = ys ∧ Owns R W1 acc as Fa ∧ FpOk W1 Fa ∧ D ∉ Fa ∧ ∀ a ∈ Fa, W'.H a = none), fun H' h => h, fun v H' y => ?_⟩
      obtain ⟨W2, rfl, e2, p2⟩ := g2 v H' y
      have hDrop : xs.drop i = xs[i] :: xs.drop (i + 1) := List.drop_eq_getElem_cons hlt
      rw [hDrop] at c1
      obtain ⟨b, t1, t2⟩ := run1 (f := fun b => bif b then (me xs[i]).bind fun y => (compGo mt me (xs.drop (i + 1))).bind fun ys => some (y :: ys) else compGo mt me (xs.drop (i + 1))) c1
      obtain ⟨Fw, sw, subw⟩ := (st'.ext (e1.trans e2)).wipe (own.map (·.2))
      refine hg _ _ W2 Fw xs[i] v sw (fun j hj => by rw [wipeC_len]; exact hl j hj) p2 _ fun σ2 F2 wp _ s2 sub2 => ⟨?_, ?_⟩
      · rw [wp _ hw]
        exact wipe_wipe σ (own.map (·.2))
      refine ht xs[i] σ2 W2 F2 s2 b t1 _ fun W3 e3 => ?_
      have eAll : Ext W1 W3 := e2.trans e3
      cases b with
      | true =>
        obtain ⟨y1, ys1, t3, t4, t5⟩ := run2 (f := fun y ys => some (y :: ys)) t2
        cases t5
        refine iteT (he xs[i] σ2 W3 F2 (s2.ext e3) y1 t3 _ fun u W4 Fu e4 fr4 fp4 r4 => ?_)
        have eA : Ext W1 W4 := eAll.trans e4
        have hD4 : W4.H D = some (.lst acc) := eA.h D _ d1
        have hB4 : W4.B D = none := eA.fr D (by rw [d1]; exact fun z => nomatch z) d2
        have ha4 : acc.length < LIM := by
          have := o1.len
          omega
        refine ⟨acc, hD4, lim_lt ha4, xs.length - (i + 1), by omega, rfl, hlt, ⟨upd W4.H D (.lst (acc ++ [u])), W4.B⟩, acc ++ [u], as ++ [y1], ys1, Fa ++ Fu, rfl, ?_, upd_same, hB4, ?_, t4, by rw [List.append_assoc]; exact c2, ?_, ?_, ?_, ?_⟩
        · have q := e1.trans eA
          refine ⟨fun a o h => ?_, fun a o h => ?_, q.b, q.fr⟩
          · have z : a ≠ D := fun z => by
              rw [z] at h
              rw [show W4.B D = some o from h] at hB4
              cases hB4
            show upd W4.H D _ a = some o
            rw [upd_ne z]
            exact q.ok a o h
          · show upd W4.H D _ a = some o
            rw [upd_ne (ne_of_none h hD)]
            exact q.h a o h
        · rw [List.length_append, List.length_singleton]
          omega
        · have nD : ∀ a ∈ Fa ++ Fu, a ≠ D := fun a ha z => by
            rcases List.mem_append.mp ha with h | h
            · exact o3 (z ▸ h)
            · have q := e3.h.back (fr4 a h)
              rw [z] at q
              have q2 := e2.h.back q
              rw [d1] at q2
              cases q2
          have A1 : Owns R W4 acc as Fa := o1.loc eA.b fun a ha => eA.h.eq (o2.al a ha)
          have A2 : Owns R W4 [u] [y1] Fu := ⟨Fu, [], (List.append_nil _).symm, r4, rfl⟩
          have A3 : Owns R W4 (acc ++ [u]) (as ++ [y1]) (Fa ++ Fu) := A1.app A2
          refine Owns.loc (W := W4) (W' := ⟨upd W4.H D (.lst (acc ++ [u])), W4.B⟩) (fun _ _ h => h) A3 fun a ha => ?_
          show upd W4.H D (.lst (acc ++ [u])) a = W4.H a
          exact upd_ne (nD a ha)
        · have fpA : FpOk W4 (Fa ++ Fu) := (o2.ext eAll).fresh e4 fp4 fr4
          refine ⟨fpA.nd, fun a ha => ?_, fpA.fr⟩
          show upd W4.H D _ a ≠ none
          by_cases z : a = D
          · rw [z, upd_same]
            exact fun z => nomatch z
          · rw [upd_ne z]
            exact fpA.al a ha
        · intro h
          rcases List.mem_append.mp h with h | h
          · exact o3 h
          · have q := e3.h.back (fr4 D h)
            have q2 := e2.h.back q
            rw [d1] at q2
            cases q2
        · intro a ha
          rcases List.mem_append.mp ha with h | h
          · exact o4 a h
          · exact (e1.trans eAll).h.back (fr4 a h)
      | false =>
        refine iteF ⟨xs.length - (i + 1), by omega, rfl, hlt, W3, acc, as, bs, Fa, rfl, e1.trans eAll, eAll.h D _ d1, eAll.fr D (by rw [d1]; exact fun z => nomatch z) d2, by omega, t2, c2, o1.loc eAll.b fun a ha => eAll.h.eq (o2.al a ha), o2.ext eAll, o3, o4⟩
    · have ei : i = xs.length := by omega
      subst ei
      rw [List.drop_length] at c1
      cases c1
      rw [List.append_nil] at c2
      subst c2
      refine .inl ⟨iok2 _ (Nat.le_refl _), k (.ref D) W1 (D :: Fa) (ext.trans e1) (fun a ha => ?_) ?_ ⟨D, acc, Fa, rfl, d1, rfl, o1⟩⟩
      · rcases List.mem_cons.mp ha with z | z
        · rw [z]; exact ext.h.back hD
        · exact ext.h.back (o4 a z)
      · refine ⟨List.nodup_cons.mpr ⟨o3, o2.nd⟩, fun a ha => ?_, fun a ha => ?_⟩
        · rcases List.mem_cons.mp ha with z | z
          · rw [z, d1]; exact fun z => nomatch z
          · exact o2.al a z
        · rcases List.mem_cons.mp ha with z | z
          · rw [z]; exact d2
          · exact o2.fr a z
  · cases h2
where
  wipe_wipe (σ : L2.St) : ∀ vs : List Nat, L2.wipe (L2.wipe σ vs) vs = L2.wipe σ vs := by
    intro vs
    have go : ∀ (us : List Nat), (∀ i ∈ us, i ∈ vs) → L2.wipe (L2.wipe σ us) vs = L2.wipe σ vs := by
      intro us
      induction us with
      | nil => intro _; rfl
      | cons u us ih =>
        intro h
        show L2.wipe ((L2.wipe σ us).set u none) vs = _
        rw [wipe_set (h u List.mem_cons_self)]
        exact ih fun i hi => h i (List.mem_cons_of_mem _ hi)
    exact go vs fun _ h => h
end
end CC
set_option maxHeartbeats 4000000
/-! Statements, loops, defs. -/
namespace CC
open PySem PySem.Spec L2
open PyProof.Rows hiding St
variable {α β γ δ τ ω ρ υ : Type}
/-! ### a def's promise -/
def spP (G : α → List SP) (fM : α → Option ρ) (R : ρ → OP) : Sp := fun vs H Q _ => ∃ x W r, W.H = H ∧ Ex W.B W.H ∧ Hets W.B vs (G x) ∧ fM x = some r ∧ Got (R r) W Q
/-- the first argument is owned, and changed -/
def spS (O : τ → OP) (G : α → List SP) (fM : α → τ → Option (ρ × τ)) (R : ρ → OP) : Sp := fun vs H Q _ => ∃ x s W F v0 vr r, vs = v0 :: vr ∧ W.H = H ∧ Ex W.B W.H ∧ FpOk W F ∧ (O s).C W v0 F ∧ Hets W.B vr (G x) ∧ fM x s = some r ∧
  ∀ v W' F' Fv, Stp W F W' (F' ++ Fv) → FpOk W' (F' ++ Fv) → (O r.2).C W' v0 F' → (R r.1).C W' v Fv → Q v W'.H
section
variable {S : Stc} {Γ Δ : Ctx} {a b c e tg iter elt : Expr} {es ifs : List Expr} {pos : Pos} {st : Stmt} {rest A B : List Stmt}
theorem passE0 {X : Cx} : Passes CX0 X E0 := fun _ _ _ _ _ _ _ h => h.elim
theorem bindsS {S : Stc} {X : Cx} {fd : FuncData} {ps : List Str} {ds : List Value} (h : S.In X) (b : Binds S.K fd ps ds) : Binds X.K fd ps ds := by rw [h.K]; exact b
theorem jn_call {x : Str} {p : Pos} {f : Addr} {fd : FuncData} {ps : List Str} {k : Nat} {G : α → List SP} {fM : α → Option ρ} {R : ρ → OP} {m : Option α} (Fn : FnOk S.P S.w S.K S.mg S.base CX0 k f fd ps (spP G fM R)) (hm : S.mg x = some (.ref f)) (kp : PySem.W.keepIn S.K (.ref f) = true) (hb : Binds S.K fd ps [])
    (hk : k ≤ S.k) (ha : JA S (e :: es) Γ m G) (hg : GlS S x := by rfl) (hdb : (x == ("__debug__" : Str)) = false := by decide) (he : ∀ env, starEach (e :: es) env = (false, eval e env) :: starEach es env := by intro _; rfl) (hpl : ∀ env, (backTo pos (starEach es env)).any (·.1) = false := by intro _; rfl) :
    JN S (.Call (.Name x p) (e :: es) [] pos) Γ (m.bind fun y => fM y) R := fun σ W F st z hz Q kk => by
  obtain ⟨y, h1, h2⟩ := run1 hz
  refine ⟨tCall (spP G fM R) [] E0 (taOf S (e :: es)), fun X hX => pe_call (fnokS Fn hX) (hX.room.mono hk) (hg.gl hX) (mgS hm hX) (by rw [hX.K]; exact kp) (bindsS hX hb) .nil passE0 (paO hX) hdb (he _) (hpl _), ha σ W F st y h1 _ fun vs W' ext hh => ?_⟩
  show spP G fM R (vs ++ []) W'.H Q E0
  rw [List.append_nil]
  exact ⟨y, W', z, rfl, ext.ok, hh, h2, kk.ext ext⟩
/-! ### statements -/
def NoNx : Kd → Prop
  | .nx _ => False
  | _ => True
theorem jb_one {m : Option ω} {D : ω → Kd} (h : JS S st Γ m D) : JB S [st] Γ m D := fun σ W F sta x hx E k => ⟨tsOf S st, fun X hX => pss_one (psO hX), h σ W F sta x hx E k⟩
/-- the end of a block that falls through -/
theorem jb_nil {x : ω} {D : ω → Kd} (hD : D x = .nx Δ) (w : Weak Γ Δ) : JB S [] Γ (some x) D := fun σ W F sta y hy E k => by
  cases hy
  obtain ⟨F', s', sub⟩ := sta.weak w
  rw [hD] at k
  exact ⟨tNext, fun _ _ => pss_nil, k σ W F' Keep.refl ((Stp.refl sta.ok).perm sub) s'⟩
theorem post_nox {prot : List Nat} {σ : L2.St} {W : Wd} {F : List Addr} {E : Ends} {N : L2.St → Hp → Prop} {k : Kd} (h : Post prot σ W F E k) (n : NoNx k) : Post prot σ W F { E with nx := N } k := by
  cases k with
  | nx Γ => exact n.elim
  | bk Γ => exact h
  | ct Γ => exact h
  | rt Γ R => exact h
/-- one statement, then the rest -/
theorem jb_cons {ms : Option α} {Ds : α → Ctx} {mr : α → Option ω} {D : ω → Kd} (h : JS S st Γ ms fun x => .nx (Ds x)) (hr : ∀ x, JB S rest (Ds x) (mr x) D) : JB S (st :: rest) Γ (ms.bind fun x => mr x) D := fun σ W F sta z hz E k => by
  obtain ⟨x, h1, h2⟩ := run1 hz
  refine ⟨tSeq (tsOf S st) (tbOf S rest), fun X hX => pss_cons (psO hX) (pbO hX), ?_⟩
  exact h σ W F sta x h1 { E with nx := tbOf S rest E } fun σ' W' F' kp stp sta' => hr x σ' W' F' sta' z h2 E (k.before kp stp)
/-- an if whose branch never falls through -/
theorem jb_ifx {mc : Option Bool} {ma : Option υ} {mr : Option ω} {D : ω → Kd} {D' : υ → Kd} (ι : υ → ω) (hc : JT S c Γ mc) (ha : JB S A Γ ma D') (hι : ∀ x, D (ι x) = D' x) (hn : ∀ x, NoNx (D' x)) (hr : JB S rest Γ mr D) :
    JB S (.If c A [] pos :: rest) Γ (mc.bind fun b => bif b then ma.bind fun x => some (ι x) else mr) D := fun σ W F sta z hz E k => by
  obtain ⟨x, h1, h2⟩ := run1 hz
  refine ⟨tSeq (tIfS (ttOf S c) (tbOf S A) tNext) (tbOf S rest), fun X hX => pss_cons (ps_if (ptO hX) (pbO hX) pss_nil) (pbO hX), ?_⟩
  refine hc σ W F sta x h1 _ fun W' ext => ?_
  have stp : Stp W F W' F := by have := ext.stp (F := F) (Fv := []) (by simp); rwa [List.append_nil] at this
  cases x with
  | true =>
    obtain ⟨y, h3, h4⟩ := run1 h2
    cases h4
    refine iteT (ha σ W' F (sta.ext ext) y h3 _ ?_)
    rw [hι] at k
    exact post_nox (k.before Keep.refl stp) (hn y)
  | false => exact iteF (hr σ W' F (sta.ext ext) z h2 E (k.before Keep.refl stp))
/-- the same, the outcome being the block's own -/
theorem jb_ifr {mc : Option Bool} {ma mr : Option ω} {D : ω → Kd} (hc : JT S c Γ mc) (ha : JB S A Γ ma D) (hn : ∀ x, NoNx (D x)) (hr : JB S rest Γ mr D) : JB S (.If c A [] pos :: rest) Γ (mc.bind fun b => bif b then ma else mr) D := fun σ W F sta z hz E k => by
  obtain ⟨x, h1, h2⟩ := run1 hz
  refine ⟨tSeq (tIfS (ttOf S c) (tbOf S A) tNext) (tbOf S rest), fun X hX => pss_cons (ps_if (ptO hX) (pbO hX) pss_nil) (pbO hX), ?_⟩
  refine hc σ W F sta x h1 _ fun W' ext => ?_
  have stp : Stp W F W' F := by have := ext.stp (F := F) (Fv := []) (by simp); rwa [List.append_nil] at this
  cases x with
  | true => exact iteT (ha σ W' F (sta.ext ext) z h2 _ (post_nox (k.before Keep.refl stp) (hn z)))
  | false => exact iteF (hr σ W' F (sta.ext ext) z h2 E (k.before Keep.refl stp))
/-- an if that cannot be taken -/
theorem jb_ifF {mr : Option ω} {D : ω → Kd} (hc : JT S c Γ (some false)) (hr : JB S rest Γ mr D) : JB S (.If c A [] pos :: rest) Γ mr D := fun σ W F sta z hz E k => by
  refine ⟨tSeq (tIfS (ttOf S c) tNever tNext) (tbOf S rest), fun X hX => pss_cons (ps_if (ptO hX) pss_never pss_nil) (pbO hX), ?_⟩
  refine hc σ W F sta false rfl _ fun W' ext => ?_
  have stp : Stp W F W' F := by have := ext.stp (F := F) (Fv := []) (by simp); rwa [List.append_nil] at this
  exact iteF (hr σ W' F (sta.ext ext) z hz E (k.before Keep.refl stp))
/-- an if that is taken and does not fall through -/
theorem jb_ifT {ma : Option ω} {D : ω → Kd} (hc : JT S c Γ (some true)) (ha : JB S A Γ ma D) (hn : ∀ x, NoNx (D x)) : JB S (.If c A [] pos :: rest) Γ ma D := fun σ W F sta z hz E k => by
  refine ⟨tSeq (tIfS (ttOf S c) (tbOf S A) tNext) tNever, fun X hX => pss_cons (ps_if (ptO hX) (pbO hX) pss_nil) pss_never, ?_⟩
  refine hc σ W F sta true rfl _ fun W' ext => ?_
  have stp : Stp W F W' F := by have := ext.stp (F := F) (Fv := []) (by simp); rwa [List.append_nil] at this
  exact iteT (ha σ W' F (sta.ext ext) z hz _ (post_nox (k.before Keep.refl stp) (hn z)))
/-- if .. else -/
theorem js_if {mc : Option Bool} {ma mb : Option ω} {D : ω → Kd} (hc : JT S c Γ mc) (ha : JB S A Γ ma D) (hb : JB S B Γ mb D) : JS S (.If c A B pos) Γ (mc.bind fun b => bif b then ma else mb) D := fun σ W F sta z hz E k => by
  obtain ⟨x, h1, h2⟩ := run1 hz
  refine ⟨tIfS (ttOf S c) (tbOf S A) (tbOf S B), fun X hX => ps_if (ptO hX) (pbO hX) (pbO hX), ?_⟩
  refine hc σ W F sta x h1 _ fun W' ext => ?_
  have stp : Stp W F W' F := by have := ext.stp (F := F) (Fv := []) (by simp); rwa [List.append_nil] at this
  cases x with
  | true => exact iteT (ha σ W' F (sta.ext ext) z h2 _ (k.before Keep.refl stp))
  | false => exact iteF (hb σ W' F (sta.ext ext) z h2 _ (k.before Keep.refl stp))
theorem jb_ret {m : Option α} {R : α → OP} (w : Weak Γ Δ) (h : JN S e Γ m R) : JB S (.Return (some e) pos :: rest) Γ m fun r => .rt Δ (R r) := fun σ W F sta x hx E k => by
  refine ⟨tSeq (tRet (tOf S e)) tNever, fun X hX => pss_cons (ps_ret (peO hX)) pss_never, h σ W F sta x hx _ fun v W' Fv ext fr fp r => ?_⟩
  obtain ⟨F', s', sub⟩ := (sta.ext ext).weak w
  have fpA : FpOk W' (F ++ Fv) := sta.fp.fresh ext fp fr
  have fpB : FpOk W' (F' ++ Fv) := s'.fp.app fpA.right fun a ha => fpA.disj a (sub a ha)
  refine k v σ W' F' Fv Keep.refl ((ext.stp fr).perm fun a ha => ?_) s' fpB r
  rcases List.mem_append.mp ha with h | h
  · exact List.mem_append_left _ (sub a h)
  · exact List.mem_append_right _ h
theorem jb_cont {x : ω} {D : ω → Kd} (hD : D x = .ct Δ) (w : Weak Γ Δ) : JB S (.Continue pos :: rest) Γ (some x) D := fun σ W F sta y hy E k => by
  cases hy
  obtain ⟨F', s', sub⟩ := sta.weak w
  rw [hD] at k
  exact ⟨tSeq tCont tNever, fun _ _ => pss_cons ps_continue pss_never, k σ W F' Keep.refl ((Stp.refl sta.ok).perm sub) s'⟩
theorem jb_brk {x : ω} {D : ω → Kd} (hD : D x = .bk Δ) (w : Weak Γ Δ) : JB S (.Break pos :: rest) Γ (some x) D := fun σ W F sta y hy E k => by
  cases hy
  obtain ⟨F', s', sub⟩ := sta.weak w
  rw [hD] at k
  exact ⟨tSeq tBreak tNever, fun _ _ => pss_cons ps_break pss_never, k σ W F' Keep.refl ((Stp.refl sta.ok).perm sub) s'⟩
/-- name = e -/
theorem sta_set {σ : L2.St} {W W' : Wd} {F Fv : List Addr} {i : Nat} {o : OP} {v : V} (sta : Sta Γ σ W F) (ext : Ext W W') (fr : ∀ a ∈ Fv, W.H a = none) (fp : FpOk W' Fv) (r : o.C W' v Fv) (hi : (Γ[i]?).isSome = true) :
    ∃ F', Sta (Γ.set i (some o)) (σ.set i (some v)) W' F' ∧ Stp W F W' F' := by
  have hl : i < Γ.length := by
    cases h : Γ[i]? with
    | none => rw [h] at hi; cases hi
    | some o => exact (List.getElem?_eq_some_iff.mp h).1
  obtain ⟨F', s', sub⟩ := (sta.ext ext).put hl r (sta.fp.fresh ext fp fr)
  exact ⟨F', s', (ext.stp fr).perm sub⟩
theorem js_set {x : Str} {pos' : Pos} {m : Option α} {R : α → OP} (i : Nat) (nd : S.N.Nodup) (h : JN S e Γ m R) (hi : (Γ[i]?).isSome = true := by rfl) (hN : S.N[i]? = some x := by rfl) (hx : Loc S.sc x := by first | exact Or.inl rfl | exact Or.inr rfl) (hp : (S.prot.contains i) = false := by rfl)
    (hs : ∀ env, swapsWith e (some (.Name x pos')) pos.line env = pure false := by intro _; rfl) (hf : S.fn x = true ∨ S.sc.names.lookup x = some .local := by first | exact .inl rfl | exact .inr rfl) : JS S (.Assign [.Name x pos'] e pos) Γ m fun a => .nx (Γ.set i (some (R a))) := fun σ W F sta y hy E k => by
  refine ⟨tAsg (tOf S e) (gName i), fun X hX => ps_set (by rw [hX.N]; exact nd) (by rw [hX.N]; exact hN) (locS hx hX) (peO hX) (hs _) (by rw [hX.fn, hX.sc]; exact hf), h σ W F sta y hy _ fun v W' Fv ext fr fp r => ?_⟩
  obtain ⟨F', s', stp⟩ := sta_set sta ext fr fp r hi
  exact k _ W' F' (Keep.set (ncon hp)) stp s'
theorem js_setLc {x : Str} {py spos : Pos} {scope : Scope} {m : Option α} {R : α → OP} (i : Nat) (nd : S.N.Nodup) (h : JC S elt tg iter ifs scope Γ m R) (hi : (Γ[i]?).isSome = true := by rfl) (hN : S.N[i]? = some x := by rfl) (hx : S.sc.names.lookup x = some .local := by rfl) (hp : (S.prot.contains i) = false := by rfl)
    (hk : S.sc.kind = .function := by rfl) (hl : (py.line == pos.line) = true := by rfl) (hown : (scope.names.any fun (n, k) => n == x && (k == .local || k == .cell)) = false := by decide +kernel) (hs : ∀ env x, foldedSetIterable iter env x = pure x := by intro _ _; rfl) :
    JS S (.Assign [.Name x py] (.ListComp elt [⟨tg, iter, ifs, 0⟩] scope pos) spos) Γ m fun a => .nx (Γ.set i (some (R a))) := fun σ W F sta y hy E k => by
  obtain ⟨own, ok, go⟩ := h
  refine ⟨_, fun X hX => ps_setLc hX.calm (by rw [hX.N]; exact nd) (by rw [hX.N]; exact hN) (by rw [hX.sc]; exact hx) (sw_true (by rw [hX.sc]; exact hk) (by rw [hX.sc]; exact hx) hl hown) (piO hX) (by rw [hX.N, hX.sc]; exact ok) (fun s H C cl fp => pgO (hX.blk scope s H C cl fp)) (fun s H C cl fp => ptsO (hX.blk scope s H C cl fp)) (fun s H C cl fp => peO (hX.blk scope s H C cl fp)) (hs _), go σ W F sta y hy _ fun v W' Fv ext fr fp r => ?_⟩
  obtain ⟨F', s', stp⟩ := sta_set sta ext fr fp r hi
  exact k _ W' F' (Keep.set (ncon hp)) stp s'
/-- target = e, a target of names -/
theorem js_asg {m : Option α} {E : α → SP} {up : α → Ctx → Ctx} {ws : List Nat} (h : JN S e Γ m fun x => sh (E x)) (hg : JG S tg E up ws) (hl : ∀ i ∈ ws, i < Γ.length) (hs : ∀ env, swapsWithSole [tg] e pos.line env = pure false := by intro _; rfl) (hw : ∀ env, swappedStores [tg] e env = pure none := by intro _; rfl)
    (h1 : ∀ env, (assignEach [tg] env).map (·.2) = [assign tg env] := by intro _; rfl) : JS S (.Assign [tg] e pos) Γ m fun a => .nx (up a Γ) := fun σ W F sta y hy Ed k => by
  refine ⟨tAsg (tOf S e) (tgOf S tg), fun X hX => ps_asg (peO hX) (pgO hX) (hs _) (hw _) (h1 _), h σ W F sta y hy _ fun v W' Fv ext fr fp r => ?_⟩
  refine hg Γ σ W' F y v (sta.ext ext) hl r.2 _ fun σ' F' _ kp s' sub => ?_
  have stp : Stp W F W' F := by have := ext.stp (F := F) (Fv := []) (by simp); rwa [List.append_nil] at this
  exact k σ' W' F' kp (stp.perm sub) s'
/-! ### for -/
inductive Out (τ ρ : Type) where
  | nx (s : τ)
  | rt (r : ρ)
  | bk (s : τ)
  | ct (s : τ)
def Out.k (o : Out τ ρ) (f : τ → Option ω) (g : ρ → Option ω) : Option ω := match o with
  | .nx s => f s
  | .ct s => f s
  | .bk s => f s
  | .rt r => g r
/-- behind a turn -/
def Out.step (o : Out τ ρ) (k : τ → Option (Out τ ρ)) : Option (Out τ ρ) := match o with
  | .nx s => k s
  | .ct s => k s
  | .bk s => some (.nx s)
  | .rt r => some (.rt r)
def loopGo (f : α → τ → Option (Out τ ρ)) : List α → τ → Option (Out τ ρ)
  | [], s => some (.nx s)
  | x :: xs, s => (f x s).bind fun o => o.step fun s' => loopGo f xs s'
def foldGo (f : α → τ → Option τ) : List α → τ → Option τ
  | [], s => some s
  | x :: xs, s => (f x s).bind fun s' => foldGo f xs s'
/-- the ends of a loop's body, of the loop -/
def DL (Γl : τ → Ctx) (T : ρ → Kd) : Out τ ρ → Kd
  | .nx s => .nx (Γl s)
  | .ct s => .ct (Γl s)
  | .bk s => .bk (Γl s)
  | .rt r => T r
def DF (Γl : τ → Ctx) (T : ρ → Kd) : Out τ ρ → Kd
  | .nx s => .nx (Γl s)
  | .ct s => .nx (Γl s)
  | .bk s => .nx (Γl s)
  | .rt r => T r
theorem js_for {mi : Option (List α)} {E : α → SP} {up : α → Ctx → Ctx} {ws : List Nat} {Γl : τ → Ctx} {T : ρ → Kd} {f : α → τ → Option (Out τ ρ)} (s0 : τ) (hi : JI S tg iter Γ mi E) (hg : JG S tg E up ws) (w : Weak Γ (Γl s0)) (hl : ∀ s, ∀ i ∈ ws, i < (Γl s).length)
    (hT : ∀ r, NoNx (T r) ∧ (∀ Δ, T r ≠ .bk Δ) ∧ ∀ Δ, T r ≠ .ct Δ) (hb : ∀ x s, JB S A (up x (Γl s)) (f x s) (DL Γl T)) (hs : ∀ env x, foldedSetIterable iter env x = pure x := by intro _ _; rfl) : JS S (.For tg iter A [] pos) Γ (mi.bind fun xs => loopGo f xs s0) (DF Γl T) := fun σ W F sta z hz Ed k => by
  obtain ⟨xs, h1, h2⟩ := run1 hz
  refine ⟨tFor (tiOf S tg iter) (tgOf S tg) (tbOf S A), fun X hX => ps_for (by rw [hX.xe]; exact PassesOwn.never) hX.calm (piO hX) (pgO hX) (pbO hX) (hs _), ?_⟩
  refine hi σ W F sta xs h1 _ fun J W' ext iok => ?_
  have stp0 : Stp W F W' F := by have := ext.stp (F := F) (Fv := []) (by simp); rwa [List.append_nil] at this
  obtain ⟨F0, sa0, sub0⟩ := (sta.ext ext).weak w
  refine ⟨fun i m σ1 H => m = xs.length - i ∧ i ≤ xs.length ∧ ∃ (W1 : Wd) (F1 : List Addr) (s : τ), W1.H = H ∧ Keep S.prot σ σ1 ∧ Stp W' F W1 F1 ∧ Sta (Γl s) σ1 W1 F1 ∧ loopGo f (xs.drop i) s = some z,
    ⟨xs.length, by simp, Nat.zero_le _, W', F0, s0, rfl, Keep.refl, (Stp.refl ext.ok).perm sub0, sa0, by simpa using h2⟩, ?_⟩
  rintro i m σ1 H ⟨rfl, hi', W1, F1, s, rfl, kp, stp, sa, go⟩
  obtain ⟨iok1, iok2⟩ := iok W1 ⟨sa.ok, stp.b⟩
  by_cases hlt : i < xs.length
  · obtain ⟨g1, g2⟩ := iok1 i xs[i] (List.getElem?_eq_getElem hlt)
    refine .inr ⟨g1, fun σ' H' => ∃ m', m' < xs.length - i ∧ (m' = xs.length - (i + 1) ∧ i + 1 ≤ xs.length ∧ ∃ (W1 : Wd) (F1 : List Addr) (s : τ), W1.H = H' ∧ Keep S.prot σ σ' ∧ Stp W' F W1 F1 ∧ Sta (Γl s) σ' W1 F1 ∧ loopGo f (xs.drop (i + 1)) s = some z), fun σ' H' h => h, fun v H' y => ?_⟩
    obtain ⟨W2, rfl, e2, p2⟩ := g2 v H' y
    have stp2 : Stp W1 F1 W2 F1 := by have := e2.stp (F := F1) (Fv := []) (by simp); rwa [List.append_nil] at this
    refine hg (Γl s) σ1 W2 F1 xs[i] v (sa.ext e2) (hl s) p2 _ fun σ2 F2 _ kp2 sa2 sub2 => ?_
    rw [List.drop_eq_getElem_cons hlt] at go
    obtain ⟨o, o1, o2⟩ := run1 (f := fun o : Out τ ρ => o.step fun s' => loopGo f (xs.drop (i + 1)) s') go
    have stpA : Stp W' F W2 F2 := (stp.trans stp2).perm sub2
    refine hb xs[i] s σ2 W2 F2 sa2 o o1 _ ?_
    cases o with
    | nx s' => exact fun σ3 W3 F3 k3 t3 a3 => ⟨xs.length - (i + 1), by omega, rfl, hlt, W3, F3, s', rfl, (kp.trans kp2).trans k3, stpA.trans t3, a3, o2⟩
    | ct s' => exact fun σ3 W3 F3 k3 t3 a3 => ⟨xs.length - (i + 1), by omega, rfl, hlt, W3, F3, s', rfl, (kp.trans kp2).trans k3, stpA.trans t3, a3, o2⟩
    | bk s' =>
      cases o2
      exact fun σ3 W3 F3 k3 t3 a3 => k σ3 W3 F3 ((kp.trans kp2).trans k3) (stp0.trans (stpA.trans t3)) a3
    | rt r =>
      cases o2
      obtain ⟨n1, n2, n3⟩ := hT r
      have k' : Post S.prot σ W F Ed (T r) := k
      show Post S.prot σ2 W2 F2 _ (T r)
      have k'' := k'.before (kp.trans kp2) (stp0.trans stpA)
      generalize hq : T r = q at k'' n1
      cases q with
      | nx Γ => exact n1.elim
      | bk Γ => exact absurd hq (n2 Γ)
      | ct Γ => exact absurd hq (n3 Γ)
      | rt Γ R => exact k''
  · have ei : i = xs.length := by omega
    subst ei
    rw [List.drop_length] at go
    cases go
    exact .inl ⟨iok2 _ (Nat.le_refl _), k σ1 W1 F1 kp (stp0.trans stp) sa⟩
theorem loopGo_fold {f : α → τ → Option τ} : ∀ (xs : List α) (s : τ), loopGo (ρ := Empty) (fun x s => (f x s).bind fun s' => some (.nx s')) xs s = (foldGo f xs s).bind fun s' => some (.nx s')
  | [], s => rfl
  | x :: xs, s => by
    show ((f x s).bind fun s' => some (Out.nx s')).bind _ = ((f x s).bind fun s' => foldGo f xs s').bind _
    cases f x s with
    | none => rfl
    | some s' => exact loopGo_fold xs s'
theorem JB.map {sts : List Stmt} {m : Option α} {D : ω → Kd} {g : α → ω} {D' : α → Kd} (h : JB S sts Γ m D') (hD : ∀ x, D (g x) = D' x) : JB S sts Γ (m.bind fun x => some (g x)) D := fun σ W F sta z hz E k => by
  obtain ⟨x, h1, h2⟩ := run1 hz
  cases h2
  rw [hD] at k
  exact h σ W F sta x h1 E k
theorem js_forS {mi : Option (List α)} {E : α → SP} {up : α → Ctx → Ctx} {ws : List Nat} {Γl : τ → Ctx} {f : α → τ → Option τ} (s0 : τ) (hi : JI S tg iter Γ mi E) (hg : JG S tg E up ws) (w : Weak Γ (Γl s0)) (hl : ∀ s, ∀ i ∈ ws, i < (Γl s).length)
    (hb : ∀ x s, JB S A (up x (Γl s)) (f x s) fun s' => .nx (Γl s')) (hs : ∀ env x, foldedSetIterable iter env x = pure x := by intro _ _; rfl) : JS S (.For tg iter A [] pos) Γ (mi.bind fun xs => foldGo f xs s0) fun s => .nx (Γl s) := fun σ W F sta z hz Ed k => by
  have h := js_for (ρ := Empty) (T := fun r => nomatch r) (f := fun x s => (f x s).bind fun s' => some (.nx s')) (pos := pos) s0 hi hg w hl (fun r => nomatch r) (fun x s => JB.map (hb x s) fun s' => rfl) hs
  refine h σ W F sta (.nx z) ?_ Ed k
  obtain ⟨xs, h1, h2⟩ := run1 hz
  rw [h1]
  show loopGo _ xs s0 = _
  rw [loopGo_fold, h2]
  rfl
/-- a statement that may return, then the rest -/
theorem jb_consO {ms : Option (Out τ υ)} {Γl : τ → Ctx} {T : υ → Kd} {mr : τ → Option ω} {D : ω → Kd} (ι : υ → ω) (h : JS S st Γ ms (DF Γl T)) (hι : ∀ r, D (ι r) = T r) (hT : ∀ r, NoNx (T r)) (hr : ∀ s, JB S rest (Γl s) (mr s) D) :
    JB S (st :: rest) Γ (ms.bind fun o => o.k mr fun r => some (ι r)) D := fun σ W F sta z hz E k => by
  obtain ⟨o, h1, h2⟩ := run1 hz
  refine ⟨tSeq (tsOf S st) (tbOf S rest), fun X hX => pss_cons (psO hX) (pbO hX), ?_⟩
  refine h σ W F sta o h1 { E with nx := tbOf S rest E } ?_
  cases o with
  | nx s => exact fun σ' W' F' kp stp sta' => hr s σ' W' F' sta' z h2 E (k.before kp stp)
  | ct s => exact fun σ' W' F' kp stp sta' => hr s σ' W' F' sta' z h2 E (k.before kp stp)
  | bk s => exact fun σ' W' F' kp stp sta' => hr s σ' W' F' sta' z h2 E (k.before kp stp)
  | rt r =>
    cases h2
    rw [hι] at k
    exact post_nox k (hT r)
/-! ### while -/
def whileGo (c : τ → Option Bool) (f : τ → Option (Out τ ρ)) : Nat → τ → Option (Out τ ρ)
  | 0, _ => none
  | n + 1, s => (c s).bind fun b => bif b then (f s).bind fun o => o.step fun s' => whileGo c f n s' else some (.nx s)
theorem js_while {Γl : τ → Ctx} {T : ρ → Kd} {mc : τ → Option Bool} {f : τ → Option (Out τ ρ)} (n : Nat) (s0 : τ) (w : Weak Γ (Γl s0)) (hT : ∀ r, NoNx (T r) ∧ (∀ Δ, T r ≠ .bk Δ) ∧ ∀ Δ, T r ≠ .ct Δ) (hc : ∀ s, JT S c (Γl s) (mc s)) (hb : ∀ s, JB S A (Γl s) (f s) (DL Γl T)) :
    JS S (.While c A [] pos) Γ (whileGo mc f n s0) (DF Γl T) := fun σ W F sta z hz Ed k => by
  refine ⟨tWhile (ttOf S c) (tbOf S A), fun X hX => ps_while (by rw [hX.xe]; exact PassesOwn.never) (ptO hX) (pbO hX), ?_⟩
  obtain ⟨F0, sa0, sub0⟩ := sta.weak w
  refine ⟨fun m σ1 H => ∃ (W1 : Wd) (F1 : List Addr) (s : τ), W1.H = H ∧ Keep S.prot σ σ1 ∧ Stp W F W1 F1 ∧ Sta (Γl s) σ1 W1 F1 ∧ whileGo mc f m s = some z, ⟨n, W, F0, s0, rfl, Keep.refl, (Stp.refl sta.ok).perm sub0, sa0, hz⟩, ?_⟩
  rintro m σ1 H ⟨W1, F1, s, rfl, kp, stp, sa, go⟩
  cases m with
  | zero => cases go
  | succ m =>
    obtain ⟨b, b1, b2⟩ := run1 (f := fun b => bif b then (f s).bind fun o : Out τ ρ => o.step fun s' => whileGo mc f m s' else some (.nx s)) go
    refine hc s σ1 W1 F1 sa b b1 _ fun W2 e2 => ?_
    have stp2 : Stp W1 F1 W2 F1 := by have := e2.stp (F := F1) (Fv := []) (by simp); rwa [List.append_nil] at this
    have stpA := stp.trans stp2
    cases b with
    | true =>
      obtain ⟨o, o1, o2⟩ := run1 (f := fun o : Out τ ρ => o.step fun s' => whileGo mc f m s') b2
      refine iteT ⟨fun σ' H' => ∃ m', m' < m + 1 ∧ ∃ (W1 : Wd) (F1 : List Addr) (s : τ), W1.H = H' ∧ Keep S.prot σ σ' ∧ Stp W F W1 F1 ∧ Sta (Γl s) σ' W1 F1 ∧ whileGo mc f m' s = some z, fun σ' H' h => h, ?_⟩
      refine hb s σ1 W2 F1 (sa.ext e2) o o1 _ ?_
      cases o with
      | nx s' => exact fun σ3 W3 F3 k3 t3 a3 => ⟨m, Nat.lt_succ_self m, W3, F3, s', rfl, kp.trans k3, stpA.trans t3, a3, o2⟩
      | ct s' => exact fun σ3 W3 F3 k3 t3 a3 => ⟨m, Nat.lt_succ_self m, W3, F3, s', rfl, kp.trans k3, stpA.trans t3, a3, o2⟩
      | bk s' =>
        cases o2
        exact fun σ3 W3 F3 k3 t3 a3 => k σ3 W3 F3 (kp.trans k3) (stpA.trans t3) a3
      | rt r =>
        cases o2
        obtain ⟨n1, n2, n3⟩ := hT r
        have k' : Post S.prot σ W F Ed (T r) := k
        show Post S.prot σ1 W2 F1 _ (T r)
        have k'' := k'.before kp stpA
        generalize hq : T r = q at k'' n1
        cases q with
        | nx Γ => exact n1.elim
        | bk Γ => exact absurd hq (n2 Γ)
        | ct Γ => exact absurd hq (n3 Γ)
        | rt Γ R => exact k''
    | false =>
      cases b2
      exact iteF (k σ1 W2 F1 kp stpA (sa.ext e2))
/-! ### writing into what is owned -/
theorem set_back {σ : L2.St} {i : Nat} {v : V} (h : σ[i]? = some (some v)) : σ.set i (some v) = σ := by
  refine List.ext_getElem? fun j => ?_
  by_cases e : i = j
  · subst e
    rw [h, List.getElem?_set_self (List.getElem?_eq_some_iff.mp h).1]
  · rw [List.getElem?_set_ne e]
/-- the owned slot i is rewritten: its own addresses F1 become F1' (with some of the owned temporaries G), all else stays -/
theorem sta_own {σ : L2.St} {W W' : Wd} {F F1 F2 F1' : List Addr} {i : Nat} {o' : OP} {v : V} (G : List Addr) (sta : Sta Γ σ W F) (fpG : FpOk W (F ++ G)) (h1 : σ[i]? = some (some v)) (hp : F.Perm (F1 ++ F2))
    (re : ∀ (W' : Wd) (o' : OP) (v' : V) (F1' : List Addr), Ex W.B W'.B → (∀ a ∈ F2, W'.H a = W.H a) → o'.C W' v' F1' → ∃ F', Holds (Γ.set i (some o')) (σ.set i (some v')) W' F' ∧ F'.Perm (F1' ++ F2))
    (ok : Ex W'.B W'.H) (eb : W'.B = W.B) (hh : ∀ a, a ∉ F1 → W.H a ≠ none → W'.H a = W.H a) (al : ∀ a, W.H a ≠ none → W'.H a ≠ none) (fp1 : FpOk W' F1') (fr1 : ∀ a ∈ F1', a ∈ F1 ∨ a ∈ G ∨ W.H a = none) (r : o'.C W' v F1') :
    ∃ F', Sta (Γ.set i (some o')) σ W' F' ∧ Stp W (F ++ G) W' F' := by
  have fp := sta.fp.perm hp
  have ne2 : ∀ a ∈ F2, a ∉ F1 := fun a ha h => fp.disj a h ha
  obtain ⟨F', c1, c2⟩ := re W' o' v F1' (by rw [eb]; exact Ex.refl _) (fun a ha => hh a (ne2 a ha) (fp.right.al a ha)) r
  rw [set_back h1] at c1
  have fpB : FpOk W' (F1' ++ F2) := fp1.app ⟨fp.right.nd, fun a ha => al a (fp.right.al a ha), fun a ha => by rw [eb]; exact fp.right.fr a ha⟩ fun a ha h => by
    rcases fr1 a ha with z | z | z
    · exact ne2 a h z
    · exact fpG.disj a (hp.mem_iff.mpr (List.mem_append_right _ h)) z
    · exact fp.right.al a h z
  refine ⟨F', ⟨ok, fpB.perm c2.symm, by rw [List.length_set]; exact sta.len, c1⟩, ok, by rw [eb]; exact Ex.refl _, fun a o h n => ?_, al, fun a _ h2 _ => by rw [eb]; exact h2, fun a ha => ?_⟩
  · rw [hh a (fun z => n (List.mem_append_left _ (hp.mem_iff.mpr (List.mem_append_left _ z)))) (by rw [h]; exact fun z => nomatch z)]
    exact h
  · rcases List.mem_append.mp (c2.mem_iff.mp ha) with z | z
    · rcases fr1 a z with q | q | q
      · exact .inl (List.mem_append_left _ (hp.mem_iff.mpr (List.mem_append_left _ q)))
      · exact .inl (List.mem_append_right _ q)
      · exact .inr q
    · exact .inl (List.mem_append_left _ (hp.mem_iff.mpr (List.mem_append_right _ z)))
/-- one address of an owned thing is written -/
theorem wr_ok {W : Wd} {p : Addr} {o : HO} (ok : Ex W.B W.H) (hB : W.B p = none) : Ex W.B (upd W.H p o) := fun a u h => by
  have z : a ≠ p := fun z => by rw [z, hB] at h; cases h
  rw [upd_ne z]
  exact ok a u h
theorem wr_al {W : Wd} {p : Addr} {o : HO} : ∀ a, W.H a ≠ none → upd W.H p o a ≠ none := fun a h => by
  by_cases z : a = p
  · rw [z, upd_same]; exact fun z => nomatch z
  · rw [upd_ne z]; exact h
def appM (xs : List α) (x : α) : Option (List α) := if xs.length < LIM then some (xs ++ [x]) else none
theorem js_app {x : Str} {p0 apos cpos spos : Pos} {E : α → OP} {xs : List α} {m : Option α} (i : Nat) (h : JN S e Γ m E) (hi : Γ[i]? = some (some (lstO E xs)) := by rfl) (hN : S.N[i]? = some x := by rfl) (hv : Vis S.sc x := by first | exact Or.inl rfl | exact Or.inr (Or.inl rfl) | exact Or.inr (Or.inr rfl))
    (hd : (x == ("__debug__" : Str)) = false := by decide) (hcd : (x == ("__classdict__" : Str)) = false := by decide)
    (hbase : ∀ env, attributeBase (.Name x p0) "append" env (eval (.Name x p0) env) = eval (.Name x p0) env := by intro _; rfl)
    (hfew : ∀ env, ((backTo cpos (starEach [e] env)).all (fun x => !x.1) && (backToKw cpos (keywordEach [] env)).all (fun x => x.1.isSome) && decide ([e].length + ([] : List Keyword).length + (if ([] : List Keyword).isEmpty then 0 else 1) < 30)) = true := by intro _; rfl)
    (hline : (apos.endLine == cpos.line) = true := by rfl) (hs : ∀ env, starEach [e] env = (false, eval e env) :: starEach [] env := by intro _; rfl) (hsw : ∀ env, swapsWith (.Call (.Attribute (.Name x p0) "append" apos) [e] [] cpos) none spos.line env = pure false := by intro _; rfl) :
    JS S (.Expr (.Call (.Attribute (.Name x p0) "append" apos) [e] [] cpos) spos) Γ (m.bind fun y => appM xs y) fun ys => .nx (Γ.set i (some (lstO E ys))) := fun σ W F sta z hz Ed k => by
  obtain ⟨y, h1, h2⟩ := run1 hz
  unfold appM at h2
  split at h2
  · rename_i hlen
    cases h2
    refine ⟨tDrop (tBM S.K "list" rAppend (tVar i) (tCons (tOf S e) tNil)), fun X hX => ps_expr (hX.K ▸ pe_bm PySem.F.plainAttrs_list PySem.F.slot_list_append PySem.F.type_list_append mt_append (pe_var (by rw [hX.N]; exact hN) (visS hv hX) hd hcd) (pa_cons (peO hX) pa_nil (hs _)) (hbase _) (hfew _) hline (hs _) rfl) (hsw _), ?_⟩
    obtain ⟨v, F1, F2, a1, a2, a3, a4⟩ := sta.hold.at hi
    obtain ⟨p, vs, G2, rfl, b2, rfl, b4⟩ := id a2
    refine ⟨.ref p, a1, .inl ⟨rfl, vs, .inl (.inl b2)⟩, h σ W F sta y h1 _ fun u W1 Fv ext fr fp r => ?_⟩
    have sta1 := sta.ext ext
    obtain ⟨v', F1', F2', c1, c2, c3, c4⟩ := sta1.hold.at hi
    have ev : v' = .ref p := by rw [a1] at c1; exact (Option.some.inj (Option.some.inj c1)).symm
    subst ev
    obtain ⟨p', vs', G2', e1, d2, rfl, d4⟩ := c2
    cases e1
    have hp1 : W1.H p = some (.lst vs) := ext.h p _ b2
    have evs : vs' = vs := by
      rw [hp1] at d2
      cases d2
      rfl
    subst evs
    have hB : W1.B p = none := (sta1.fp.perm c3).fr p (by simp)
    have fpA : FpOk W1 ((p :: G2') ++ Fv) := by
      have q : FpOk W1 (F ++ Fv) := sta.fp.fresh ext fp fr
      have q2 : FpOk W1 (((p :: G2') ++ F2') ++ Fv) := q.perm (List.Perm.append_right Fv c3)
      refine FpOk.left (F' := F2') (q2.perm ?_)
      rw [List.append_assoc, List.append_assoc]
      exact List.Perm.append_left _ List.perm_append_comm
    have q : FpOk W1 (F ++ Fv) := sta.fp.fresh ext fp fr
    refine ⟨p, vs', u, rfl, rfl, hp1, lim_lt (by rw [d4.len]; exact hlen), ?_⟩
    have nP : ∀ a ∈ G2' ++ Fv, a ≠ p := fun a ha z => (List.nodup_cons.mp fpA.nd).1 (z ▸ ha)
    have A3 : Owns E W1 (vs' ++ [u]) (xs ++ [y]) (G2' ++ Fv) := d4.app ⟨Fv, [], (List.append_nil _).symm, r, rfl⟩
    have A4 : Owns E ⟨upd W1.H p (.lst (vs' ++ [u])), W1.B⟩ (vs' ++ [u]) (xs ++ [y]) (G2' ++ Fv) := Owns.loc (W := W1) (W' := ⟨upd W1.H p (.lst (vs' ++ [u])), W1.B⟩) (fun _ _ h => h) A3 fun a ha => by
      show upd W1.H p (.lst (vs' ++ [u])) a = W1.H a
      exact upd_ne (nP a ha)
    obtain ⟨F', s', stp⟩ := sta_own (W' := ⟨upd W1.H p (.lst (vs' ++ [u])), W1.B⟩) (F1' := p :: (G2' ++ Fv)) (o' := lstO E (xs ++ [y])) Fv sta1 q c1 c3 c4 (wr_ok ext.ok hB) rfl (fun a ha _ => upd_ne fun z => ha (z ▸ List.mem_cons_self)) wr_al
      ⟨fpA.nd, fun a ha => wr_al a (fpA.al a ha), fpA.fr⟩ (fun a ha => by
        rcases List.mem_cons.mp ha with z | z
        · exact .inl (z ▸ List.mem_cons_self)
        · rcases List.mem_append.mp z with z | z
          · exact .inl (List.mem_cons_of_mem _ z)
          · exact .inr (.inl z)) ⟨p, vs' ++ [u], G2' ++ Fv, rfl, upd_same, rfl, A4⟩
    exact k σ _ F' Keep.refl ((ext.stp fr).trans stp) s'
  · cases h2
end
end CC
set_option maxHeartbeats 4000000
/-! Operations by values; writing; defs; state. -/
namespace CC
open PySem PySem.Spec L2
open PyProof.Rows hiding St
variable {α β γ δ τ ω ρ υ : Type}
/-! ### operations -/
theorem ov_I0 {g : Int → Int → V} {h : Int → Int → γ} {E : γ → SP} (hg : ∀ i j B, (E (h i j)).P B (g i j)) : OpV (rI0 g) intS intS (fun i j => some (h i j)) fun z => sh (E z) := fun W x y v u z ok hx hy e Q k => by
  cases e
  cases hx
  cases hy
  exact ⟨x, y, rfl, rfl, k.val ok (hg _ _ _)⟩
theorem ov_I {C : Int → Int → Prop} {g : Int → Int → V} {h : Int → Int → Option γ} {E : γ → SP} (hc : ∀ i j z, h i j = some z → C i j ∧ ∀ B, (E z).P B (g i j)) : OpV (rI C g) intS intS h fun z => sh (E z) := fun W x y v u z ok hx hy e Q k => by
  cases hx
  cases hy
  exact ⟨x, y, rfl, rfl, (hc _ _ _ e).1, k.val ok ((hc _ _ _ e).2 _)⟩
def addO (x y : Int) : Option Int := some (x + y)
def subO (x y : Int) : Option Int := some (x - y)
def mulO (x y : Int) : Option Int := if (-(2 ^ 64) < x ∧ x < 2 ^ 64) ∨ (-(2 ^ 64) < y ∧ y < 2 ^ 64) then some (x * y) else none
def divO (x y : Int) : Option Int := if 0 < y ∧ y < 1073741824 then some (x / y) else none
def modO (x y : Int) : Option Int := if 0 < y then some (x % y) else none
theorem ov_add : OpV (rI0 fun i j => .int (i + j)) intS intS (fun x y => some (x + y)) fun z => sh (intS z) := ov_I0 fun _ _ _ => rfl
theorem ov_sub : OpV (rI0 fun i j => .int (i - j)) intS intS (fun x y => some (x - y)) fun z => sh (intS z) := ov_I0 fun _ _ _ => rfl
theorem ov_mul : OpV (rI CMul fun i j => .int (i * j)) intS intS mulO fun z => sh (intS z) := ov_I fun i j z h => by
  unfold mulO at h
  split at h
  · cases h
    rename_i c
    exact ⟨c, fun _ => rfl⟩
  · cases h
theorem ov_div : OpV (rI CDiv fun i j => .int (i / j)) intS intS divO fun z => sh (intS z) := ov_I fun i j z h => by
  unfold divO at h
  split at h
  · cases h
    rename_i c
    exact ⟨c, fun _ => rfl⟩
  · cases h
theorem ov_mod : OpV (rI (fun _ j => 0 < j) fun i j => .int (i % j)) intS intS modO fun z => sh (intS z) := ov_I fun i j z h => by
  unfold modO at h
  split at h
  · cases h
    rename_i c
    exact ⟨c, fun _ => rfl⟩
  · cases h
theorem ov_lt : OpV (rI0 fun i j => .bl (decide (i < j))) intS intS (fun x y => some (decide (x < y))) fun z => sh (boolS z) := ov_I0 fun _ _ _ => rfl
theorem ov_le : OpV (rI0 fun i j => .bl (decide (i ≤ j))) intS intS (fun x y => some (decide (x ≤ y))) fun z => sh (boolS z) := ov_I0 fun _ _ _ => rfl
theorem ov_gt : OpV (rI0 fun i j => .bl (decide (j < i))) intS intS (fun x y => some (decide (y < x))) fun z => sh (boolS z) := ov_I0 fun _ _ _ => rfl
theorem ov_ge : OpV (rI0 fun i j => .bl (decide (j ≤ i))) intS intS (fun x y => some (decide (y ≤ x))) fun z => sh (boolS z) := ov_I0 fun _ _ _ => rfl
theorem ov_eqI : OpV rEq intS intS (fun x y => some (decide (x = y))) fun z => sh (boolS z) := fun W x y v u z ok hx hy e Q k => by
  cases e
  cases hx
  cases hy
  refine ⟨rfl, k.val ok ?_⟩
  show V.bl (decide (V.int x = V.int y)) = V.bl (decide (x = y))
  simp
theorem ov_neI : OpV rNe intS intS (fun x y => some (!decide (x = y))) fun z => sh (boolS z) := fun W x y v u z ok hx hy e Q k => by
  cases e
  cases hx
  cases hy
  refine ⟨rfl, k.val ok ?_⟩
  show V.bl (!decide (V.int x = V.int y)) = V.bl (!decide (x = y))
  simp
theorem ov_eqB : OpV rEq boolS boolS (fun x y => some (decide (x = y))) fun z => sh (boolS z) := fun W x y v u z ok hx hy e Q k => by
  cases e
  cases hx
  cases hy
  refine ⟨rfl, k.val ok ?_⟩
  show V.bl (decide (V.bl x = V.bl y)) = V.bl (decide (x = y))
  simp
theorem ov_eqS : OpV rEq strS strS (fun x y => some (decide (x = y))) fun z => sh (boolS z) := fun W x y v u z ok hx hy e Q k => by
  cases e
  cases hx
  cases hy
  refine ⟨rfl, k.val ok ?_⟩
  show V.bl (decide (V.str x = V.str y)) = V.bl (decide (x = y))
  simp
/-- None or not, by what the value is known to be -/
class NotNon (E : α → SP) : Prop where
  out : ∀ x B v, (E x).P B v → v ≠ .non
instance : NotNon intS := ⟨fun x B v h z => by cases h; cases z⟩
instance : NotNon boolS := ⟨fun x B v h z => by cases h; cases z⟩
instance : NotNon strS := ⟨fun x B v h z => by cases h; cases z⟩
instance {E : α → SP} : NotNon (lstS E) := ⟨fun x B v h z => by obtain ⟨a, _, rfl, _⟩ := h; cases z⟩
instance {E : α → SP} : NotNon (tupS E) := ⟨fun x B v h z => by obtain ⟨a, _, rfl, _⟩ := h; cases z⟩
instance {E : α → SP} {G : β → SP} : NotNon (prS E G) := ⟨fun x B v h z => by obtain ⟨a, _, rfl, _⟩ := h; cases z⟩
theorem ov_isN0 {E : α → SP} [n : NotNon E] : OpV (fun x y H Q => y = .non ∧ Q (.bl (decide (x = .non))) H) E (fun _ : Unit => nonS) (fun _ _ => some false) fun z => sh (boolS z) := fun W x y v u z ok hx hy e Q k => by
  cases e
  cases hy
  refine ⟨rfl, ?_⟩
  rw [decide_eq_false (n.out x _ _ hx)]
  exact k.val ok rfl
theorem ov_notN0 {E : α → SP} [n : NotNon E] : OpV (fun x y H Q => y = .non ∧ Q (.bl (!decide (x = .non))) H) E (fun _ : Unit => nonS) (fun _ _ => some true) fun z => sh (boolS z) := fun W x y v u z ok hx hy e Q k => by
  cases e
  cases hy
  refine ⟨rfl, ?_⟩
  rw [decide_eq_false (n.out x _ _ hx)]
  exact k.val ok rfl
theorem ov_isNO {E : α → SP} [n : NotNon E] : OpV (fun x y H Q => y = .non ∧ Q (.bl (decide (x = .non))) H) (optS E) (fun _ : Unit => nonS) (fun x _ => some x.isNone) fun z => sh (boolS z) := fun W x y v u z ok hx hy e Q k => by
  cases e
  cases hy
  refine ⟨rfl, ?_⟩
  cases x with
  | none =>
    cases hx
    exact k.val ok rfl
  | some x =>
    rw [decide_eq_false (n.out x _ _ hx)]
    exact k.val ok rfl
theorem ov_notNO {E : α → SP} [n : NotNon E] : OpV (fun x y H Q => y = .non ∧ Q (.bl (!decide (x = .non))) H) (optS E) (fun _ : Unit => nonS) (fun x _ => some x.isSome) fun z => sh (boolS z) := fun W x y v u z ok hx hy e Q k => by
  cases e
  cases hy
  refine ⟨rfl, ?_⟩
  cases x with
  | none =>
    cases hx
    exact k.val ok rfl
  | some x =>
    rw [decide_eq_false (n.out x _ _ hx)]
    exact k.val ok rfl
section
variable {S : Stc}
theorem oAdd : ∀ X, S.In X → OpR X (binaryOp .Add) (rI0 fun i j => .int (i + j)) := fun _ _ => op_add
theorem oSub : ∀ X, S.In X → OpR X (binaryOp .Sub) (rI0 fun i j => .int (i - j)) := fun _ _ => op_sub
theorem oMul : ∀ X, S.In X → OpR X (binaryOp .Mult) (rI CMul fun i j => .int (i * j)) := fun _ _ => op_mul
theorem oDiv : ∀ X, S.In X → OpR X (binaryOp .FloorDiv) (rI CDiv fun i j => .int (i / j)) := fun _ _ => op_fdiv
theorem oMod : ∀ X, S.In X → OpR X (binaryOp .Mod) (rI (fun _ j => 0 < j) fun i j => .int (i % j)) := fun _ _ => op_mod
theorem oLt : ∀ X, S.In X → OpR X (compareOp .Lt) (rI0 fun i j => .bl (decide (i < j))) := fun _ _ => op_lt
theorem oLe : ∀ X, S.In X → OpR X (compareOp .LtE) (rI0 fun i j => .bl (decide (i ≤ j))) := fun _ _ => op_le
theorem oGt : ∀ X, S.In X → OpR X (compareOp .Gt) (rI0 fun i j => .bl (decide (j < i))) := fun _ _ => op_gt
theorem oGe : ∀ X, S.In X → OpR X (compareOp .GtE) (rI0 fun i j => .bl (decide (j ≤ i))) := fun _ _ => op_ge
theorem oEq : ∀ X, S.In X → OpR X (compareOp .Eq) rEq := fun _ _ => op_eq
theorem oNe : ∀ X, S.In X → OpR X (compareOp .NotEq) rNe := fun _ _ => op_ne
theorem oIsN : ∀ X, S.In X → OpR X (compareOp .Is) (fun x y H Q => y = .non ∧ Q (.bl (decide (x = .non))) H) := fun _ _ => op_isN
theorem oNotN : ∀ X, S.In X → OpR X (compareOp .IsNot) (fun x y H Q => y = .non ∧ Q (.bl (!decide (x = .non))) H) := fun _ _ => op_notN
theorem oIxL : ∀ X, S.In X → IxR X (rIxL S.K) := fun _ h => h.K ▸ ix_list
theorem oIxT : ∀ X, S.In X → IxR X (rIxT S.K) := fun _ h => h.K ▸ ix_tup
end
theorem atI_each {E : α → SP} {B : Hp} {vs : List V} {xs : List α} {i : Int} {x : α} (h : Each E B vs xs) (e : atI xs i = some x) : ∃ v, atI vs i = some v ∧ (E x).P B v := by
  unfold atI at e ⊢
  rw [h.len]
  cases q : ixN xs.length i with
  | none => rw [q] at e; cases e
  | some j =>
    rw [q] at e
    exact h.get e
theorem atI_owns {E : α → OP} {W : Wd} {vs : List V} {xs : List α} {F : List Addr} {i : Int} {x : α} (h : Owns E W vs xs F) (e : atI xs i = some x) : ∃ v F1, atI vs i = some v ∧ (E x).C W v F1 ∧ ∀ a ∈ F1, a ∈ F := by
  unfold atI at e ⊢
  rw [h.len]
  cases q : ixN xs.length i with
  | none => rw [q] at e; cases e
  | some j =>
    rw [q] at e
    obtain ⟨v, F1, F2, h1, h2, h3, _⟩ := h.at e
    exact ⟨v, F1, h1, h2, fun a ha => h3.mem_iff.mpr (List.mem_append_left _ ha)⟩
theorem iv_lstO {K : PySem.W.Frag} {E : α → OP} : IxV (rIxL K) (lstO E) intS (fun xs i => atI xs i) E := fun W x y v u z F1 ok hx hy e Q k => by
  cases hy
  obtain ⟨a, vs, F2, rfl, h2, rfl, h4⟩ := hx
  obtain ⟨t, F3, q1, q2, q3⟩ := atI_owns h4 e
  exact ⟨a, vs, y, t, rfl, rfl, .inl (.inl h2), q1, k t ⟨F3, q2, fun b hb => List.mem_cons_of_mem _ (q3 b hb)⟩⟩
theorem iv_lst {K : PySem.W.Frag} {E : α → SP} : IxV (rIxL K) (fun xs => sh (lstS E xs)) intS (fun xs i => atI xs i) fun x => sh (E x) := fun W x y v u z F1 ok hx hy e Q k => by
  cases hy
  obtain ⟨_, a, vs, rfl, h2, h4⟩ := hx
  obtain ⟨t, q1, q2⟩ := atI_each h4 e
  exact ⟨a, vs, y, t, rfl, rfl, .inl (.inl (ok a _ h2)), q1, k t ⟨[], ⟨rfl, q2⟩, by simp⟩⟩
theorem iv_tup {K : PySem.W.Frag} {E : α → SP} : IxV (rIxT K) (fun xs => sh (tupS E xs)) intS (fun xs i => atI xs i) fun x => sh (E x) := fun W x y v u z F1 ok hx hy e Q k => by
  cases hy
  obtain ⟨_, a, vs, rfl, h2, h4⟩ := hx
  obtain ⟨t, q1, q2⟩ := atI_each h4 e
  exact ⟨a, vs, y, t, rfl, rfl, .inl (.inl (ok a _ h2)), q1, k t ⟨[], ⟨rfl, q2⟩, by simp⟩⟩
theorem iv_scr {K : PySem.W.Frag} : IxV (rIxL K) (fun xs => sh (scrS K xs)) intS (fun xs i => atI xs i) fun x => sh (intS x) := fun W x y v u z F1 ok hx hy e Q k => by
  cases hy
  obtain ⟨_, a, rfl, h2⟩ := hx
  have hq : SqL K W.H a (x.map V.int) := by
    rcases h2 with (h | ⟨o, h⟩) | h
    · exact .inl (.inl (ok _ _ h))
    · exact .inl (.inr ⟨o, ok _ _ h⟩)
    · exact .inr h
  have e : atI x y = some z := e
  have e' : atI (x.map V.int) y = some (.int z) := by
    unfold atI at e ⊢
    rw [List.length_map]
    cases q : ixN x.length y with
    | none => rw [q] at e; cases e
    | some j =>
      rw [q] at e
      show (x.map V.int)[j]? = some (.int z)
      rw [List.getElem?_map, show x[j]? = some z from e]
      rfl
  exact ⟨a, _, y, .int z, rfl, rfl, hq, e', k _ ⟨[], ⟨rfl, rfl⟩, by simp⟩⟩
section
variable {S : Stc} {Γ Δ : Ctx} {a b c e tg iter elt : Expr} {es ifs : List Expr} {pos : Pos} {st : Stmt} {rest A B : List Stmt}
/-- an item of a tuple (of a list) of several kinds, at a written place -/
theorem atI_k {vs : List V} {k : Nat} {v : V} (h : vs[k]? = some v) : atI vs (k : Int) = some v := atI_nat h
theorem jn_ixT {ps : α → List SP} {E : β → SP} {g : α → β} {m : Option α} {j : Int} {kk p'} (k : Nat) (h : JN S a Γ m fun x => sh (htupS (ps x))) (hk : ∀ x, (ps x)[k]? = some (E (g x)) := by intro _; rfl) (hj : j = (k : Int) := by rfl) :
    JN S (.Subscript a (.Constant (.int j) kk p') pos) Γ (m.bind fun x => some (g x)) fun z => sh (E z) := fun σ W F sta z hz Q kq => by
  obtain ⟨x, h1, h2⟩ := run1 hz
  cases h2
  refine ⟨tOp (rIxT S.K) (tOf S a) (tC (.int j)), fun X hX => pe_ix (oIxT X hX) (peO hX) pe_int (fun _ _ => rfl), h σ W F sta x h1 _ fun v W' Fv ext _ _ r => ?_⟩
  obtain ⟨_, p, vs, rfl, q2, q3⟩ := r
  obtain ⟨u, u1, u2⟩ := q3.get (hk x)
  exact ⟨p, vs, j, u, rfl, rfl, .inl (.inl (ext.ok p _ q2)), by rw [hj]; exact atI_k u1, (kq.ext ext).val ext.ok u2⟩
theorem jn_ixH {ps : α → List SP} {E : β → SP} {g : α → β} {m : Option α} {j : Int} {kk p'} (k : Nat) (h : JN S a Γ m fun x => sh (hlstS (ps x))) (hk : ∀ x, (ps x)[k]? = some (E (g x)) := by intro _; rfl) (hj : j = (k : Int) := by rfl) :
    JN S (.Subscript a (.Constant (.int j) kk p') pos) Γ (m.bind fun x => some (g x)) fun z => sh (E z) := fun σ W F sta z hz Q kq => by
  obtain ⟨x, h1, h2⟩ := run1 hz
  cases h2
  refine ⟨tOp (rIxL S.K) (tOf S a) (tC (.int j)), fun X hX => pe_ix (oIxL X hX) (peO hX) pe_int (fun _ _ => rfl), h σ W F sta x h1 _ fun v W' Fv ext _ _ r => ?_⟩
  obtain ⟨_, p, vs, rfl, q2, q3⟩ := r
  obtain ⟨u, u1, u2⟩ := q3.get (hk x)
  exact ⟨p, vs, j, u, rfl, rfl, .inl (.inl (ext.ok p _ q2)), by rw [hj]; exact atI_k u1, (kq.ext ext).val ext.ok u2⟩
/-- .. of an owned list of several kinds -/
theorem jr_ixO {ps : α → List OP} {R : β → OP} {g : α → β} {m : Option α} {j : Int} {kk p'} (k : Nat) (h : JR S a Γ m fun x => hetO (ps x)) (hk : ∀ x, (ps x)[k]? = some (R (g x)) := by intro _; rfl) (hj : j = (k : Int) := by rfl) :
    JR S (.Subscript a (.Constant (.int j) kk p') pos) Γ (m.bind fun x => some (g x)) R := fun σ W F sta z hz Q kq => by
  obtain ⟨x, h1, h2⟩ := run1 hz
  cases h2
  refine ⟨tOp (rIxL S.K) (tOf S a) (tC (.int j)), fun X hX => pe_ix (oIxL X hX) (peO hX) pe_int (fun _ _ => rfl), h σ W F sta x h1 _ fun v W' ext ⟨F1, r, al⟩ => ?_⟩
  obtain ⟨p, vs, F2, rfl, q2, rfl, q3⟩ := r
  obtain ⟨u, G1, G2, u1, u2, u3, _⟩ := q3.at (hk x)
  exact ⟨p, vs, j, u, rfl, rfl, .inl (.inl q2), by rw [hj]; exact atI_k u1, kq u W' ext ⟨G1, u2, fun b hb => al b (List.mem_cons_of_mem _ (u3.mem_iff.mpr (List.mem_append_left _ hb)))⟩⟩
/-- len -/
theorem len_lstO {E : α → OP} {m : Option (List α)} {p : Pos} (hm : S.mg "len" = none) (h : JR S a Γ m (lstO E)) (hg : GlS S "len" := by rfl) (hs : ∀ env, starEach [a] env = [(false, eval a env)] := by intro _; rfl) : JN S (.Call (.Name "len" p) [a] [] pos) Γ (m.bind fun xs => some (xs.length : Int)) fun z => sh (intS z) := fun σ W F sta z hz Q kq => by
  obtain ⟨x, h1, h2⟩ := run1 hz
  cases h2
  refine ⟨tCB (fun xs H Q => ∃ p ys, xs = [.ref p] ∧ (SqL S.K H p ys ∨ SqT S.K H p ys) ∧ Q (.int ys.length) H) (tCons (tOf S a) tNil), fun X hX => pe_callB (hX.K ▸ call_len_seq) (hg.gl hX) (mgS hm hX) PySem.boot_len (pa_cons (peO hX) pa_nil (hs _)) (by decide) (by decide) (hs _) rfl, h σ W F sta x h1 _ fun v W' ext ⟨F1, r, al⟩ => ?_⟩
  obtain ⟨p, vs, F2, rfl, q2, rfl, q3⟩ := r
  exact ⟨p, vs, rfl, .inl (.inl (.inl q2)), (kq.ext ext).val ext.ok (by rw [q3.len]; rfl)⟩
theorem hets1 {B : Hp} {vs : List V} {p : SP} (h : Hets B vs [p]) : ∃ v, vs = [v] ∧ p.P B v := by
  match vs, h with
  | [v], ⟨h, _⟩ => exact ⟨v, rfl, h⟩
theorem hets2 {B : Hp} {vs : List V} {p q : SP} (h : Hets B vs [p, q]) : ∃ v u, vs = [v, u] ∧ p.P B v ∧ q.P B u := by
  match vs, h with
  | [v, u], ⟨h, h', _⟩ => exact ⟨v, u, rfl, h, h'⟩
/-- f(x), a builtin of one shared argument -/
theorem jn_b1 {x : Str} {id : String} {p : Pos} {r : List V → Hp → VK → Prop} {m : Option α} {E : α → SP} {f : α → Option γ} {R : γ → OP} (hc : ∀ X, S.In X → CallR X (.builtin id) r)
    (hr : ∀ W x v z, Ex W.B W.H → (E x).P W.B v → f x = some z → ∀ Q : VK, Got (R z) W Q → r [v] W.H Q) (hm : S.mg x = none) (ha : JN S a Γ m fun x => sh (E x))
    (hg : GlS S x := by rfl) (hv : bootBuiltins x = some (.builtin id) := by decide +kernel) (hn : x ≠ "__name__" := by decide) (hdb : (x == ("__debug__" : Str)) = false := by decide)
    (hs : ∀ env, starEach [a] env = [(false, eval a env)] := by intro _; rfl) : JN S (.Call (.Name x p) [a] [] pos) Γ (m.bind fun y => f y) R := fun σ W F sta z hz Q k => by
  obtain ⟨y, h1, h2⟩ := run1 hz
  exact ⟨tCB r (tCons (tOf S a) tNil), fun X hX => pe_callB (hc X hX) (hg.gl hX) (mgS hm hX) hv (pa_cons (peO hX) pa_nil (hs _)) hn hdb (hs _) rfl, ha σ W F sta y h1 _ fun v W' Fv e _ _ hh => hr W' y v z e.ok hh.2 h2 Q (k.ext e)⟩
theorem jn_t1 {x : Str} {T : String} {p : Pos} {r : List V → Hp → VK → Prop} {m : Option α} {E : α → SP} {f : α → Option γ} {R : γ → OP} (hc : ∀ X, S.In X → CallR X (.type T) r)
    (hr : ∀ W x v z, Ex W.B W.H → (E x).P W.B v → f x = some z → ∀ Q : VK, Got (R z) W Q → r [v] W.H Q) (hm : S.mg x = none) (ha : JN S a Γ m fun x => sh (E x))
    (hg : GlS S x := by rfl) (hv : bootBuiltins x = some (.type T) := by decide +kernel) (hn : x ≠ "__name__" := by decide) (hdb : (x == ("__debug__" : Str)) = false := by decide)
    (hs : ∀ env, starEach [a] env = [(false, eval a env)] := by intro _; rfl) : JN S (.Call (.Name x p) [a] [] pos) Γ (m.bind fun y => f y) R := fun σ W F sta z hz Q k => by
  obtain ⟨y, h1, h2⟩ := run1 hz
  exact ⟨tCB r (tCons (tOf S a) tNil), fun X hX => pe_callTy (hc X hX) (hg.gl hX) (mgS hm hX) hv (pa_cons (peO hX) pa_nil (hs _)) hn hdb (hs _) rfl, ha σ W F sta y h1 _ fun v W' Fv e _ _ hh => hr W' y v z e.ok hh.2 h2 Q (k.ext e)⟩
theorem len_lst {E : α → SP} {m : Option (List α)} {p : Pos} (hm : S.mg "len" = none) (h : JN S a Γ m fun x => sh (lstS E x)) (hg : GlS S "len" := by rfl) (hs : ∀ env, starEach [a] env = [(false, eval a env)] := by intro _; rfl) : JN S (.Call (.Name "len" p) [a] [] pos) Γ (m.bind fun xs => some (xs.length : Int)) fun z => sh (intS z) :=
  jn_b1 (r := fun xs H Q => ∃ p ys, xs = [.ref p] ∧ (SqL S.K H p ys ∨ SqT S.K H p ys) ∧ Q (.int ys.length) H) (f := fun xs : List α => some (xs.length : Int)) (fun X hX => hX.K ▸ call_len_seq) (fun W x v z ok hh e Q k => by
    cases e
    obtain ⟨p, vs, rfl, q2, q3⟩ := hh
    exact ⟨p, vs, rfl, .inl (.inl (.inl (ok p _ q2))), k.val ok (by rw [q3.len]; rfl)⟩) hm h hg PySem.boot_len (by decide) (by decide) hs
theorem len_tup {E : α → SP} {m : Option (List α)} {p : Pos} (hm : S.mg "len" = none) (h : JN S a Γ m fun x => sh (tupS E x)) (hg : GlS S "len" := by rfl) (hs : ∀ env, starEach [a] env = [(false, eval a env)] := by intro _; rfl) : JN S (.Call (.Name "len" p) [a] [] pos) Γ (m.bind fun xs => some (xs.length : Int)) fun z => sh (intS z) :=
  jn_b1 (r := fun xs H Q => ∃ p ys, xs = [.ref p] ∧ (SqL S.K H p ys ∨ SqT S.K H p ys) ∧ Q (.int ys.length) H) (f := fun xs : List α => some (xs.length : Int)) (fun X hX => hX.K ▸ call_len_seq) (fun W x v z ok hh e Q k => by
    cases e
    obtain ⟨p, vs, rfl, q2, q3⟩ := hh
    exact ⟨p, vs, rfl, .inr (.inl (.inl (ok p _ q2))), k.val ok (by rw [q3.len]; rfl)⟩) hm h hg PySem.boot_len (by decide) (by decide) hs
theorem int_int {m : Option Int} {p : Pos} (hm : S.mg "int" = none) (h : JN S a Γ m fun x => sh (intS x)) (hg : GlS S "int" := by rfl) (hs : ∀ env, starEach [a] env = [(false, eval a env)] := by intro _; rfl) : JN S (.Call (.Name "int" p) [a] [] pos) Γ (m.bind fun x => some x) fun z => sh (intS z) :=
  jn_t1 (f := fun x : Int => some x) (fun X hX => call_int1) (fun W x v z ok hh e Q k => by
    cases e
    cases hh
    exact .inl ⟨_, rfl, k.val ok rfl⟩) hm h hg (by decide +kernel) (by decide) (by decide) hs
def b2i (b : Bool) : Int := if b then 1 else 0
theorem int_bool {m : Option Bool} {p : Pos} (hm : S.mg "int" = none) (h : JN S a Γ m fun x => sh (boolS x)) (hg : GlS S "int" := by rfl) (hs : ∀ env, starEach [a] env = [(false, eval a env)] := by intro _; rfl) : JN S (.Call (.Name "int" p) [a] [] pos) Γ (m.bind fun x => some (b2i x)) fun z => sh (intS z) :=
  jn_t1 (f := fun x : Bool => some (b2i x)) (fun X hX => call_int1) (fun W x v z ok hh e Q k => by
    cases e
    cases hh
    exact .inr ⟨_, rfl, k.val ok rfl⟩) hm h hg (by decide +kernel) (by decide) (by decide) hs
def absI (i : Int) : Int := if i < 0 then -i else i
theorem abs_int {m : Option Int} {p : Pos} (hm : S.mg "abs" = none) (h : JN S a Γ m fun x => sh (intS x)) (hg : GlS S "abs" := by rfl) (hs : ∀ env, starEach [a] env = [(false, eval a env)] := by intro _; rfl) : JN S (.Call (.Name "abs" p) [a] [] pos) Γ (m.bind fun x => some (absI x)) fun z => sh (intS z) :=
  jn_b1 (f := fun x : Int => some (absI x)) (fun X hX => call_abs) (fun W x v z ok hh e Q k => by
    cases e
    cases hh
    exact ⟨_, rfl, k.val ok rfl⟩) hm h hg (by decide +kernel) (by decide) (by decide) hs
theorem sum_scr {m : Option (List Int)} {p : Pos} (hm : S.mg "sum" = none) (h : JN S a Γ m fun x => sh (scrS S.K x)) (hg : GlS S "sum" := by rfl) (hs : ∀ env, starEach [a] env = [(false, eval a env)] := by intro _; rfl) : JN S (.Call (.Name "sum" p) [a] [] pos) Γ (m.bind fun x => some x.sum) fun z => sh (intS z) :=
  jn_b1 (f := fun x : List Int => some x.sum) (fun X hX => hX.K ▸ cr_sum hX.calm) (fun W x v z ok hh e Q k => by
    cases e
    obtain ⟨a, rfl, h2⟩ := hh
    refine ⟨a, x, rfl, ?_, k.val ok rfl⟩
    rcases h2 with (h | ⟨o, h⟩) | h
    · exact .inl (.inl (ok _ _ h))
    · exact .inl (.inr ⟨o, ok _ _ h⟩)
    · exact .inr h) hm h hg (by decide +kernel) (by decide) (by decide) hs
theorem fp_one {W : Wd} {l : Addr} {o : HO} (h : W.B l = none) : FpOk ⟨upd W.H l o, W.B⟩ [l] :=
  ⟨by simp, fun a ha => by
    rw [List.mem_singleton.mp ha]
    show upd W.H l o l ≠ none
    rw [upd_same]
    exact Option.some_ne_none _, fun a ha => by
    rw [List.mem_singleton.mp ha]
    exact h⟩
theorem Got.newL {W : Wd} {Q : VK} {E : α → SP} {xs : List α} {vs : List V} (k : Got (lstO (fun x => sh (E x)) xs) W Q) (ok : Ex W.B W.H) (h : Each E W.B vs xs) : ∀ l, W.H l = none → Q (.ref l) (upd W.H l (.lst vs)) := fun l hl =>
  k (.ref l) ⟨upd W.H l (.lst vs), W.B⟩ [l] (Ext.new ok hl) (fun a ha => by rw [List.mem_singleton.mp ha]; exact hl) (fp_one (ok.back hl)) ⟨l, vs, [], rfl, upd_same, rfl, Owns.of_each h⟩
theorem Got.newT {W : Wd} {Q : VK} {E : α → SP} {xs : List α} {vs : List V} (k : Got (sh (tupS E xs)) W Q) (ok : Ex W.B W.H) (h : Each E W.B vs xs) : ∀ l, W.H l = none → Q (.ref l) (upd W.H l (.tup vs)) := fun l hl =>
  k (.ref l) ⟨upd W.H l (.tup vs), upd W.B l (.tup vs)⟩ [] (Ext.newB ok hl) (by simp) FpOk.nil ⟨rfl, l, vs, rfl, upd_same, h.mono (Ext.newB ok hl).b⟩
theorem list_scr {m : Option (List Int)} {p : Pos} (hm : S.mg "list" = none) (h : JN S a Γ m fun x => sh (scrS S.K x)) (hg : GlS S "list" := by rfl) (hs : ∀ env, starEach [a] env = [(false, eval a env)] := by intro _; rfl) : JN S (.Call (.Name "list" p) [a] [] pos) Γ (m.bind fun x => some x) (lstO fun x => sh (intS x)) :=
  jn_t1 (f := fun x : List Int => some x) (fun X hX => hX.K ▸ call_list_of) (fun W x v z ok hh e Q k => by
    cases e
    obtain ⟨a, rfl, h2⟩ := hh
    have hq : SqL S.K W.H a (x.map V.int) := by
      rcases h2 with (h | ⟨o, h⟩) | h
      · exact .inl (.inl (ok _ _ h))
      · exact .inl (.inr ⟨o, ok _ _ h⟩)
      · exact .inr h
    have hE : Each intS W.B (x.map V.int) x := by
      clear k h2 hq h
      induction x with
      | nil => trivial
      | cons y x ih => exact ⟨rfl, ih⟩
    exact ⟨a, _, rfl, .inl hq, k.newL ok hE⟩) hm h hg (by decide +kernel) (by decide) (by decide) hs
theorem list_lst {E : α → SP} {m : Option (List α)} {p : Pos} (hm : S.mg "list" = none) (h : JN S a Γ m fun x => sh (lstS E x)) (hg : GlS S "list" := by rfl) (hs : ∀ env, starEach [a] env = [(false, eval a env)] := by intro _; rfl) : JN S (.Call (.Name "list" p) [a] [] pos) Γ (m.bind fun x => some x) (lstO fun x => sh (E x)) :=
  jn_t1 (f := fun x : List α => some x) (fun X hX => hX.K ▸ call_list_of) (fun W x v z ok hh e Q k => by
    cases e
    obtain ⟨a, vs, rfl, h2, h3⟩ := hh
    exact ⟨a, _, rfl, .inl (.inl (.inl (ok a _ h2))), k.newL ok h3⟩) hm h hg (by decide +kernel) (by decide) (by decide) hs
theorem list_tup {E : α → SP} {m : Option (List α)} {p : Pos} (hm : S.mg "list" = none) (h : JN S a Γ m fun x => sh (tupS E x)) (hg : GlS S "list" := by rfl) (hs : ∀ env, starEach [a] env = [(false, eval a env)] := by intro _; rfl) : JN S (.Call (.Name "list" p) [a] [] pos) Γ (m.bind fun x => some x) (lstO fun x => sh (E x)) :=
  jn_t1 (f := fun x : List α => some x) (fun X hX => hX.K ▸ call_list_of) (fun W x v z ok hh e Q k => by
    cases e
    obtain ⟨a, vs, rfl, h2, h3⟩ := hh
    exact ⟨a, _, rfl, .inr (.inl (.inl (ok a _ h2))), k.newL ok h3⟩) hm h hg (by decide +kernel) (by decide) (by decide) hs
/-- tuple of a list, fresh or shared -/
theorem tup_lst {E : α → SP} {m : Option (List α)} {p : Pos} (hm : S.mg "tuple" = none) (h : JN S a Γ m fun x => sh (lstS E x)) (hg : GlS S "tuple" := by rfl) (hs : ∀ env, starEach [a] env = [(false, eval a env)] := by intro _; rfl) : JN S (.Call (.Name "tuple" p) [a] [] pos) Γ (m.bind fun x => some x) fun x => sh (tupS E x) :=
  jn_t1 (f := fun x : List α => some x) (fun X hX => hX.K ▸ call_tuple_of) (fun W x v z ok hh e Q k => by
    cases e
    obtain ⟨a, vs, rfl, h2, h3⟩ := hh
    exact ⟨a, vs, rfl, .inl ⟨.inl (.inl (ok a _ h2)), k.newT ok h3⟩⟩) hm h hg (by decide +kernel) (by decide) (by decide) hs
theorem tup_own {E : α → SP} {m : Option (List α)} {p : Pos} (hm : S.mg "tuple" = none) (h : JR S a Γ m (lstO fun x => sh (E x))) (hg : GlS S "tuple" := by rfl) (hs : ∀ env, starEach [a] env = [(false, eval a env)] := by intro _; rfl) : JN S (.Call (.Name "tuple" p) [a] [] pos) Γ (m.bind fun x => some x) fun x => sh (tupS E x) := fun σ W F sta z hz Q kq => by
  obtain ⟨x, h1, h2⟩ := run1 hz
  cases h2
  refine ⟨tCB (fun xs H Q => ∃ p ys, xs = [.ref p] ∧ ((SqL S.K H p ys ∧ ∀ l, H l = none → Q (.ref l) (upd H l (.tup ys))) ∨ (SqT S.K H p ys ∧ Q (.ref p) H))) (tCons (tOf S a) tNil), fun X hX => pe_callTy (hX.K ▸ call_tuple_of) (hg.gl hX) (mgS hm hX) (by decide +kernel) (pa_cons (peO hX) pa_nil (hs _)) (by decide) (by decide) (hs _) rfl, h σ W F sta z h1 _ fun v W' ext ⟨F1, r, al⟩ => ?_⟩
  obtain ⟨p, vs, F2, rfl, q2, rfl, q3⟩ := r
  obtain ⟨_, q4⟩ := q3.each
  exact ⟨p, vs, rfl, .inl ⟨.inl (.inl q2), (kq.ext ext).newT ext.ok q4⟩⟩
/-- list(range(n)), tuple(range(n)) -/
theorem each_rg {B : Hp} (lo hi : Int) : Each intS B (rgV lo hi) ((List.range (hi - lo).toNat).map fun i : Nat => lo + (i : Int)) := by
  unfold rgV
  generalize List.range (hi - lo).toNat = l
  induction l with
  | nil => trivial
  | cons y l ih => exact ⟨rfl, ih⟩
theorem list_rng {m : Option Int} {p p2 pos2 : Pos} (hm : S.mg "list" = none) (hm2 : S.mg "range" = none) (h : JN S a Γ m fun x => sh (intS x)) (hg : GlS S "list" := by rfl) (hg2 : GlS S "range" := by rfl) (hs : ∀ env, starEach [a] env = [(false, eval a env)] := by intro _; rfl)
    (hs2 : ∀ env, starEach [Expr.Call (.Name "range" p2) [a] [] pos2] env = [(false, eval (Expr.Call (.Name "range" p2) [a] [] pos2) env)] := by intro _; rfl) :
    JN S (.Call (.Name "list" p) [.Call (.Name "range" p2) [a] [] pos2] [] pos) Γ (m.bind fun n => rng 0 n) (lstO fun x => sh (intS x)) := fun σ W F sta z hz Q kq => by
  obtain ⟨n, h1, h2⟩ := run1 hz
  unfold rng at h2
  split at h2
  · rename_i hb
    cases h2
    refine ⟨tLstRg (tRg1 (tOf S a)), fun X hX => pe_listRg hX.calm (hg.gl hX) (mgS hm hX) (prg_1 (hg2.gl hX) (mgS hm2 hX) (peO hX) (hs _)) (hs2 _), h σ W F sta n h1 _ fun v W' Fv ext _ _ r => ?_⟩
    obtain ⟨_, rfl⟩ := r
    have z : (LIM : Int) = 1000000 := rfl
    exact ⟨n, rfl, ⟨by omega, by omega, by omega, by omega, by omega⟩, (kq.ext ext).newL ext.ok (each_rg 0 n)⟩
  · cases h2
theorem tup_rng {m : Option Int} {p p2 pos2 : Pos} (hm : S.mg "tuple" = none) (hm2 : S.mg "range" = none) (h : JN S a Γ m fun x => sh (intS x)) (hg : GlS S "tuple" := by rfl) (hg2 : GlS S "range" := by rfl) (hs : ∀ env, starEach [a] env = [(false, eval a env)] := by intro _; rfl)
    (hs2 : ∀ env, starEach [Expr.Call (.Name "range" p2) [a] [] pos2] env = [(false, eval (Expr.Call (.Name "range" p2) [a] [] pos2) env)] := by intro _; rfl) :
    JN S (.Call (.Name "tuple" p) [.Call (.Name "range" p2) [a] [] pos2] [] pos) Γ (m.bind fun n => rng 0 n) (fun x => sh (tupS intS x)) := fun σ W F sta z hz Q kq => by
  obtain ⟨n, h1, h2⟩ := run1 hz
  unfold rng at h2
  split at h2
  · rename_i hb
    cases h2
    refine ⟨tTupRg (tRg1 (tOf S a)), fun X hX => pe_tupRg hX.calm (hg.gl hX) (mgS hm hX) (prg_1 (hg2.gl hX) (mgS hm2 hX) (peO hX) (hs _)) (hs2 _), h σ W F sta n h1 _ fun v W' Fv ext _ _ r => ?_⟩
    obtain ⟨_, rfl⟩ := r
    have z : (LIM : Int) = 1000000 := rfl
    exact ⟨n, rfl, ⟨by omega, by omega, by omega, by omega, by omega⟩, (kq.ext ext).newT ext.ok (each_rg 0 n)⟩
  · cases h2
/-- [] and displays of shared things -/
theorem jn_nilL {E : α → SP} : JN S (.List [] pos) Γ (some []) (lstO fun x => sh (E x)) := fun σ W F sta z hz Q kq => by
  cases hz
  exact ⟨tLst tNil, fun _ _ => pe_lst pa_nil, Nat.zero_le _, fun l hl => kq.newL sta.ok (vs := []) trivial l hl⟩
theorem jn_nilLO {E : α → OP} : JN S (.List [] pos) Γ (some []) (lstO E) := fun σ W F sta z hz Q kq => by
  cases hz
  refine ⟨tLst tNil, fun _ _ => pe_lst pa_nil, Nat.zero_le _, fun l hl => ?_⟩
  exact kq (.ref l) ⟨upd W.H l (.lst []), W.B⟩ [l] (Ext.new sta.ok hl) (fun a ha => by rw [List.mem_singleton.mp ha]; exact hl) (fp_one (sta.ok.back hl)) ⟨l, [], [], rfl, upd_same, rfl, rfl⟩
/-- a list of several kinds, all shared -/
theorem HetO.of_hets {W : Wd} : ∀ {vs : List V} {ps : List SP}, Hets W.B vs ps → HetO W vs (ps.map sh) []
  | [], [], _ => rfl
  | _ :: _, _ :: _, h => ⟨[], [], rfl, ⟨rfl, h.1⟩, HetO.of_hets h.2⟩
  | [], _ :: _, h => h.elim
  | _ :: _, [], h => h.elim
theorem jn_het {m : Option α} {R : α → List SP} (h : JA S es Γ m R) (hl : ∀ x, (R x).length ≤ 1000 := by intro _; decide) : JN S (.List es pos) Γ m fun x => hetO ((R x).map sh) := fun σ W F sta x hx Q kk =>
  ⟨tLst (taOf S es), fun X hX => pe_lst (paO hX), h σ W F sta x hx _ fun vs W' e hh => by
    refine ⟨Nat.le_trans (by rw [hh.len]; exact hl x) (by decide), fun q hq => ?_⟩
    exact kk (.ref q) ⟨upd W'.H q (.lst vs), W'.B⟩ [q] (e.trans (Ext.new e.ok hq)) (fun a ha => by rw [List.mem_singleton.mp ha]; exact e.h.back hq) (fp_one (e.ok.back hq))
      ⟨q, vs, [], rfl, upd_same, rfl, HetO.of_hets (W := ⟨upd W'.H q (.lst vs), W'.B⟩) hh⟩⟩
/-- the same, shared at once -/
theorem jn_hetS {m : Option α} {R : α → List SP} (h : JA S es Γ m R) (hl : ∀ x, (R x).length ≤ 1000 := by intro _; decide) : JN S (.List es pos) Γ m fun x => sh (hlstS (R x)) := fun σ W F sta x hx Q kk =>
  ⟨tLst (taOf S es), fun X hX => pe_lst (paO hX), h σ W F sta x hx _ fun vs W' e hh => by
    refine ⟨Nat.le_trans (by rw [hh.len]; exact hl x) (by decide), fun q hq => ?_⟩
    exact kk (.ref q) ⟨upd W'.H q (.lst vs), upd W'.B q (.lst vs)⟩ [] (e.trans (Ext.newB e.ok hq)) (by simp) FpOk.nil ⟨rfl, q, vs, rfl, upd_same, hh.mono (Ext.newB e.ok hq).b⟩⟩
/-- a display of shared things of one kind -/
theorem Hets.each {E : α → SP} {B : Hp} : ∀ {vs : List V} {xs : List α}, Hets B vs (xs.map E) → Each E B vs xs
  | [], [], _ => trivial
  | _ :: _, _ :: _, h => ⟨h.1, Hets.each h.2⟩
  | [], _ :: _, h => h.elim
  | _ :: _, [], h => h.elim
theorem jn_dispL {m : Option α} {E : β → SP} {g : α → List β} {R : α → List SP} (h : JA S es Γ m R) (hR : ∀ x, R x = (g x).map E := by intro _; rfl) (hl : ∀ x, (R x).length ≤ 1000 := by intro _; decide) : JN S (.List es pos) Γ (m.bind fun x => some (g x)) (lstO fun x => sh (E x)) := fun σ W F sta z hz Q kk => by
  obtain ⟨x, h1, h2⟩ := run1 hz
  cases h2
  refine ⟨tLst (taOf S es), fun X hX => pe_lst (paO hX), h σ W F sta x h1 _ fun vs W' e hh => ?_⟩
  refine ⟨Nat.le_trans (by rw [hh.len]; exact hl x) (by decide), fun q hq => ?_⟩
  rw [hR] at hh
  exact (kk.ext e).newL e.ok hh.each q hq
theorem jn_dispT {m : Option α} {E : β → SP} {g : α → List β} {R : α → List SP} {k : Nat} (h : JA S es Γ m R) (hR : ∀ x, R x = (g x).map E := by intro _; rfl) (hl : ∀ x, (R x).length ≤ 1000 := by intro _; decide) : JN S (.Tuple es k pos) Γ (m.bind fun x => some (g x)) fun x => sh (tupS E x) := fun σ W F sta z hz Q kk => by
  obtain ⟨x, h1, h2⟩ := run1 hz
  cases h2
  refine ⟨tTup (taOf S es), fun X hX => pe_tup (paO hX), h σ W F sta x h1 _ fun vs W' e hh => ?_⟩
  refine ⟨Nat.le_trans (by rw [hh.len]; exact hl x) (by decide), fun q hq => ?_⟩
  rw [hR] at hh
  exact (kk.ext e).newT e.ok hh.each q hq
end
end CC
set_option maxHeartbeats 4000000
/-! Items stored; defs; state. -/
namespace CC
open PySem PySem.Spec L2
open PyProof.Rows hiding St
variable {α β γ δ τ ω ρ υ : Type}
/-! ### xs[i] = e -/
def setAt (xs : List α) (i : Int) (x : α) : Option (List α) := (ixN xs.length i).bind fun j => some (xs.set j x)
section
variable {S : Stc} {Γ Δ : Ctx} {a b c e tg iter elt : Expr} {es ifs : List Expr} {pos : Pos} {st : Stmt} {rest A B : List Stmt}
theorem js_setI {x : Str} {p0 tpos : Pos} {E : α → OP} {xs : List α} {mv : Option α} {mi : Option Int} (i : Nat) (h : JN S e Γ mv E) (hb : JN S b Γ mi fun z => sh (intS z)) (hi : Γ[i]? = some (some (lstO E xs)) := by rfl) (hN : S.N[i]? = some x := by rfl) (hv : Vis S.sc x := by first | exact Or.inl rfl | exact Or.inr (Or.inl rfl) | exact Or.inr (Or.inr rfl))
    (hd : (x == ("__debug__" : Str)) = false := by decide) (hcd : (x == ("__classdict__" : Str)) = false := by decide)
    (ha : ∀ env v, assign (.Subscript (.Name x p0) b tpos) env v = (do
      let ov ← holding [v] (eval (.Name x p0) env)
      let iv ← holding [v, ov] (eval b env)
      standAt tpos
      holding [v, ov, iv] (setItem ov iv v)
      release [v, ov, iv] []) := by intro _ _; rfl) (hs : ∀ env, swapsWithSole [.Subscript (.Name x p0) b tpos] e pos.line env = pure false := by intro _; rfl) (hw : ∀ env, swappedStores [.Subscript (.Name x p0) b tpos] e env = pure none := by intro _; rfl)
    (h1 : ∀ env, (assignEach [.Subscript (.Name x p0) b tpos] env).map (·.2) = [assign (.Subscript (.Name x p0) b tpos) env] := by intro _; rfl) :
    JS S (.Assign [.Subscript (.Name x p0) b tpos] e pos) Γ (mv.bind fun v => mi.bind fun k => setAt xs k v) fun ys => .nx (Γ.set i (some (lstO E ys))) := fun σ W F sta z hz Ed kk => by
  obtain ⟨y, k, m1, m2, m3⟩ := run2 hz
  obtain ⟨j, j1, j2⟩ := run1 (f := fun j => some (xs.set j y)) m3
  cases j2
  refine ⟨tAsg (tOf S e) (gSub (tVar i) (tOf S b) rSetL), fun X hX => ps_asg (peO hX) (pg_sub (pe_var (by rw [hX.N]; exact hN) (visS hv hX) hd hcd) (peO hX) set_list (ha _)) (hs _) (hw _) (h1 _), ?_⟩
  refine h σ W F sta y m1 _ fun u W1 Fv ext fr fp r => ?_
  have sta1 := sta.ext ext
  obtain ⟨v, F1, F2, a1, a2, a3, a4⟩ := sta1.hold.at hi
  obtain ⟨p, vs, G2, rfl, b2, rfl, b4⟩ := a2
  refine ⟨.ref p, a1, ?_⟩
  refine hb σ W1 F sta1 k m2 _ fun t W2 _ ext2 _ _ r2 => ?_
  obtain ⟨_, rfl⟩ := r2
  have sta2 := sta1.ext ext2
  obtain ⟨v', F1', F2', c1, c2, c3, c4⟩ := sta2.hold.at hi
  have ev : v' = .ref p := by rw [a1] at c1; exact (Option.some.inj (Option.some.inj c1)).symm
  subst ev
  obtain ⟨p', vs', G2', e1, d2, rfl, d4⟩ := c2
  cases e1
  have hB : W2.B p = none := (sta2.fp.perm c3).fr p (by simp)
  have hx : xs[j]? ≠ none := by
    have := (ixN_seq j1).2.1
    rw [List.getElem?_eq_getElem this]
    exact Option.some_ne_none _
  obtain ⟨y0, hy0⟩ := Option.ne_none_iff_exists'.mp hx
  obtain ⟨w0, K1, K2, k1, k2, k3, k4⟩ := d4.at hy0
  have q : FpOk W2 (F ++ Fv) := (sta.fp.fresh ext fp fr).ext ext2
  have q2 : FpOk W2 (((p :: G2') ++ F2') ++ Fv) := q.perm (List.Perm.append_right Fv c3)
  have fpA : FpOk W2 ((p :: G2') ++ Fv) := by
    refine FpOk.left (F' := F2') (q2.perm ?_)
    rw [List.append_assoc, List.append_assoc]
    exact List.Perm.append_left _ List.perm_append_comm
  have nP : ∀ a ∈ G2' ++ Fv, a ≠ p := fun a ha z => (List.nodup_cons.mp fpA.nd).1 (z ▸ ha)
  have r' : (E y).C ⟨upd W2.H p (.lst (vs'.set j u)), W2.B⟩ u Fv := by
    refine OP.loc _ (OP.ext _ r ext2 fp) (fun _ _ h => h) fun a ha => ?_
    show upd W2.H p _ a = W2.H a
    exact upd_ne (nP a (List.mem_append_right _ ha))
  obtain ⟨G', g1, g2⟩ := k4 ⟨upd W2.H p (.lst (vs'.set j u)), W2.B⟩ y u Fv (fun _ _ h => h) (fun a ha => by
    show upd W2.H p _ a = W2.H a
    exact upd_ne (nP a (List.mem_append_left _ (k3.mem_iff.mpr (List.mem_append_right _ ha))))) r'
  refine ⟨p, vs', k, j, rfl, rfl, d2, by rw [d4.len]; exact j1, ?_⟩
  have fpB : FpOk W2 (p :: G') := by
    refine FpOk.left (F' := K1) (fpA.perm ?_)
    refine List.Perm.cons p ?_
    refine (List.Perm.append_right Fv k3).trans ?_
    refine List.Perm.trans ?_ (List.Perm.append_right K1 g2.symm)
    rw [List.append_assoc]
    refine List.perm_append_comm.trans ?_
    refine List.Perm.append_right K1 ?_
    exact List.perm_append_comm
  obtain ⟨F', s', stp⟩ := sta_own (W' := ⟨upd W2.H p (.lst (vs'.set j u)), W2.B⟩) (F1' := p :: G') (o' := lstO E (xs.set j y)) Fv sta2 q c1 c3 c4 (wr_ok ext2.ok hB) rfl (fun a ha _ => upd_ne fun z => ha (z ▸ List.mem_cons_self)) wr_al
    ⟨fpB.nd, fun a ha => wr_al a (fpB.al a ha), fpB.fr⟩ (fun a ha => by
      rcases List.mem_cons.mp ha with z | z
      · exact .inl (z ▸ List.mem_cons_self)
      · rcases List.mem_append.mp (g2.mem_iff.mp z) with z | z
        · exact .inr (.inl z)
        · exact .inl (List.mem_cons_of_mem _ (k3.mem_iff.mpr (List.mem_append_right _ z)))) ⟨p, vs'.set j u, G', rfl, upd_same, rfl, g1⟩
  have ext02 := ext.trans ext2
  exact kk σ _ F' Keep.refl ((ext02.stp fr).trans stp) s'
/-- xs[i][k] = e, the items of xs lists of one's own with shared items -/
def setAt2 (xss : List (List α)) (i k : Int) (x : α) : Option (List (List α)) := (atI xss i).bind fun xs => (setAt xs k x).bind fun ys => setAt xss i ys
theorem js_setI2 {x : Str} {p0 tpos tp2 : Pos} {E : α → SP} {xss : List (List α)} {mv : Option α} {mi mj : Option Int} (i : Nat) (h : JN S e Γ mv fun x => sh (E x)) (ha0 : JN S a Γ mi fun z => sh (intS z)) (hb : JN S b Γ mj fun z => sh (intS z)) (hi : Γ[i]? = some (some (lstO (fun xs => lstO (fun x => sh (E x)) xs) xss)) := by rfl) (hN : S.N[i]? = some x := by rfl) (hv : Vis S.sc x := by first | exact Or.inl rfl | exact Or.inr (Or.inl rfl) | exact Or.inr (Or.inr rfl))
    (hd : (x == ("__debug__" : Str)) = false := by decide) (hcd : (x == ("__classdict__" : Str)) = false := by decide) (hpl : PlainIx a := by exact fun _ _ => rfl)
    (ha : ∀ env v, assign (.Subscript (.Subscript (.Name x p0) a tp2) b tpos) env v = (do
      let ov ← holding [v] (eval (.Subscript (.Name x p0) a tp2) env)
      let iv ← holding [v, ov] (eval b env)
      standAt tpos
      holding [v, ov, iv] (setItem ov iv v)
      release [v, ov, iv] []) := by intro _ _; rfl) (hs : ∀ env, swapsWithSole [.Subscript (.Subscript (.Name x p0) a tp2) b tpos] e pos.line env = pure false := by intro _; rfl) (hw : ∀ env, swappedStores [.Subscript (.Subscript (.Name x p0) a tp2) b tpos] e env = pure none := by intro _; rfl)
    (h1 : ∀ env, (assignEach [.Subscript (.Subscript (.Name x p0) a tp2) b tpos] env).map (·.2) = [assign (.Subscript (.Subscript (.Name x p0) a tp2) b tpos) env] := by intro _; rfl) :
    JS S (.Assign [.Subscript (.Subscript (.Name x p0) a tp2) b tpos] e pos) Γ (mv.bind fun v => mi.bind fun k => mj.bind fun l => setAt2 xss k l v) fun ys => .nx (Γ.set i (some (lstO (fun xs => lstO (fun x => sh (E x)) xs) ys))) := fun σ W F sta z hz Ed kk => by
  obtain ⟨y, m1, m2⟩ := run1 hz
  obtain ⟨k, m3, m4⟩ := run1 (f := fun k => mj.bind fun l => setAt2 xss k l y) m2
  obtain ⟨l, m5, m6⟩ := run1 (f := fun l => setAt2 xss k l y) m4
  obtain ⟨xs, n1, n2⟩ := run1 (f := fun xs => (setAt xs l y).bind fun ys => setAt xss k ys) m6
  obtain ⟨ys, n3, n4⟩ := run1 (f := fun ys => setAt xss k ys) n2
  obtain ⟨jl, o1, o2⟩ := run1 (f := fun j => some (xs.set j y)) n3
  cases o2
  obtain ⟨jk, o3, o4⟩ := run1 (f := fun j => some (xss.set j (xs.set jl y))) n4
  cases o4
  have hxs : xss[jk]? = some xs := by
    unfold atI at n1
    rw [o3] at n1
    exact n1
  refine ⟨tAsg (tOf S e) (gSub (tOp (rIxL S.K) (tVar i) (tOf S a)) (tOf S b) rSetL), fun X hX => ps_asg (peO hX) (pg_sub (pe_ix (oIxL X hX) (pe_var (by rw [hX.N]; exact hN) (visS hv hX) hd hcd) (peO hX) hpl) (peO hX) set_list (ha _)) (hs _) (hw _) (h1 _), ?_⟩
  refine h σ W F sta y m1 _ fun u W1 Fv ext fr fp r => ?_
  obtain ⟨rfl, r⟩ := r
  have sta1 := sta.ext ext
  obtain ⟨v, F1, F2, a1, a2, a3, a4⟩ := sta1.hold.at hi
  obtain ⟨p, vs, G2, rfl, b2, rfl, b4⟩ := a2
  refine ⟨.ref p, a1, ?_⟩
  refine ha0 σ W1 F sta1 k m3 _ fun t W2 _ ext2 _ _ r2 => ?_
  obtain ⟨_, rfl⟩ := r2
  have sta2 := sta1.ext ext2
  obtain ⟨v', F1', F2', c1, c2, c3, c4⟩ := sta2.hold.at hi
  have ev : v' = .ref p := by rw [a1] at c1; exact (Option.some.inj (Option.some.inj c1)).symm
  subst ev
  obtain ⟨p', vs', G2', e1, d2, rfl, d4⟩ := c2
  cases e1
  obtain ⟨w0, K1, K2, k1, k2, k3, k4⟩ := d4.at hxs
  obtain ⟨p2, us, K3, rfl, l2, rfl, l4⟩ := k2
  refine ⟨p, vs', k, .ref p2, rfl, rfl, .inl (.inl d2), by unfold atI; rw [d4.len, o3]; exact k1, ?_⟩
  refine hb σ W2 F sta2 l m5 _ fun t W3 _ ext3 _ _ r3 => ?_
  obtain ⟨_, rfl⟩ := r3
  have sta3 := sta2.ext ext3
  -- the same facts, one world on
  obtain ⟨v', F1', F2', c1', c2', c3', c4'⟩ := sta3.hold.at hi
  have ev : v' = .ref p := by rw [a1] at c1'; exact (Option.some.inj (Option.some.inj c1')).symm
  subst ev
  obtain ⟨p', vs'', G3, e1, d2', rfl, d4'⟩ := c2'
  cases e1
  have evs : vs'' = vs' := by
    rw [ext3.h p _ d2] at d2'
    cases d2'
    rfl
  subst evs
  obtain ⟨w0, K1', K2', k1', k2', k3', k4'⟩ := d4'.at hxs
  rw [k1] at k1'
  cases k1'
  obtain ⟨p2', us', K3', e2, l2', rfl, l4'⟩ := k2'
  cases e2
  obtain ⟨rfl, l5⟩ := l4'.each
  have fpA := (sta3.fp.perm c3').left
  have hB : W3.B p2 = none := fpA.fr p2 (List.mem_cons_of_mem _ (k3'.mem_iff.mpr (by simp)))
  have hne : p ≠ p2 := fun z => (List.nodup_cons.mp fpA.nd).1 (z ▸ k3'.mem_iff.mpr (by simp))
  have hK : ∀ a ∈ K2', a ≠ p2 := fun a ha z => by
    have nd := (k3'.nodup_iff.mp (List.nodup_cons.mp fpA.nd).2)
    exact (List.nodup_cons.mp nd).1 (z ▸ ha)
  refine ⟨p2, us', l, jl, rfl, rfl, l2', by rw [l5.len]; exact o1, ?_⟩
  have rN : (lstO (fun x => sh (E x)) (xs.set jl y)).C ⟨upd W3.H p2 (.lst (us'.set jl u)), W3.B⟩ (.ref p2) [p2] :=
    ⟨p2, _, [], rfl, upd_same, rfl, Owns.of_each (l5.set (SP.mono _ r (ext2.b.trans ext3.b)) jl)⟩
  obtain ⟨G', g1, g2⟩ := k4' ⟨upd W3.H p2 (.lst (us'.set jl u)), W3.B⟩ (xs.set jl y) (.ref p2) [p2] (fun _ _ h => h) (fun a ha => upd_ne (hK a ha)) rN
  have hset : vs''.set jk (.ref p2) = vs'' := by
    refine List.ext_getElem? fun n => ?_
    by_cases z : jk = n
    · subst z
      rw [k1, List.getElem?_set_self (List.getElem?_eq_some_iff.mp k1).1]
    · rw [List.getElem?_set_ne z]
  rw [hset] at g1
  have pG : (p :: G').Perm (p :: G3) := List.Perm.cons p (g2.trans k3'.symm)
  have fpB := fpA.perm pG.symm
  obtain ⟨F', s', stp⟩ := sta_own (W' := ⟨upd W3.H p2 (.lst (us'.set jl u)), W3.B⟩) (F1' := p :: G') (o' := lstO (fun xs => lstO (fun x => sh (E x)) xs) (xss.set jk (xs.set jl y))) [] sta3 (by rw [List.append_nil]; exact sta3.fp) c1' c3' c4' (wr_ok ext3.ok hB) rfl
    (fun a ha _ => upd_ne fun z => ha (z ▸ List.mem_cons_of_mem _ (k3'.mem_iff.mpr (by simp)))) wr_al ⟨fpB.nd, fun a ha => wr_al a (fpB.al a ha), fpB.fr⟩ (fun a ha => .inl (pG.mem_iff.mp ha)) ⟨p, vs'', G', rfl, (upd_ne hne).trans d2', rfl, g1⟩
  rw [List.append_nil] at stp
  have ext03 := (ext.trans ext2).trans ext3
  have stpE : Stp W F W3 F := by have := ext03.stp (F := F) (Fv := []) (by simp); rwa [List.append_nil] at this
  exact kk σ _ F' Keep.refl (stpE.trans stp) s'
/-- xs[k] = e at a written place of a list of several kinds -/
theorem js_setH {x : Str} {p0 tpos : Pos} {ps : List OP} {E : α → SP} {o : OP} {mv : Option α} {j : Int} {kk p'} (i k : Nat) (h : JN S e Γ mv fun x => sh (E x)) (hi : Γ[i]? = some (some (hetO ps)) := by rfl) (hk : ps[k]? = some o := by rfl) (hj : j = (k : Int) := by rfl) (hN : S.N[i]? = some x := by rfl) (hv : Vis S.sc x := by first | exact Or.inl rfl | exact Or.inr (Or.inl rfl) | exact Or.inr (Or.inr rfl))
    (hd : (x == ("__debug__" : Str)) = false := by decide) (hcd : (x == ("__classdict__" : Str)) = false := by decide)
    (ha : ∀ env v, assign (.Subscript (.Name x p0) (.Constant (.int j) kk p') tpos) env v = (do
      let ov ← holding [v] (eval (.Name x p0) env)
      let iv ← holding [v, ov] (eval (.Constant (.int j) kk p') env)
      standAt tpos
      holding [v, ov, iv] (setItem ov iv v)
      release [v, ov, iv] []) := by intro _ _; rfl) (hs : ∀ env, swapsWithSole [.Subscript (.Name x p0) (.Constant (.int j) kk p') tpos] e pos.line env = pure false := by intro _; rfl) (hw : ∀ env, swappedStores [.Subscript (.Name x p0) (.Constant (.int j) kk p') tpos] e env = pure none := by intro _; rfl)
    (h1 : ∀ env, (assignEach [.Subscript (.Name x p0) (.Constant (.int j) kk p') tpos] env).map (·.2) = [assign (.Subscript (.Name x p0) (.Constant (.int j) kk p') tpos) env] := by intro _; rfl) :
    JS S (.Assign [.Subscript (.Name x p0) (.Constant (.int j) kk p') tpos] e pos) Γ mv fun y => .nx (Γ.set i (some (hetO (ps.set k (sh (E y)))))) := fun σ W F sta y m1 Ed kq => by
  refine ⟨tAsg (tOf S e) (gSub (tVar i) (tC (.int j)) rSetL), fun X hX => ps_asg (peO hX) (pg_sub (pe_var (by rw [hX.N]; exact hN) (visS hv hX) hd hcd) pe_int set_list (ha _)) (hs _) (hw _) (h1 _), ?_⟩
  refine h σ W F sta y m1 _ fun u W1 Fv ext fr fp r => ?_
  obtain ⟨rfl, r⟩ := r
  have sta1 := sta.ext ext
  obtain ⟨v, F1, F2, a1, a2, a3, a4⟩ := sta1.hold.at hi
  obtain ⟨p, vs, G2, rfl, b2, rfl, b4⟩ := a2
  have hB : W1.B p = none := (sta1.fp.perm a3).fr p (by simp)
  obtain ⟨w0, K1, K2, k1, k2, k3, k4⟩ := b4.at hk
  have fpA := (sta1.fp.perm a3).left
  have nP : ∀ a ∈ G2, a ≠ p := fun a ha z => (List.nodup_cons.mp fpA.nd).1 (z ▸ ha)
  obtain ⟨G', g1, g2⟩ := k4 ⟨upd W1.H p (.lst (vs.set k u)), W1.B⟩ (sh (E y)) u [] (fun _ _ h => h) (fun a ha => upd_ne (nP a (k3.mem_iff.mpr (List.mem_append_right _ ha)))) ⟨rfl, r⟩
  have sub : ∀ a ∈ p :: G', a ∈ p :: G2 := fun a ha => by
    rcases List.mem_cons.mp ha with z | z
    · exact z ▸ List.mem_cons_self
    · exact List.mem_cons_of_mem _ (k3.mem_iff.mpr (List.mem_append_right _ (by simpa using g2.mem_iff.mp z)))
  have fpB : FpOk W1 (p :: G') := by
    refine FpOk.left (F' := K1) (fpA.perm ?_)
    refine List.Perm.cons p ?_
    refine k3.trans (List.perm_append_comm.trans (List.Perm.append_right K1 ?_))
    simpa using g2.symm
  refine ⟨.ref p, a1, p, vs, j, k, rfl, rfl, b2, ?_, ?_⟩
  · rw [hj]
    have : k < vs.length := (List.getElem?_eq_some_iff.mp k1).1
    unfold ixN
    rw [if_pos (by omega), if_pos (by omega)]
    simp
  · obtain ⟨F', s', stp⟩ := sta_own (W' := ⟨upd W1.H p (.lst (vs.set k u)), W1.B⟩) (F1' := p :: G') (o' := hetO (ps.set k (sh (E y)))) [] sta1 (by rw [List.append_nil]; exact sta1.fp) a1 a3 a4 (wr_ok ext.ok hB) rfl (fun a ha _ => upd_ne fun z => ha (z ▸ List.mem_cons_self)) wr_al
      ⟨fpB.nd, fun a ha => wr_al a (fpB.al a ha), fpB.fr⟩ (fun a ha => .inl (sub a ha)) ⟨p, vs.set k u, G', rfl, upd_same, rfl, g1⟩
    rw [List.append_nil] at stp
    have stpE : Stp W F W1 F := by have := ext.stp (F := F) (Fv := []) (by simp); rwa [List.append_nil] at this
    exact kq σ _ F' Keep.refl (stpE.trans stp) s'
/-! ### defs -/
end
abbrev stcOf (P : Program) (w : World) (K : PySem.W.Frag) (mg : Str → Option Value) (base : Heap) (N : List Str) (sc : Scope) (k : Nat) (prot : List Nat) : Stc := ⟨P, w, K, mg, base, N, sc, k, fun _ => true, prot⟩
def shC (ps : List SP) : Ctx := ps.map fun p => some (sh p)
def nonC (n : Nat) : Ctx := List.replicate n none
theorem holds_non {W : Wd} : ∀ (n : Nat) (σ : L2.St), Holds (nonC n) σ W []
  | 0, _ => rfl
  | n + 1, σ => holds_non n σ.tail
theorem holds_sh {W : Wd} {n : Nat} : ∀ {vs : List V} {ps : List SP} {r : L2.St}, Hets W.B vs ps → Holds (shC ps ++ nonC n) (vs.map some ++ r) W []
  | [], [], r, _ => holds_non n r
  | v :: vs, p :: ps, r, h => ⟨v, [], [], rfl, rfl, ⟨rfl, h.1⟩, holds_sh (n := n) h.2⟩
  | [], _ :: _, _, h => h.elim
  | _ :: _, [], _, h => h.elim
section
variable {P : Program} {w : World} {K : PySem.W.Frag} {mg : Str → Option Value} {base : Heap}
theorem in_cx {N : List Str} {st : Stmt} {k : Nat} {prot : List Nat} {qual : Str} {f : Addr} {cdv : Value} {A : Around} {outer : List Env} {s : Shared} {H : Hp} {E : XK} (hr : Room k (A.deeper (envOfC qual (defScope st) s.heap.objs.size f cdv))) :
    (stcOf P w K mg base N (defScope st) k prot).In (cxOf CX0 P w K mg base N qual (defScope st) f cdv A outer s H E).nox := ⟨rfl, rfl, rfl, rfl, rfl, rfl, rfl, rfl, rfl, hr, rfl⟩
theorem fn_pure {x qual : Str} {st : Stmt} {f : Addr} {fd : FuncData} {N ps : List Str} {k : Nat} {G : α → List SP} {fM : α → Option ρ} {R : ρ → OP} {Δ : Ctx} (F : Fun K x qual st f fd) (Sc : FnScope N ps (defScope st)) (hG : ∀ a, (G a).length = ps.length) (hn : ps.length ≤ N.length)
    (body : ∀ a, JB (stcOf P w K mg base N (defScope st) k []) (defBody st) (shC (G a) ++ nonC (N.length - ps.length)) (fM a) fun r => .rt Δ (R r)) : FnOk P w K mg base CX0 (k + 1) f fd ps (spP G fM R) := by
  refine F.ok Sc (fun vs H Q E h => ?_) (fun cdv A outer s H vs Q E hr h => ?_)
  · obtain ⟨a, W, r, _, _, h3, _⟩ := h
    rw [h3.len, hG]
  · obtain ⟨a, W, r, rfl, ok, h3, h4, kq⟩ := h
    refine ⟨tbOf (stcOf P w K mg base N (defScope st) k []) (defBody st), pbO (in_cx hr), ?_⟩
    have hl : vs.length = ps.length := h3.len.trans (hG a)
    have sta : Sta (shC (G a) ++ nonC (N.length - ps.length)) (L2.start N vs) W [] := ⟨ok, FpOk.nil, by unfold L2.start shC nonC; simp [h3.len, hG, hl], by unfold L2.start; rw [hl]; exact holds_sh h3⟩
    exact body a _ W [] sta r h4 _ fun v σ' W' F' Fv _ stp _ fp rr => by
      obtain ⟨ext, fr⟩ := stp.ext
      exact kq v W' Fv ext (fun a ha => fr a (List.mem_append_right _ ha)) fp.right rr
theorem fn_state {x qual : Str} {st : Stmt} {f : Addr} {fd : FuncData} {N ps : List Str} {k : Nat} {O : τ → OP} {G : α → List SP} {fM : α → τ → Option (ρ × τ)} {R : ρ → OP} (F : Fun K x qual st f fd) (Sc : FnScope N ps (defScope st)) (hG : ∀ a, (G a).length + 1 = ps.length) (hn : ps.length ≤ N.length)
    (body : ∀ a s, JB (stcOf P w K mg base N (defScope st) k [0]) (defBody st) (some (O s) :: (shC (G a) ++ nonC (N.length - ps.length))) (fM a s) fun r => .rt (some (O r.2) :: nonC (N.length - 1)) (R r.1)) : FnOk P w K mg base CX0 (k + 1) f fd ps (spS O G fM R) := by
  refine F.ok Sc (fun vs H Q E h => ?_) (fun cdv A outer s H vs Q E hr h => ?_)
  · obtain ⟨a, s, W, F, v0, vr, r, rfl, _, _, _, _, h3, _⟩ := h
    rw [List.length_cons, h3.len, hG]
  · obtain ⟨a, s0, W, Fp, v0, vr, r, rfl, rfl, ok, fp0, h0, h3, h4, kq⟩ := h
    refine ⟨tbOf (stcOf P w K mg base N (defScope st) k [0]) (defBody st), pbO (in_cx hr), ?_⟩
    have hl : (v0 :: vr).length = ps.length := by rw [List.length_cons, h3.len]; exact hG a
    have sta : Sta (some (O s0) :: (shC (G a) ++ nonC (N.length - ps.length))) (L2.start N (v0 :: vr)) W Fp := ⟨ok, fp0, by
      unfold L2.start shC nonC
      have := hG a
      simp [h3.len]
      omega, ⟨v0, Fp, [], rfl, (List.append_nil _).symm, h0, by
      unfold L2.start
      rw [hl]
      exact holds_sh h3⟩⟩
    refine body a s0 _ W Fp sta r h4 _ fun v σ' W' F' Fv kp stp sa fp rr => ?_
    obtain ⟨u, F1, F2, b1, b2, b3, b4⟩ := sa.hold
    have e0 : σ'[0]? = some (some v0) := (kp 0 (by simp)).trans rfl
    have eu : u = v0 := by
      rw [List.head?_eq_getElem?] at b1
      rw [e0] at b1
      exact (Option.some.inj (Option.some.inj b1)).symm
    subst eu
    have eF : F2 = [] := by
      have : ∀ (n : Nat) (σ : L2.St) (F : List Addr), Holds (nonC n) σ W' F → F = [] := by
        intro n
        induction n with
        | zero => intro σ F h; exact h
        | succ n ih => intro σ F h; exact ih σ.tail F h
      exact this _ _ _ b4
    subst eF
    rw [List.append_nil] at b2
    subst b2
    exact kq v W' F' Fv stp fp b3 rr
end
end CC
set_option maxHeartbeats 4000000
/-! Expressions that change what is owned. -/
namespace CC
open PySem PySem.Spec L2
open PyProof.Rows hiding St
variable {α β γ δ τ ω ρ υ : Type}
def JEA (S : Stc) (es : List Expr) (Γ : τ → Ctx) (s : τ) (m : Option (α × τ)) (G : α → List SP) : Prop :=
  ∀ σ W F, Sta (Γ s) σ W F → ∀ x, m = some x → ∀ Q : List V → Hp → Prop, (∀ vs W' F', Stp W F W' F' → Sta (Γ x.2) σ W' F' → Hets W'.B vs (G x.1) → Q vs W'.H) → taOf S es σ W.H Q
def JTE (S : Stc) (e : Expr) (Γ : τ → Ctx) (s : τ) (m : Option (Bool × τ)) : Prop :=
  ∀ σ W F, Sta (Γ s) σ W F → ∀ x, m = some x → ∀ Q : Bool → Hp → Prop, (∀ W' F', Stp W F W' F' → Sta (Γ x.2) σ W' F' → Q x.1 W'.H) → ttOf S e σ W.H Q
def JWE (S : Stc) (e : Expr) (Γ : τ → Ctx) (s : τ) (m : Option (Bool × τ)) : Prop :=
  ∀ σ W F, Sta (Γ s) σ W F → ∀ x, m = some x → ∀ Q : Bool → Hp → Prop, (∀ W' F', Stp W F W' F' → Sta (Γ x.2) σ W' F' → Q x.1 W'.H) → twOf S e σ W.H Q
def JIE (S : Stc) (tg iter : Expr) (Γ : τ → Ctx) (s : τ) (m : Option (List α × τ)) (E : α → SP) : Prop :=
  ∀ σ W F, Sta (Γ s) σ W F → ∀ x, m = some x → ∀ R : It → Hp → Prop, (∀ J W' F', Stp W F W' F' → Sta (Γ x.2) σ W' F' → ItOk J (fun W1 => Ex W1.B W1.H ∧ Ex W'.B W1.B) x.1 E → R J W'.H) → tiOf S tg iter σ W.H R
theorem Ext.stp0 {W W' : Wd} {F : List Addr} (e : Ext W W') : Stp W F W' F := by
  have := e.stp (F := F) (Fv := []) (by simp)
  rwa [List.append_nil] at this
section
variable {S : Stc} {Γ : τ → Ctx} {s : τ} {a b c e tg iter elt : Expr} {es ifs : List Expr} {pos : Pos} {st : Stmt} {rest A B : List Stmt}
theorem je_of {m : Option α} {R : α → OP} (h : JN S e (Γ s) m R) : JE S e Γ s (m.bind fun x => some (x, s)) R := fun σ W F sta z hz Q k => by
  obtain ⟨x, h1, h2⟩ := run1 hz
  cases h2
  exact h σ W F sta x h1 Q fun v W' Fv ext fr fp r => k v W' F Fv (ext.stp fr) (sta.ext ext) (sta.fp.fresh ext fp fr) r
theorem jte_of {m : Option Bool} (h : JT S e (Γ s) m) : JTE S e Γ s (m.bind fun x => some (x, s)) := fun σ W F sta z hz Q k => by
  obtain ⟨x, h1, h2⟩ := run1 hz
  cases h2
  exact h σ W F sta x h1 Q fun W' ext => k W' F ext.stp0 (sta.ext ext)
theorem jea_of {m : Option α} {G : α → List SP} (h : JA S es (Γ s) m G) : JEA S es Γ s (m.bind fun x => some (x, s)) G := fun σ W F sta z hz Q k => by
  obtain ⟨x, h1, h2⟩ := run1 hz
  cases h2
  exact h σ W F sta x h1 Q fun vs W' ext hh => k vs W' F ext.stp0 (sta.ext ext) hh
theorem jie_of {m : Option (List α)} {E : α → SP} (h : JI S tg iter (Γ s) m E) : JIE S tg iter Γ s (m.bind fun x => some (x, s)) E := fun σ W F sta z hz R k => by
  obtain ⟨x, h1, h2⟩ := run1 hz
  cases h2
  exact h σ W F sta x h1 R fun J W' ext ok => k J W' F ext.stp0 (sta.ext ext) ok
/-- a shared value behind a step: its footprint is nothing -/
theorem JE.sh {m : Option (α × τ)} {E : α → SP} (h : JE S e Γ s m fun x => CC.sh (E x)) {σ : L2.St} {W : Wd} {F : List Addr} (sta : Sta (Γ s) σ W F) {x : α × τ} (hx : m = some x) {Q : VK}
    (k : ∀ v W' F', Stp W F W' F' → Sta (Γ x.2) σ W' F' → (E x.1).P W'.B v → Q v W'.H) : tOf S e σ W.H Q :=
  h σ W F sta x hx Q fun v W' F' Fv stp sa fp r => by
    obtain ⟨rfl, r⟩ := r
    rw [List.append_nil] at stp
    exact k v W' F' stp sa r
theorem JE.of_sh {m : Option (α × τ)} {E : α → SP} (h : ∀ σ W F, Sta (Γ s) σ W F → ∀ x, m = some x → ∀ Q : VK, (∀ v W' F', Stp W F W' F' → Sta (Γ x.2) σ W' F' → (E x.1).P W'.B v → Q v W'.H) → tOf S e σ W.H Q) : JE S e Γ s m fun x => CC.sh (E x) :=
  fun σ W F sta x hx Q k => h σ W F sta x hx Q fun v W' F' stp sa r => k v W' F' [] (by rw [List.append_nil]; exact stp) sa (by rw [List.append_nil]; exact sa.fp) ⟨rfl, r⟩
theorem jea_nil : JEA S [] Γ s (some ((), s)) fun _ => [] := fun σ W F sta x hx Q k => by
  cases hx
  exact ⟨tNil, fun _ _ => pa_nil, k [] W F (Stp.refl sta.ok) sta trivial⟩
theorem jea_cons {ma : Option (α × τ)} {mb : τ → Option (β × τ)} {E : α → SP} {G : β → List SP} (ha : JE S e Γ s ma fun x => sh (E x)) (hb : ∀ s1, JEA S es Γ s1 (mb s1) G) (hs : ∀ env, starEach (e :: es) env = (false, eval e env) :: starEach es env := by intro _; rfl) :
    JEA S (e :: es) Γ s (ma.bind fun p => (mb p.2).bind fun q => some ((p.1, q.1), q.2)) fun z => E z.1 :: G z.2 := fun σ W F sta z hz Q k => by
  obtain ⟨p, h1, h2⟩ := run1 hz
  obtain ⟨q, h3, h4⟩ := run1 (f := fun q : β × τ => some ((p.1, q.1), q.2)) h2
  cases h4
  refine ⟨tCons (tOf S e) (taOf S es), fun X hX => pa_cons (peO hX) (paO hX) (hs _), ?_⟩
  refine ha.sh sta h1 fun v W1 F1 stp1 sa1 r1 => ?_
  exact hb p.2 σ W1 F1 sa1 q h3 _ fun vs W2 F2 stp2 sa2 hh => k (v :: vs) W2 F2 (stp1.trans stp2) sa2 ⟨SP.mono _ r1 stp2.b, hh⟩
/-- operators -/
theorem tOp_runE {r : R2} {E : α → SP} {G : β → SP} {f : α → β → Option γ} {R : γ → OP} {ma : Option (α × τ)} {mb : τ → Option (β × τ)} (ha : JE S a Γ s ma fun x => sh (E x)) (hb : ∀ s1, JE S b Γ s1 (mb s1) fun y => sh (G y)) (hr : OpV r E G f R)
    {σ : L2.St} {W : Wd} {F : List Addr} (sta : Sta (Γ s) σ W F) {z : γ × τ} (hz : (ma.bind fun p => (mb p.2).bind fun q => (f p.1 q.1).bind fun z => some (z, q.2)) = some z) {Q : VK}
    (k : ∀ v W' F' Fv, Stp W F W' (F' ++ Fv) → Sta (Γ z.2) σ W' F' → FpOk W' (F' ++ Fv) → (R z.1).C W' v Fv → Q v W'.H) : tOp r (tOf S a) (tOf S b) σ W.H Q := by
  obtain ⟨p, h1, h2⟩ := run1 hz
  obtain ⟨q, h3, h4⟩ := run1 (f := fun q : β × τ => (f p.1 q.1).bind fun z => some (z, q.2)) h2
  obtain ⟨y, h5, h6⟩ := run1 (f := fun z : γ => some (z, q.2)) h4
  cases h6
  refine ha.sh sta h1 fun v W1 F1 stp1 sa1 r1 => ?_
  refine (hb p.2).sh sa1 h3 fun u W2 F2 stp2 sa2 r2 => ?_
  refine hr W2 p.1 q.1 v u y sa2.ok (SP.mono _ r1 stp2.b) r2 h5 Q fun t W3 Fv ext fr fp rr => ?_
  exact k t W3 F2 Fv ((stp1.trans stp2).trans (ext.stp fr)) (sa2.ext ext) (sa2.fp.fresh ext fp fr) rr
theorem je_bin {op : Operator} {r : R2} {E : α → SP} {G : β → SP} {f : α → β → Option γ} {R : γ → OP} {ma : Option (α × τ)} {mb : τ → Option (β × τ)} (ho : ∀ X, S.In X → OpR X (binaryOp op) r) (hr : OpV r E G f R)
    (ha : JE S a Γ s ma fun x => sh (E x)) (hb : ∀ s1, JE S b Γ s1 (mb s1) fun y => sh (G y)) : JE S (.BinOp a op b pos) Γ s (ma.bind fun p => (mb p.2).bind fun q => (f p.1 q.1).bind fun z => some (z, q.2)) R := fun σ W F sta z hz Q k =>
  ⟨tOp r (tOf S a) (tOf S b), fun X hX => pe_op (ho X hX) (peO hX) (peO hX), tOp_runE ha hb hr sta hz k⟩
theorem je_cmp {op : CmpOp} {r : R2} {E : α → SP} {G : β → SP} {f : α → β → Option γ} {R : γ → OP} {ma : Option (α × τ)} {mb : τ → Option (β × τ)} (ho : ∀ X, S.In X → OpR X (compareOp op) r) (hr : OpV r E G f R)
    (ha : JE S a Γ s ma fun x => sh (E x)) (hb : ∀ s1, JE S b Γ s1 (mb s1) fun y => sh (G y)) (hm : behindInMarks op b = false := by first | exact nomark _ | rfl) : JE S (.Compare a [op] [b] pos) Γ s (ma.bind fun p => (mb p.2).bind fun q => (f p.1 q.1).bind fun z => some (z, q.2)) R := fun σ W F sta z hz Q k =>
  ⟨tOp r (tOf S a) (tOf S b), fun X hX => pe_cmpR (ho X hX) (peO hX) (peO hX) hm, tOp_runE ha hb hr sta hz k⟩
theorem jte_cmp {op : CmpOp} {r : R2} {E : α → SP} {G : β → SP} {f : α → β → Option Bool} {ma : Option (α × τ)} {mb : τ → Option (β × τ)} (ho : ∀ X, S.In X → OpR X (compareOp op) r) (hr : OpV r E G f fun z => sh (boolS z))
    (ha : JE S a Γ s ma fun x => sh (E x)) (hb : ∀ s1, JE S b Γ s1 (mb s1) fun y => sh (G y)) (hm : behindInMarks op b = false := by first | exact nomark _ | rfl) : JTE S (.Compare a [op] [b] pos) Γ s (ma.bind fun p => (mb p.2).bind fun q => (f p.1 q.1).bind fun z => some (z, q.2)) := fun σ W F sta z hz Q k =>
  ⟨tTest (tOp r (tOf S a) (tOf S b)), fun X hX => pt_cmpR (ho X hX) (peO hX) (peO hX) hm, tOp_runE ha hb hr sta hz fun v W' F' Fv stp sa fp rr => by
    obtain ⟨rfl, h⟩ := rr
    rw [List.append_nil] at stp
    exact ⟨z.1, h, k W' F' stp sa⟩⟩
theorem jte_val {m : Option (Bool × τ)} (h : JE S e Γ s m fun z => sh (boolS z)) (he : ∀ env whole, isTrue e env whole = (do let v ← whole; standAt e.pos; holding [v] (truthy v)) := by intro _ _; rfl) : JTE S e Γ s m := fun σ W F sta z hz Q k =>
  ⟨tB (tOf S e), fun X hX => pt_val (peO hX) (he _), h.sh sta hz fun v W' F' stp sa r => ⟨z.1, r, k W' F' stp sa⟩⟩
theorem jte_not {m : Option (Bool × τ)} (h : JTE S e Γ s m) : JTE S (.UnaryOp .Not e pos) Γ s (m.bind fun x => some (!x.1, x.2)) := fun σ W F sta z hz Q k => by
  obtain ⟨x, h1, h2⟩ := run1 hz
  cases h2
  exact ⟨tNot (ttOf S e), fun X hX => pt_not (ptO hX), h σ W F sta x h1 _ fun W' F' stp sa => k W' F' stp sa⟩
theorem jwe_and1 {m : Option (Bool × τ)} (h : JTE S a Γ s m) : JWE S (.BoolOp .And [a] pos) Γ s m := fun σ W F sta z hz Q k => ⟨ttOf S a, fun X hX => pw_and1 (ptO hX), h σ W F sta z hz _ k⟩
theorem jwe_or1 {m : Option (Bool × τ)} (h : JTE S a Γ s m) : JWE S (.BoolOp .Or [a] pos) Γ s m := fun σ W F sta z hz Q k => ⟨ttOf S a, fun X hX => pw_or1 (ptO hX), h σ W F sta z hz _ k⟩
theorem jwe_and {ma : Option (Bool × τ)} {mb : τ → Option (Bool × τ)} (ha : JTE S a Γ s ma) (hb : ∀ s1, JWE S (.BoolOp .And (b :: es) pos) Γ s1 (mb s1)) : JWE S (.BoolOp .And (a :: b :: es) pos) Γ s (ma.bind fun p => bif p.1 then mb p.2 else some (false, p.2)) := fun σ W F sta z hz Q k => by
  obtain ⟨x, h1, h2⟩ := run1 hz
  refine ⟨tAnd (ttOf S a) (twOf S (.BoolOp .And (b :: es) pos)), fun X hX => pw_and (ptO hX) (pwO hX), ha σ W F sta x h1 _ fun W' F' stp sa => ?_⟩
  obtain ⟨x1, x2⟩ := x
  cases x1 with
  | true => exact iteT (hb x2 σ W' F' sa z h2 Q fun W2 F2 stp2 sa2 => k W2 F2 (stp.trans stp2) sa2)
  | false =>
    cases h2
    exact iteF (k W' F' stp sa)
theorem jwe_or {ma : Option (Bool × τ)} {mb : τ → Option (Bool × τ)} (ha : JTE S a Γ s ma) (hb : ∀ s1, JWE S (.BoolOp .Or (b :: es) pos) Γ s1 (mb s1)) : JWE S (.BoolOp .Or (a :: b :: es) pos) Γ s (ma.bind fun p => bif p.1 then some (true, p.2) else mb p.2) := fun σ W F sta z hz Q k => by
  obtain ⟨x, h1, h2⟩ := run1 hz
  refine ⟨tOr (ttOf S a) (twOf S (.BoolOp .Or (b :: es) pos)), fun X hX => pw_or (ptO hX) (pwO hX), ha σ W F sta x h1 _ fun W' F' stp sa => ?_⟩
  obtain ⟨x1, x2⟩ := x
  cases x1 with
  | false => exact iteF (hb x2 σ W' F' sa z h2 Q fun W2 F2 stp2 sa2 => k W2 F2 (stp.trans stp2) sa2)
  | true =>
    cases h2
    exact iteT (k W' F' stp sa)
theorem jte_w {m : Option (Bool × τ)} (h : JWE S e Γ s m) : JTE S e Γ s m := fun σ W F sta z hz Q k => ⟨twOf S e, fun X hX => (pwO hX).pt, h σ W F sta z hz Q k⟩
theorem je_if {mc : Option (Bool × τ)} {ma mb : τ → Option (α × τ)} {R : α → OP} (hc : JTE S c Γ s mc) (ha : ∀ s1, JE S a Γ s1 (ma s1) R) (hb : ∀ s1, JE S b Γ s1 (mb s1) R) : JE S (.IfExp c a b pos) Γ s (mc.bind fun p => bif p.1 then ma p.2 else mb p.2) R := fun σ W F sta z hz Q k => by
  obtain ⟨x, h1, h2⟩ := run1 hz
  refine ⟨tIf (ttOf S c) (tOf S a) (tOf S b), fun X hX => pe_ifExp (ptO hX) (peO hX) (peO hX), hc σ W F sta x h1 _ fun W' F' stp sa => ?_⟩
  obtain ⟨x1, x2⟩ := x
  cases x1 with
  | true => exact iteT (ha x2 σ W' F' sa z h2 Q fun v W2 F2 Fv stp2 sa2 fp r => k v W2 F2 Fv (stp.trans stp2) sa2 fp r)
  | false => exact iteF (hb x2 σ W' F' sa z h2 Q fun v W2 F2 Fv stp2 sa2 fp r => k v W2 F2 Fv (stp.trans stp2) sa2 fp r)
/-- a shared thing's item at a drawn place -/
theorem je_ix {r : R2} {P : α → SP} {G : β → SP} {f : α → β → Option γ} {E : γ → SP} {ma : Option (α × τ)} {mb : τ → Option (β × τ)} (ho : ∀ X, S.In X → IxR X r) (hr : IxV r (fun x => sh (P x)) G f fun z => sh (E z))
    (ha : JE S a Γ s ma fun x => sh (P x)) (hb : ∀ s1, JE S b Γ s1 (mb s1) fun y => sh (G y)) (hs : PlainIx b := by exact fun _ _ => rfl) : JE S (.Subscript a b pos) Γ s (ma.bind fun p => (mb p.2).bind fun q => (f p.1 q.1).bind fun z => some (z, q.2)) fun z => sh (E z) := JE.of_sh fun σ W F sta z hz Q k => by
  refine ⟨tOp r (tOf S a) (tOf S b), fun X hX => pe_ix (ho X hX) (peO hX) (peO hX) hs, ?_⟩
  obtain ⟨p, h1, h2⟩ := run1 hz
  obtain ⟨q, h3, h4⟩ := run1 (f := fun q : β × τ => (f p.1 q.1).bind fun z => some (z, q.2)) h2
  obtain ⟨y, h5, h6⟩ := run1 (f := fun z : γ => some (z, q.2)) h4
  cases h6
  refine ha.sh sta h1 fun v W1 F1 stp1 sa1 r1 => ?_
  refine (hb p.2).sh sa1 h3 fun u W2 F2 stp2 sa2 r2 => ?_
  exact hr W2 p.1 q.1 v u y [] sa2.ok ⟨rfl, SP.mono _ r1 stp2.b⟩ r2 h5 _ fun t ⟨F3, q1, _⟩ => k t W2 F2 (stp1.trans stp2) sa2 q1.2
/-- builtins of one argument -/
theorem je_b1 {x : Str} {id : String} {p : Pos} {r : List V → Hp → VK → Prop} {m : Option (α × τ)} {E : α → SP} {f : α → Option γ} {R : γ → OP} (hc : ∀ X, S.In X → CallR X (.builtin id) r)
    (hr : ∀ W x v z, Ex W.B W.H → (E x).P W.B v → f x = some z → ∀ Q : VK, Got (R z) W Q → r [v] W.H Q) (hm : S.mg x = none) (ha : JE S a Γ s m fun x => sh (E x))
    (hg : GlS S x := by rfl) (hv : bootBuiltins x = some (.builtin id) := by decide +kernel) (hn : x ≠ "__name__" := by decide) (hdb : (x == ("__debug__" : Str)) = false := by decide)
    (hs : ∀ env, starEach [a] env = [(false, eval a env)] := by intro _; rfl) : JE S (.Call (.Name x p) [a] [] pos) Γ s (m.bind fun q => (f q.1).bind fun z => some (z, q.2)) R := fun σ W F sta z hz Q k => by
  obtain ⟨q, h1, h2⟩ := run1 hz
  obtain ⟨y, h3, h4⟩ := run1 (f := fun z : γ => some (z, q.2)) h2
  cases h4
  refine ⟨tCB r (tCons (tOf S a) tNil), fun X hX => pe_callB (hc X hX) (hg.gl hX) (mgS hm hX) hv (pa_cons (peO hX) pa_nil (hs _)) hn hdb (hs _) rfl, ha.sh sta h1 fun v W1 F1 stp1 sa1 r1 => ?_⟩
  exact hr W1 q.1 v y sa1.ok r1 h3 Q fun t W3 Fv ext fr fp rr => k t W3 F1 Fv (stp1.trans (ext.stp fr)) (sa1.ext ext) (sa1.fp.fresh ext fp fr) rr
theorem je_t1 {x : Str} {T : String} {p : Pos} {r : List V → Hp → VK → Prop} {m : Option (α × τ)} {E : α → SP} {f : α → Option γ} {R : γ → OP} (hc : ∀ X, S.In X → CallR X (.type T) r)
    (hr : ∀ W x v z, Ex W.B W.H → (E x).P W.B v → f x = some z → ∀ Q : VK, Got (R z) W Q → r [v] W.H Q) (hm : S.mg x = none) (ha : JE S a Γ s m fun x => sh (E x))
    (hg : GlS S x := by rfl) (hv : bootBuiltins x = some (.type T) := by decide +kernel) (hn : x ≠ "__name__" := by decide) (hdb : (x == ("__debug__" : Str)) = false := by decide)
    (hs : ∀ env, starEach [a] env = [(false, eval a env)] := by intro _; rfl) : JE S (.Call (.Name x p) [a] [] pos) Γ s (m.bind fun q => (f q.1).bind fun z => some (z, q.2)) R := fun σ W F sta z hz Q k => by
  obtain ⟨q, h1, h2⟩ := run1 hz
  obtain ⟨y, h3, h4⟩ := run1 (f := fun z : γ => some (z, q.2)) h2
  cases h4
  refine ⟨tCB r (tCons (tOf S a) tNil), fun X hX => pe_callTy (hc X hX) (hg.gl hX) (mgS hm hX) hv (pa_cons (peO hX) pa_nil (hs _)) hn hdb (hs _) rfl, ha.sh sta h1 fun v W1 F1 stp1 sa1 r1 => ?_⟩
  exact hr W1 q.1 v y sa1.ok r1 h3 Q fun t W3 Fv ext fr fp rr => k t W3 F1 Fv (stp1.trans (ext.stp fr)) (sa1.ext ext) (sa1.fp.fresh ext fp fr) rr
theorem je_int {m : Option (Int × τ)} {p : Pos} (hm : S.mg "int" = none) (h : JE S a Γ s m fun x => sh (intS x)) (hg : GlS S "int" := by rfl) (hs : ∀ env, starEach [a] env = [(false, eval a env)] := by intro _; rfl) : JE S (.Call (.Name "int" p) [a] [] pos) Γ s (m.bind fun q => some (q.1, q.2)) fun z => sh (intS z) :=
  je_t1 (f := fun x : Int => some x) (fun X hX => call_int1) (fun W x v z ok hh e Q k => by
    cases e
    cases hh
    exact .inl ⟨_, rfl, k.val ok rfl⟩) hm h hg (by decide +kernel) (by decide) (by decide) hs
/-- a fresh value frozen on the way -/
theorem JE.frz {m : Option (α × τ)} {R : α → OP} {P : α → SP} (f : ∀ x, FrzN (R x) (P x)) (h : JE S e Γ s m R) : JE S e Γ s m fun x => CC.sh (P x) := JE.of_sh fun σ W F sta x hx Q k =>
  h σ W F sta x hx Q fun v W' F' Fv stp sa fp r => by
    obtain ⟨B', b1, b2, b3, b4⟩ := (f x.1).run r fp.right.nd fp.right.fr stp.ok
    have fpB : FpOk ⟨W'.H, B'⟩ F' := ⟨fp.left.nd, fp.left.al, fun a ha => b3 a (fp.left.fr a ha) (fp.disj a ha)⟩
    refine k v ⟨W'.H, B'⟩ F' ⟨b2, stp.b.trans b1, stp.h, stp.al, fun a h1 h2 n => b3 a (stp.fr a h1 h2 n) fun z => ?_, fun a ha => stp.fp a (List.mem_append_left _ ha)⟩ ⟨b2, fpB, sa.len, sa.hold.loc b1 fun _ _ => rfl⟩ b4
    rcases stp.fp a (List.mem_append_right _ z) with q | q
    · exact n q
    · exact h1 q
/-- a call of a def that changes its first argument, the slot i -/
theorem je_callS {x y : Str} {p p1 : Pos} {f : Addr} {fd : FuncData} {ps : List Str} {k : Nat} {O : υ → OP} {G : α → List SP} {fM : α → υ → Option (ρ × υ)} {R : ρ → OP} {m : Option (α × τ)} (i : Nat) (get : τ → υ) (put : τ → υ → τ) (Fn : FnOk S.P S.w S.K S.mg S.base CX0 k f fd ps (spS O G fM R)) (hm : S.mg x = some (.ref f)) (kp : PySem.W.keepIn S.K (.ref f) = true) (hb : Binds S.K fd ps [])
    (hk : k ≤ S.k) (ha : JEA S es Γ s m G) (hi : ∀ s, (Γ s)[i]? = some (some (O (get s))) := by intro _; rfl) (hp : ∀ s u, (Γ s).set i (some (O u)) = Γ (put s u) := by intro _ _; rfl) (hN : S.N[i]? = some y := by rfl) (hv : Vis S.sc y := by first | exact Or.inl rfl | exact Or.inr (Or.inl rfl) | exact Or.inr (Or.inr rfl))
    (hd : (y == ("__debug__" : Str)) = false := by decide) (hcd : (y == ("__classdict__" : Str)) = false := by decide) (hg : GlS S x := by rfl) (hdb : (x == ("__debug__" : Str)) = false := by decide)
    (he : ∀ env, starEach (Expr.Name y p1 :: es) env = (false, eval (.Name y p1) env) :: starEach es env := by intro _; rfl) (hpl : ∀ env, (backTo pos (starEach es env)).any (·.1) = false := by intro _; rfl) :
    JE S (.Call (.Name x p) (.Name y p1 :: es) [] pos) Γ s (m.bind fun q => (fM q.1 (get q.2)).bind fun r => some (r.1, put q.2 r.2)) R := fun σ W F sta z hz Q kk => by
  obtain ⟨q, h1, h2⟩ := run1 hz
  obtain ⟨r, h3, h4⟩ := run1 (f := fun r : ρ × υ => some (r.1, put q.2 r.2)) h2
  cases h4
  refine ⟨tCall (spS O G fM R) [] E0 (tCons (tVar i) (taOf S es)), fun X hX => pe_call (fnokS Fn hX) (hX.room.mono hk) (hg.gl hX) (mgS hm hX) (by rw [hX.K]; exact kp) (bindsS hX hb) .nil passE0 (pa_cons (pe_var (by rw [hX.N]; exact hN) (visS hv hX) hd hcd) (paO hX) (he _)) hdb (he _) (hpl _), ?_⟩
  obtain ⟨v0, F1, F2, a1, _, _, _⟩ := sta.hold.at (hi s)
  refine ⟨v0, a1, ha σ W F sta q h1 _ fun vs W1 Fa stp1 sa1 hh => ?_⟩
  show spS O G fM R ((v0 :: vs) ++ []) W1.H Q E0
  rw [List.append_nil]
  obtain ⟨v1, F1, F2, b1, b2, b3, b4⟩ := sa1.hold.at (hi q.2)
  have ev : v1 = v0 := by rw [a1] at b1; exact (Option.some.inj (Option.some.inj b1)).symm
  subst ev
  have fpP := sa1.fp.perm b3
  refine ⟨q.1, get q.2, W1, F1, v1, vs, r, rfl, rfl, sa1.ok, fpP.left, b2, hh, h3, fun v W2 F1' Fv stp2 fp2 o2 r2 => ?_⟩
  have ne2 : ∀ a ∈ F2, a ∉ F1 := fun a ha h => fpP.disj a h ha
  have hH : ∀ a ∈ F2, W2.H a = W1.H a := fun a ha => by
    cases qa : W1.H a with
    | none => exact absurd qa (fpP.right.al a ha)
    | some o => exact stp2.h a o qa (ne2 a ha)
  obtain ⟨F', c1, c2⟩ := b4 W2 (O r.2) v1 F1' stp2.b hH o2
  rw [set_back b1, hp] at c1
  have fpN : FpOk W2 ((F1' ++ F2) ++ Fv) := by
    have fA : FpOk W2 ((F1' ++ Fv) ++ F2) := fp2.app ⟨fpP.right.nd, fun a ha => stp2.al a (fpP.right.al a ha), fun a ha => stp2.fr a (fpP.right.al a ha) (fpP.right.fr a ha) (ne2 a ha)⟩ fun a ha h => by
      rcases stp2.fp a ha with z | z
      · exact ne2 a h z
      · exact fpP.right.al a h z
    refine fA.perm ?_
    rw [List.append_assoc, List.append_assoc]
    exact List.Perm.append_left _ List.perm_append_comm
  have fpF : FpOk W2 (F' ++ Fv) := fpN.perm (List.Perm.append_right Fv c2.symm)
  refine kk v W2 F' Fv (stp1.trans ?_) ⟨stp2.ok, fpF.left, by rw [← hp, List.length_set]; exact sa1.len, c1⟩ fpF r2
  refine ⟨stp2.ok, stp2.b, fun a o h n => stp2.h a o h fun z => n (b3.mem_iff.mpr (List.mem_append_left _ z)), stp2.al, fun a x1 x2 n => stp2.fr a x1 x2 fun z => n (b3.mem_iff.mpr (List.mem_append_left _ z)), fun a ha => ?_⟩
  rcases List.mem_append.mp ha with z | z
  · rcases List.mem_append.mp (c2.mem_iff.mp z) with z | z
    · exact (stp2.fp a (List.mem_append_left _ z)).imp (fun w => b3.mem_iff.mpr (List.mem_append_left _ w)) id
    · exact .inl (b3.mem_iff.mpr (List.mem_append_right _ z))
  · exact (stp2.fp a (List.mem_append_right _ z)).imp (fun w => b3.mem_iff.mpr (List.mem_append_left _ w)) id
/-- a pure def with such arguments -/
theorem je_call {x : Str} {p : Pos} {f : Addr} {fd : FuncData} {ps : List Str} {k : Nat} {G : α → List SP} {fM : α → Option ρ} {R : ρ → OP} {m : Option (α × τ)} (Fn : FnOk S.P S.w S.K S.mg S.base CX0 k f fd ps (spP G fM R)) (hm : S.mg x = some (.ref f)) (kp : PySem.W.keepIn S.K (.ref f) = true) (hb : Binds S.K fd ps [])
    (hk : k ≤ S.k) (ha : JEA S (e :: es) Γ s m G) (hg : GlS S x := by rfl) (hdb : (x == ("__debug__" : Str)) = false := by decide) (he : ∀ env, starEach (e :: es) env = (false, eval e env) :: starEach es env := by intro _; rfl) (hpl : ∀ env, (backTo pos (starEach es env)).any (·.1) = false := by intro _; rfl) :
    JE S (.Call (.Name x p) (e :: es) [] pos) Γ s (m.bind fun q => (fM q.1).bind fun r => some (r, q.2)) R := fun σ W F sta z hz Q kk => by
  obtain ⟨q, h1, h2⟩ := run1 hz
  obtain ⟨r, h3, h4⟩ := run1 (f := fun r : ρ => some (r, q.2)) h2
  cases h4
  refine ⟨tCall (spP G fM R) [] E0 (taOf S (e :: es)), fun X hX => pe_call (fnokS Fn hX) (hX.room.mono hk) (hg.gl hX) (mgS hm hX) (by rw [hX.K]; exact kp) (bindsS hX hb) .nil passE0 (paO hX) hdb (he _) (hpl _), ha σ W F sta q h1 _ fun vs W1 F1 stp1 sa1 hh => ?_⟩
  show spP G fM R (vs ++ []) W1.H Q E0
  rw [List.append_nil]
  exact ⟨q.1, W1, r, rfl, sa1.ok, hh, h3, fun v W2 Fv ext fr fp rr => kk v W2 F1 Fv (stp1.trans (ext.stp fr)) (sa1.ext ext) (sa1.fp.fresh ext fp fr) rr⟩
/-- xs.pop(i) of an owned list -/
def popAt (xs : List α) (i : Int) : Option (α × List α) := if 0 ≤ i ∧ xs.length ≤ LIM then (xs[i.toNat]?).bind fun x => some (x, xs.eraseIdx i.toNat) else none
theorem Owns.erase {E : α → OP} {W : Wd} : ∀ {vs : List V} {xs : List α} {F : List Addr} {i : Nat} {x : α}, Owns E W vs xs F → xs[i]? = some x →
    ∃ v F1 F2, vs[i]? = some v ∧ (E x).C W v F1 ∧ F.Perm (F1 ++ F2) ∧ Owns E W (vs.eraseIdx i) (xs.eraseIdx i) F2
  | [], [], _, _, _, _, e => by simp at e
  | v :: vs, y :: xs, _, 0, x, ⟨F1, F2, h1, h2, h3⟩, e => by
    have : y = x := by simpa using e
    subst this h1
    exact ⟨v, F1, F2, rfl, h2, .refl _, h3⟩
  | v :: vs, y :: xs, _, i + 1, x, ⟨F1, F2, h1, h2, h3⟩, e => by
    subst h1
    obtain ⟨u, G1, G2, a1, a2, a3, a4⟩ := Owns.erase (i := i) h3 (by simpa using e)
    refine ⟨u, G1, F1 ++ G2, by simpa using a1, a2, ?_, F1, G2, rfl, h2, a4⟩
    refine (List.Perm.append_left F1 a3).trans ?_
    rw [← List.append_assoc, ← List.append_assoc]
    exact List.Perm.append_right G2 List.perm_append_comm
  | [], _ :: _, _, _, _, h, _ => h.elim
  | _ :: _, [], _, _, _, h, _ => h.elim
theorem je_popAt {x : Str} {p0 apos : Pos} {E : α → OP} {m : Option (Int × τ)} (i : Nat) (get : τ → List α) (put : τ → List α → τ) (h : JE S e Γ s m fun z => sh (intS z)) (hi : ∀ s, (Γ s)[i]? = some (some (lstO E (get s))) := by intro _; rfl) (hp : ∀ s u, (Γ s).set i (some (lstO E u)) = Γ (put s u) := by intro _ _; rfl)
    (hN : S.N[i]? = some x := by rfl) (hv : Vis S.sc x := by first | exact Or.inl rfl | exact Or.inr (Or.inl rfl) | exact Or.inr (Or.inr rfl)) (hd : (x == ("__debug__" : Str)) = false := by decide) (hcd : (x == ("__classdict__" : Str)) = false := by decide)
    (hbase : ∀ env, attributeBase (.Name x p0) "pop" env (eval (.Name x p0) env) = eval (.Name x p0) env := by intro _; rfl)
    (hfew : ∀ env, ((backTo pos (starEach [e] env)).all (fun x => !x.1) && (backToKw pos (keywordEach [] env)).all (fun x => x.1.isSome) && decide ([e].length + ([] : List Keyword).length + (if ([] : List Keyword).isEmpty then 0 else 1) < 30)) = true := by intro _; rfl)
    (hline : (apos.endLine == pos.line) = true := by rfl) (hs : ∀ env, starEach [e] env = (false, eval e env) :: starEach [] env := by intro _; rfl) :
    JE S (.Call (.Attribute (.Name x p0) "pop" apos) [e] [] pos) Γ s (m.bind fun q => (popAt (get q.2) q.1).bind fun r => some (r.1, put q.2 r.2)) E := fun σ W F sta z hz Q kk => by
  obtain ⟨q, h1, h2⟩ := run1 hz
  obtain ⟨r, h3, h4⟩ := run1 (f := fun r : α × List α => some (r.1, put q.2 r.2)) h2
  cases h4
  unfold popAt at h3
  split at h3
  · rename_i hb
    obtain ⟨y, h5, h6⟩ := run1 (f := fun y : α => some (y, (get q.2).eraseIdx q.1.toNat)) h3
    cases h6
    refine ⟨tBM S.K "list" rPopAt (tVar i) (tCons (tOf S e) tNil), fun X hX => hX.K ▸ pe_bm PySem.F.plainAttrs_list PySem.F.slot_list_pop PySem.F.type_list_pop mt_popAt (pe_var (by rw [hX.N]; exact hN) (visS hv hX) hd hcd) (pa_cons (peO hX) pa_nil (hs _)) (hbase _) (hfew _) hline (hs _) rfl, ?_⟩
    obtain ⟨v, F1, F2, a1, a2, a3, a4⟩ := sta.hold.at (hi s)
    obtain ⟨p, vs, G2, rfl, b2, rfl, b4⟩ := id a2
    refine ⟨.ref p, a1, .inl ⟨rfl, vs, .inl (.inl b2)⟩, h.sh sta h1 fun u W1 Fa stp1 sa1 r1 => ?_⟩
    cases r1
    obtain ⟨v', F1', F2', c1, c2, c3, c4⟩ := sa1.hold.at (hi q.2)
    have ev : v' = .ref p := by rw [a1] at c1; exact (Option.some.inj (Option.some.inj c1)).symm
    subst ev
    obtain ⟨p', vs', G2', e1, d2, rfl, d4⟩ := c2
    cases e1
    have hB : W1.B p = none := (sa1.fp.perm c3).fr p (by simp)
    obtain ⟨w, K1, K2, k1, k2, k3, k4⟩ := d4.erase h5
    have hlen := d4.len
    have hlt : q.1.toNat < (get q.2).length := (List.getElem?_eq_some_iff.mp h5).1
    have z : LIM = 1000000 := rfl
    have fpA := (sa1.fp.perm c3).left
    have fpK : FpOk W1 (p :: (K2 ++ K1)) := fpA.perm (List.Perm.cons p (k3.trans List.perm_append_comm))
    have nP : ∀ a ∈ K2 ++ K1, a ≠ p := fun a ha z => (List.nodup_cons.mp fpK.nd).1 (z ▸ ha)
    have eseq : seqIndex? q.1 vs'.length = some q.1.toNat := by
      have hx : ixN vs'.length q.1 = some q.1.toNat := by
        unfold ixN
        rw [if_pos hb.1, if_pos (by omega)]
      exact (ixN_seq hx).1
    refine ⟨p, vs', q.1, q.1.toNat, w, rfl, rfl, d2, by omega, by omega, eseq, k1, ?_⟩
    have ke : (lstO E ((get q.2).eraseIdx q.1.toNat)).C ⟨upd W1.H p (.lst (vs'.eraseIdx q.1.toNat)), W1.B⟩ (.ref p) (p :: K2) :=
      ⟨p, _, K2, rfl, upd_same, rfl, Owns.loc (W := W1) (W' := ⟨upd W1.H p (.lst (vs'.eraseIdx q.1.toNat)), W1.B⟩) (fun _ _ h => h) k4 fun a ha => by
        show upd W1.H p (.lst (vs'.eraseIdx q.1.toNat)) a = W1.H a
        exact upd_ne (nP a (List.mem_append_left _ ha))⟩
    have fpN : FpOk W1 ((p :: K2) ++ K1) := fpK
    -- the item's own things leave the list
    have fpG : FpOk W1 (((p :: K2) ++ F2') ++ K1) := by
      refine (sa1.fp.perm c3).perm ?_
      have e1 : ((p :: G2') ++ F2').Perm ((p :: (K2 ++ K1)) ++ F2') := List.Perm.append_right F2' (List.Perm.cons p (k3.trans List.perm_append_comm))
      refine e1.trans ?_
      show ((p :: K2) ++ K1 ++ F2').Perm _
      rw [List.append_assoc, List.append_assoc]
      exact List.Perm.append_left _ List.perm_append_comm
    obtain ⟨F', s1, s2⟩ := c4 ⟨upd W1.H p (.lst (vs'.eraseIdx q.1.toNat)), W1.B⟩ _ (.ref p) (p :: K2) (fun _ _ h => h) (fun a ha => by
      show upd W1.H p (.lst (vs'.eraseIdx q.1.toNat)) a = W1.H a
      refine upd_ne fun z => ?_
      exact (sa1.fp.perm c3).disj p List.mem_cons_self (z ▸ ha)) ke
    rw [set_back c1, hp] at s1
    have fpF : FpOk ⟨upd W1.H p (.lst (vs'.eraseIdx q.1.toNat)), W1.B⟩ (F' ++ K1) := by
      have := fpG.perm (List.Perm.append_right K1 s2.symm)
      exact ⟨this.nd, fun a ha => wr_al a (this.al a ha), this.fr⟩
    refine kk w ⟨upd W1.H p (.lst (vs'.eraseIdx q.1.toNat)), W1.B⟩ F' K1 (stp1.trans ?_) ⟨wr_ok sa1.ok hB, fpF.left, by rw [← hp, List.length_set]; exact sa1.len, s1⟩ fpF ?_
    · refine ⟨wr_ok sa1.ok hB, Ex.refl _, fun a o h n => ?_, wr_al, fun a _ h2 _ => h2, fun a ha => .inl (c3.mem_iff.mpr ?_)⟩
      · show upd W1.H p _ a = some o
        rw [upd_ne fun z => n (c3.mem_iff.mpr (by rw [z]; simp))]
        exact h
      · rcases List.mem_append.mp ha with z | z
        · rcases List.mem_append.mp (s2.mem_iff.mp z) with z | z
          · rcases List.mem_cons.mp z with z | z
            · rw [z]; simp
            · exact List.mem_append_left _ (List.mem_cons_of_mem _ (k3.mem_iff.mpr (List.mem_append_right _ z)))
          · exact List.mem_append_right _ z
        · exact List.mem_append_left _ (List.mem_cons_of_mem _ (k3.mem_iff.mpr (List.mem_append_left _ z)))
    · exact OP.loc _ k2 (fun _ _ h => h) fun a ha => by
        show upd W1.H p (.lst (vs'.eraseIdx q.1.toNat)) a = W1.H a
        exact upd_ne (nP a (List.mem_append_right _ ha))
  · cases h3
/-! ### statements -/
theorem js_setE {x : Str} {pos' : Pos} {m : Option (α × τ)} {R : α → OP} (i : Nat) (nd : S.N.Nodup) (h : JE S e Γ s m R) (hi : ∀ s, ((Γ s)[i]?).isSome = true := by intro _; rfl) (hN : S.N[i]? = some x := by rfl) (hx : Loc S.sc x := by first | exact Or.inl rfl | exact Or.inr rfl) (hp : (S.prot.contains i) = false := by rfl)
    (hs : ∀ env, swapsWith e (some (.Name x pos')) pos.line env = pure false := by intro _; rfl) (hf : S.fn x = true ∨ S.sc.names.lookup x = some .local := by first | exact .inl rfl | exact .inr rfl) : JS S (.Assign [.Name x pos'] e pos) (Γ s) m fun q => .nx ((Γ q.2).set i (some (R q.1))) := fun σ W F sta y hy E k => by
  refine ⟨tAsg (tOf S e) (gName i), fun X hX => ps_set (by rw [hX.N]; exact nd) (by rw [hX.N]; exact hN) (locS hx hX) (peO hX) (hs _) (by rw [hX.fn, hX.sc]; exact hf), h σ W F sta y hy _ fun v W' F' Fv stp sa fp r => ?_⟩
  have hl : i < (Γ y.2).length := by
    have := hi y.2
    cases h : (Γ y.2)[i]? with
    | none => rw [h] at this; cases this
    | some o => exact (List.getElem?_eq_some_iff.mp h).1
  obtain ⟨F2, s', sub⟩ := sa.put hl r fp
  exact k _ W' F2 (Keep.set (ncon hp)) (stp.perm sub) s'
theorem js_asgE {m : Option (α × τ)} {E : α → SP} {up : α → Ctx → Ctx} {ws : List Nat} (h : JE S e Γ s m fun x => sh (E x)) (hg : JG S tg E up ws) (hl : ∀ s, ∀ i ∈ ws, i < (Γ s).length) (hs : ∀ env, swapsWithSole [tg] e pos.line env = pure false := by intro _; rfl) (hw : ∀ env, swappedStores [tg] e env = pure none := by intro _; rfl)
    (h1 : ∀ env, (assignEach [tg] env).map (·.2) = [assign tg env] := by intro _; rfl) : JS S (.Assign [tg] e pos) (Γ s) m fun q => .nx (up q.1 (Γ q.2)) := fun σ W F sta y hy Ed k => by
  refine ⟨tAsg (tOf S e) (tgOf S tg), fun X hX => ps_asg (peO hX) (pgO hX) (hs _) (hw _) (h1 _), h.sh sta hy fun v W' F' stp sa r => ?_⟩
  refine hg _ σ W' F' y.1 v sa (hl _) r _ fun σ' F2 _ kp s' sub => ?_
  exact k σ' W' F2 kp (stp.perm sub) s'
theorem js_drop {m : Option (α × τ)} {R : α → OP} (h : JE S e Γ s m R) (hs : ∀ env, swapsWith e none pos.line env = pure false := by intro _; rfl) : JS S (.Expr e pos) (Γ s) m fun q => .nx (Γ q.2) := fun σ W F sta y hy Ed k => by
  refine ⟨tDrop (tOf S e), fun X hX => ps_expr (peO hX) (hs _), h σ W F sta y hy _ fun v W' F' Fv stp sa fp r => ?_⟩
  exact k σ W' F' Keep.refl (stp.perm fun a ha => List.mem_append_left _ ha) sa
theorem js_ifE {mc : Option (Bool × τ)} {ma mb : τ → Option ω} {D : ω → Kd} (hc : JTE S c Γ s mc) (ha : ∀ s1, JB S A (Γ s1) (ma s1) D) (hb : ∀ s1, JB S B (Γ s1) (mb s1) D) : JS S (.If c A B pos) (Γ s) (mc.bind fun p => bif p.1 then ma p.2 else mb p.2) D := fun σ W F sta z hz E k => by
  obtain ⟨x, h1, h2⟩ := run1 hz
  refine ⟨tIfS (ttOf S c) (tbOf S A) (tbOf S B), fun X hX => ps_if (ptO hX) (pbO hX) (pbO hX), ?_⟩
  refine hc σ W F sta x h1 _ fun W' F' stp sa => ?_
  obtain ⟨x1, x2⟩ := x
  cases x1 with
  | true => exact iteT (ha x2 σ W' F' sa z h2 _ (k.before Keep.refl stp))
  | false => exact iteF (hb x2 σ W' F' sa z h2 _ (k.before Keep.refl stp))
theorem jb_ifrE {mc : Option (Bool × τ)} {ma mr : τ → Option ω} {D : ω → Kd} (hc : JTE S c Γ s mc) (ha : ∀ s1, JB S A (Γ s1) (ma s1) D) (hn : ∀ x, NoNx (D x)) (hr : ∀ s1, JB S rest (Γ s1) (mr s1) D) : JB S (.If c A [] pos :: rest) (Γ s) (mc.bind fun p => bif p.1 then ma p.2 else mr p.2) D := fun σ W F sta z hz E k => by
  obtain ⟨x, h1, h2⟩ := run1 hz
  refine ⟨tSeq (tIfS (ttOf S c) (tbOf S A) tNext) (tbOf S rest), fun X hX => pss_cons (ps_if (ptO hX) (pbO hX) pss_nil) (pbO hX), ?_⟩
  refine hc σ W F sta x h1 _ fun W' F' stp sa => ?_
  obtain ⟨x1, x2⟩ := x
  cases x1 with
  | true => exact iteT (ha x2 σ W' F' sa z h2 _ (post_nox (k.before Keep.refl stp) (hn z)))
  | false => exact iteF (hr x2 σ W' F' sa z h2 E (k.before Keep.refl stp))
theorem jb_ifxE {mc : Option (Bool × τ)} {ma : τ → Option υ} {mr : τ → Option ω} {D : ω → Kd} {D' : υ → Kd} (ι : υ → ω) (hc : JTE S c Γ s mc) (ha : ∀ s1, JB S A (Γ s1) (ma s1) D') (hι : ∀ x, D (ι x) = D' x) (hn : ∀ x, NoNx (D' x)) (hr : ∀ s1, JB S rest (Γ s1) (mr s1) D) :
    JB S (.If c A [] pos :: rest) (Γ s) (mc.bind fun p => bif p.1 then (ma p.2).bind fun x => some (ι x) else mr p.2) D := fun σ W F sta z hz E k => by
  obtain ⟨x, h1, h2⟩ := run1 hz
  refine ⟨tSeq (tIfS (ttOf S c) (tbOf S A) tNext) (tbOf S rest), fun X hX => pss_cons (ps_if (ptO hX) (pbO hX) pss_nil) (pbO hX), ?_⟩
  refine hc σ W F sta x h1 _ fun W' F' stp sa => ?_
  obtain ⟨x1, x2⟩ := x
  cases x1 with
  | true =>
    obtain ⟨y, h3, h4⟩ := run1 h2
    cases h4
    refine iteT (ha x2 σ W' F' sa y h3 _ ?_)
    rw [hι] at k
    exact post_nox (k.before Keep.refl stp) (hn y)
  | false => exact iteF (hr x2 σ W' F' sa z h2 E (k.before Keep.refl stp))
theorem jb_retE {m : Option (α × τ)} {R : α → OP} {Δ : τ → Ctx} (w : ∀ s, Weak (Γ s) (Δ s)) (h : JE S e Γ s m R) : JB S (.Return (some e) pos :: rest) (Γ s) m fun q => .rt (Δ q.2) (R q.1) := fun σ W F sta x hx E k => by
  refine ⟨tSeq (tRet (tOf S e)) tNever, fun X hX => pss_cons (ps_ret (peO hX)) pss_never, h σ W F sta x hx _ fun v W' F' Fv stp sa fp r => ?_⟩
  obtain ⟨F2, s', sub⟩ := sa.weak (w x.2)
  have fpB : FpOk W' (F2 ++ Fv) := s'.fp.app fp.right fun a ha => fp.disj a (sub a ha)
  refine k v σ W' F2 Fv Keep.refl (stp.perm fun a ha => ?_) s' fpB r
  rcases List.mem_append.mp ha with h | h
  · exact List.mem_append_left _ (sub a h)
  · exact List.mem_append_right _ h
/-- found.append(e) -/
theorem js_appE {x : Str} {p0 apos cpos spos : Pos} {E : α → OP} {m : Option (α × τ)} (i : Nat) (get : τ → List α) (h : JE S e Γ s m E) (hi : ∀ s, (Γ s)[i]? = some (some (lstO E (get s))) := by intro _; rfl) (hN : S.N[i]? = some x := by rfl) (hv : Vis S.sc x := by first | exact Or.inl rfl | exact Or.inr (Or.inl rfl) | exact Or.inr (Or.inr rfl))
    (hd : (x == ("__debug__" : Str)) = false := by decide) (hcd : (x == ("__classdict__" : Str)) = false := by decide)
    (hbase : ∀ env, attributeBase (.Name x p0) "append" env (eval (.Name x p0) env) = eval (.Name x p0) env := by intro _; rfl)
    (hfew : ∀ env, ((backTo cpos (starEach [e] env)).all (fun x => !x.1) && (backToKw cpos (keywordEach [] env)).all (fun x => x.1.isSome) && decide ([e].length + ([] : List Keyword).length + (if ([] : List Keyword).isEmpty then 0 else 1) < 30)) = true := by intro _; rfl)
    (hline : (apos.endLine == cpos.line) = true := by rfl) (hs : ∀ env, starEach [e] env = (false, eval e env) :: starEach [] env := by intro _; rfl) (hsw : ∀ env, swapsWith (.Call (.Attribute (.Name x p0) "append" apos) [e] [] cpos) none spos.line env = pure false := by intro _; rfl) :
    JS S (.Expr (.Call (.Attribute (.Name x p0) "append" apos) [e] [] cpos) spos) (Γ s) (m.bind fun q => (appM (get q.2) q.1).bind fun ys => some (ys, q.2)) fun q => .nx ((Γ q.2).set i (some (lstO E q.1))) := fun σ W F sta z hz Ed k => by
  obtain ⟨q, h1, h2⟩ := run1 hz
  obtain ⟨ys, h3, h4⟩ := run1 (f := fun ys : List α => some (ys, q.2)) h2
  cases h4
  unfold appM at h3
  split at h3
  · rename_i hlen
    cases h3
    refine ⟨tDrop (tBM S.K "list" rAppend (tVar i) (tCons (tOf S e) tNil)), fun X hX => ps_expr (hX.K ▸ pe_bm PySem.F.plainAttrs_list PySem.F.slot_list_append PySem.F.type_list_append mt_append (pe_var (by rw [hX.N]; exact hN) (visS hv hX) hd hcd) (pa_cons (peO hX) pa_nil (hs _)) (hbase _) (hfew _) hline (hs _) rfl) (hsw _), ?_⟩
    obtain ⟨v, F1, F2, a1, a2, a3, a4⟩ := sta.hold.at (hi s)
    obtain ⟨p, vs, G2, rfl, b2, rfl, b4⟩ := id a2
    refine ⟨.ref p, a1, .inl ⟨rfl, vs, .inl (.inl b2)⟩, h σ W F sta q h1 _ fun u W1 Fa Fv stp1 sa1 fp1 r => ?_⟩
    obtain ⟨v', F1', F2', c1, c2, c3, c4⟩ := sa1.hold.at (hi q.2)
    have ev : v' = .ref p := by rw [a1] at c1; exact (Option.some.inj (Option.some.inj c1)).symm
    subst ev
    obtain ⟨p', vs', G2', e1, d2, rfl, d4⟩ := c2
    cases e1
    have hB : W1.B p = none := (sa1.fp.perm c3).fr p (by simp)
    have fpA : FpOk W1 ((p :: G2') ++ Fv) := by
      have q2 : FpOk W1 (((p :: G2') ++ F2') ++ Fv) := fp1.perm (List.Perm.append_right Fv c3)
      refine FpOk.left (F' := F2') (q2.perm ?_)
      rw [List.append_assoc, List.append_assoc]
      exact List.Perm.append_left _ List.perm_append_comm
    refine ⟨p, vs', u, rfl, rfl, d2, lim_lt (by rw [d4.len]; exact hlen), ?_⟩
    have nP : ∀ a ∈ G2' ++ Fv, a ≠ p := fun a ha z => (List.nodup_cons.mp fpA.nd).1 (z ▸ ha)
    have A3 : Owns E W1 (vs' ++ [u]) (get q.2 ++ [q.1]) (G2' ++ Fv) := d4.app ⟨Fv, [], (List.append_nil _).symm, r, rfl⟩
    have A4 : Owns E ⟨upd W1.H p (.lst (vs' ++ [u])), W1.B⟩ (vs' ++ [u]) (get q.2 ++ [q.1]) (G2' ++ Fv) := Owns.loc (W := W1) (W' := ⟨upd W1.H p (.lst (vs' ++ [u])), W1.B⟩) (fun _ _ h => h) A3 fun a ha => by
      show upd W1.H p (.lst (vs' ++ [u])) a = W1.H a
      exact upd_ne (nP a ha)
    obtain ⟨F', s', stp⟩ := sta_own (W' := ⟨upd W1.H p (.lst (vs' ++ [u])), W1.B⟩) (F1' := p :: (G2' ++ Fv)) (o' := lstO E (get q.2 ++ [q.1])) Fv sa1 fp1 c1 c3 c4 (wr_ok sa1.ok hB) rfl (fun a ha _ => upd_ne fun z => ha (z ▸ List.mem_cons_self)) wr_al
      ⟨fpA.nd, fun a ha => wr_al a (fpA.al a ha), fpA.fr⟩ (fun a ha => by
        rcases List.mem_cons.mp ha with z | z
        · exact .inl (z ▸ List.mem_cons_self)
        · rcases List.mem_append.mp z with z | z
          · exact .inl (List.mem_cons_of_mem _ z)
          · exact .inr (.inl z)) ⟨p, vs' ++ [u], G2' ++ Fv, rfl, upd_same, rfl, A4⟩
    exact k σ _ F' Keep.refl (stp1.trans stp) s'
  · cases h3
/-- range of a drawn number -/
theorem jie_rng1 {p : Pos} {m : Option (Int × τ)} (hm : S.mg "range" = none) (h : JE S a Γ s m fun x => sh (intS x)) (hg : GlS S "range" := by rfl) (hs : ∀ env, starEach [a] env = [(false, eval a env)] := by intro _; rfl) :
    JIE S tg (.Call (.Name "range" p) [a] [] pos) Γ s (m.bind fun q => (rng 0 q.1).bind fun xs => some (xs, q.2)) intS := fun σ W F sta z hz R k => by
  obtain ⟨q, h1, h2⟩ := run1 hz
  obtain ⟨xs, h3, h4⟩ := run1 (f := fun xs : List Int => some (xs, q.2)) h2
  cases h4
  unfold rng at h3
  split at h3
  · rename_i hb
    cases h3
    refine ⟨iRng1 (tCons (tOf S a) tNil), fun X hX => pi_range1 (hg.gl hX) (mgS hm hX) (pa_cons (peO hX) pa_nil (hs _)) (hs _), h.sh sta h1 fun v W' F' stp sa r => ?_⟩
    cases r
    have z : (LIM : Int) = 1000000 := rfl
    refine ⟨q.1, rfl, by omega, by omega, ?_⟩
    have e : (q.1 - 0).toNat = q.1.toNat := by rw [Int.sub_zero]
    rw [← e]
    exact k _ W' F' stp sa (ok_rng fun W1 c => c.1)
  · cases h3
/-- for over a walk that is drawn -/
theorem js_forE {mi : Option (List α × τ)} {E : α → SP} {up : α → Ctx → Ctx} {ws : List Nat} {Γl : τ → υ → Ctx} {T : ρ → Kd} {f : τ → α → υ → Option (Out υ ρ)} (s0 : τ → υ) (hi : JIE S tg iter Γ s mi E) (hg : JG S tg E up ws) (w : ∀ s, Weak (Γ s) (Γl s (s0 s))) (hl : ∀ t s, ∀ i ∈ ws, i < (Γl t s).length)
    (hT : ∀ r, NoNx (T r) ∧ (∀ Δ, T r ≠ .bk Δ) ∧ ∀ Δ, T r ≠ .ct Δ) (hb : ∀ t x s, JB S A (up x (Γl t s)) (f t x s) (DL (Γl t) T)) (hs : ∀ env x, foldedSetIterable iter env x = pure x := by intro _ _; rfl) :
    JS S (.For tg iter A [] pos) (Γ s) (mi.bind fun q => (loopGo (f q.2) q.1 (s0 q.2)).bind fun o => some (q.2, o)) fun o => DF (Γl o.1) T o.2 := fun σ W F sta z hz Ed k => by
  obtain ⟨q, h1, h2⟩ := run1 hz
  obtain ⟨o, h3, h4⟩ := run1 (f := fun o : Out υ ρ => some (q.2, o)) h2
  cases h4
  refine ⟨tFor (tiOf S tg iter) (tgOf S tg) (tbOf S A), fun X hX => ps_for (by rw [hX.xe]; exact PassesOwn.never) hX.calm (piO hX) (pgO hX) (pbO hX) (hs _), ?_⟩
  refine hi σ W F sta q h1 _ fun J W' Fi stp0 sai iok => ?_
  obtain ⟨F0, sa0, sub0⟩ := sai.weak (w q.2)
  refine ⟨fun i m σ1 H => m = q.1.length - i ∧ i ≤ q.1.length ∧ ∃ (W1 : Wd) (F1 : List Addr) (s : υ), W1.H = H ∧ Keep S.prot σ σ1 ∧ Stp W' Fi W1 F1 ∧ Sta (Γl q.2 s) σ1 W1 F1 ∧ loopGo (f q.2) (q.1.drop i) s = some o,
    ⟨q.1.length, by simp, Nat.zero_le _, W', F0, s0 q.2, rfl, Keep.refl, (Stp.refl sai.ok).perm sub0, sa0, by simpa using h3⟩, ?_⟩
  rintro i m σ1 H ⟨rfl, hi', W1, F1, s, rfl, kp, stp, sa, go⟩
  obtain ⟨iok1, iok2⟩ := iok W1 ⟨sa.ok, stp.b⟩
  by_cases hlt : i < q.1.length
  · obtain ⟨g1, g2⟩ := iok1 i q.1[i] (List.getElem?_eq_getElem hlt)
    refine .inr ⟨g1, fun σ' H' => ∃ m', m' < q.1.length - i ∧ (m' = q.1.length - (i + 1) ∧ i + 1 ≤ q.1.length ∧ ∃ (W1 : Wd) (F1 : List Addr) (s : υ), W1.H = H' ∧ Keep S.prot σ σ' ∧ Stp W' Fi W1 F1 ∧ Sta (Γl q.2 s) σ' W1 F1 ∧ loopGo (f q.2) (q.1.drop (i + 1)) s = some o), fun σ' H' h => h, fun v H' y => ?_⟩
    obtain ⟨W2, rfl, e2, p2⟩ := g2 v H' y
    refine hg (Γl q.2 s) σ1 W2 F1 q.1[i] v (sa.ext e2) (hl _ s) p2 _ fun σ2 F2 _ kp2 sa2 sub2 => ?_
    rw [List.drop_eq_getElem_cons hlt] at go
    obtain ⟨oo, o1, o2⟩ := run1 (f := fun o : Out υ ρ => o.step fun s' => loopGo (f q.2) (q.1.drop (i + 1)) s') go
    have stpA : Stp W' Fi W2 F2 := (stp.trans e2.stp0).perm sub2
    refine hb q.2 q.1[i] s σ2 W2 F2 sa2 oo o1 _ ?_
    cases oo with
    | nx s' => exact fun σ3 W3 F3 k3 t3 a3 => ⟨q.1.length - (i + 1), by omega, rfl, hlt, W3, F3, s', rfl, (kp.trans kp2).trans k3, stpA.trans t3, a3, o2⟩
    | ct s' => exact fun σ3 W3 F3 k3 t3 a3 => ⟨q.1.length - (i + 1), by omega, rfl, hlt, W3, F3, s', rfl, (kp.trans kp2).trans k3, stpA.trans t3, a3, o2⟩
    | bk s' =>
      cases o2
      exact fun σ3 W3 F3 k3 t3 a3 => k σ3 W3 F3 ((kp.trans kp2).trans k3) (stp0.trans (stpA.trans t3)) a3
    | rt r =>
      cases o2
      obtain ⟨n1, n2, n3⟩ := hT r
      have k' : Post S.prot σ W F Ed (T r) := k
      show Post S.prot σ2 W2 F2 _ (T r)
      have k'' := k'.before (kp.trans kp2) (stp0.trans stpA)
      generalize hq : T r = qq at k'' n1
      cases qq with
      | nx Γ => exact n1.elim
      | bk Γ => exact absurd hq (n2 Γ)
      | ct Γ => exact absurd hq (n3 Γ)
      | rt Γ R => exact k''
  · have ei : i = q.1.length := by omega
    subst ei
    rw [List.drop_length] at go
    cases go
    exact .inl ⟨iok2 _ (Nat.le_refl _), k σ1 W1 F1 kp (stp0.trans stp) sa⟩
end
end CC
set_option maxHeartbeats 4000000
/-! Comprehensions whose items change what is owned; further operations. -/
namespace CC
open PySem PySem.Spec L2
open PyProof.Rows hiding St
variable {α β γ δ τ ω ρ υ : Type}
def compGoE (t : α → τ → Option (Bool × τ)) (f : α → τ → Option (β × τ)) : List α → τ → Option (List β × τ)
  | [], s => some ([], s)
  | x :: xs, s => (t x s).bind fun b => bif b.1 then (f x b.2).bind fun y => (compGoE t f xs y.2).bind fun r => some (y.1 :: r.1, r.2) else compGoE t f xs b.2
def compME (t : α → τ → Option (Bool × τ)) (f : α → τ → Option (β × τ)) (xs : List α) (s : τ) : Option (List β × τ) := if xs.length ≤ LIM then compGoE t f xs s else none
def mapGoE (f : α → τ → Option (β × τ)) : List α → τ → Option (List β × τ)
  | [], s => some ([], s)
  | x :: xs, s => (f x s).bind fun y => (mapGoE f xs y.2).bind fun r => some (y.1 :: r.1, r.2)
def mapME (f : α → τ → Option (β × τ)) (xs : List α) (s : τ) : Option (List β × τ) := if xs.length ≤ LIM then mapGoE f xs s else none
theorem compGoE_yes (f : α → τ → Option (β × τ)) : ∀ (xs : List α) (s : τ), compGoE (fun _ s => some (true, s)) f xs s = mapGoE f xs s
  | [], s => rfl
  | x :: xs, s => by
    show (f x s).bind (fun y => (compGoE (fun _ s => some (true, s)) f xs y.2).bind fun r => some (y.1 :: r.1, r.2)) = (f x s).bind fun y => (mapGoE f xs y.2).bind fun r => some (y.1 :: r.1, r.2)
    congr 1
    funext y
    rw [compGoE_yes f xs y.2]
theorem mapM_eq (f : α → Option β) (xs : List α) : compM (fun _ => some true) f xs = mapM f xs := by
  unfold compM mapM
  rw [compGo_yes]
theorem mapME_eq (f : α → τ → Option (β × τ)) (xs : List α) (s : τ) : compME (fun _ s => some (true, s)) f xs s = mapME f xs s := by
  unfold compME mapME
  rw [compGoE_yes]
theorem Holds.move {W : Wd} : ∀ {Γ Δ : Ctx} {σ σ2 : L2.St} {F : List Addr}, Γ.length = Δ.length → (∀ (i : Nat) (o : OP), Γ[i]? = some (some o) → Δ[i]? = some (some o) ∧ σ2[i]? = σ[i]?) → Holds Δ σ2 W F → ∃ F' G, Holds Γ σ W F' ∧ F.Perm (F' ++ G)
  | [], [], σ, σ2, F, _, _, h => ⟨[], F, rfl, .refl _⟩
  | [], _ :: _, _, _, _, h, _, _ => by simp at h
  | _ :: _, [], _, _, _, h, _, _ => by simp at h
  | g :: Γ, d :: Δ, σ, σ2, F, hl, hi, h => by
    have hi' : ∀ (i : Nat) (o : OP), Γ[i]? = some (some o) → Δ[i]? = some (some o) ∧ σ2.tail[i]? = σ.tail[i]? := fun i o e => by
      have q := hi (i + 1) o (by simpa using e)
      refine ⟨by simpa using q.1, ?_⟩
      rw [List.getElem?_tail, List.getElem?_tail]
      exact q.2
    have hl' : Γ.length = Δ.length := by simpa using hl
    cases g with
    | none =>
      cases d with
      | none => exact Holds.move (Γ := Γ) (Δ := Δ) (σ := σ.tail) (σ2 := σ2.tail) hl' hi' h
      | some o =>
        obtain ⟨v, F1, F2, h1, h2, h3, h4⟩ := h
        obtain ⟨F', G, a1, a2⟩ := Holds.move (Γ := Γ) (Δ := Δ) (σ := σ.tail) (σ2 := σ2.tail) hl' hi' h4
        subst h2
        refine ⟨F', G ++ F1, a1, ?_⟩
        rw [← List.append_assoc]
        exact (List.Perm.append_left F1 a2).trans List.perm_append_comm
    | some o =>
      obtain ⟨e1, e2⟩ := hi 0 o rfl
      have : d = some o := by simpa using e1
      subst this
      obtain ⟨v, F1, F2, h1, h2, h3, h4⟩ := h
      obtain ⟨F', G, a1, a2⟩ := Holds.move (Γ := Γ) (Δ := Δ) (σ := σ.tail) (σ2 := σ2.tail) hl' hi' h4
      subst h2
      refine ⟨F1 ++ F', G, ⟨v, F1, F', ?_, rfl, h3, a1⟩, ?_⟩
      · rw [List.head?_eq_getElem?] at h1 ⊢
        rw [← e2]
        exact h1
      · rw [List.append_assoc]
        exact List.Perm.append_left F1 a2
def JTsE (S : Stc) (ifs : List Expr) (Γ : τ → Ctx) (s : τ) (m : Option (Bool × τ)) : Prop :=
  ∀ σ W F, Sta (Γ s) σ W F → ∀ x, m = some x → ∀ Q : Bool → Hp → Prop, (∀ W' F', Stp W F W' F' → Sta (Γ x.2) σ W' F' → Q x.1 W'.H) → ttsOf S ifs σ W.H Q
def JCE (S : Stc) (elt tg iter : Expr) (ifs : List Expr) (scope : Scope) (Γ : τ → Ctx) (s : τ) (m : Option (α × τ)) (R : α → OP) : Prop :=
  ∃ own : List (Str × Nat), BlkOk S.N S.sc scope own ∧ ∀ σ W F, Sta (Γ s) σ W F → ∀ x, m = some x → ∀ Q : VK, (∀ v W' F' Fv, Stp W F W' (F' ++ Fv) → Sta (Γ x.2) σ W' F' → FpOk W' (F' ++ Fv) → (R x.1).C W' v Fv → Q v W'.H) →
    tLc (tiOf S tg iter) (tgOf (S.blk scope) tg) (ttsOf (S.blk scope) ifs) (tOf (S.blk scope) elt) (own.map (·.2)) σ W.H Q
section
variable {S : Stc} {Γ : τ → Ctx} {s : τ} {a b c e tg iter elt : Expr} {es ifs : List Expr} {pos : Pos} {st : Stmt} {rest A B : List Stmt}
theorem jtse_nil : JTsE S [] Γ s (some (true, s)) := fun σ W F sta b hb Q k => by
  cases hb
  exact ⟨tYes, fun _ _ => pts_nil, k W F (Stp.refl sta.ok) sta⟩
theorem jtse_one {m : Option (Bool × τ)} (h : JTE S c Γ s m) : JTsE S [c] Γ s m := fun σ W F sta b hb Q k => ⟨ttOf S c, fun X hX => pts_one (ptO hX), h σ W F sta b hb Q k⟩
theorem je_lc {scope : Scope} {m : Option (α × τ)} {R : α → OP} (nd : S.N.Nodup) (h : JCE S elt tg iter ifs scope Γ s m R) (hs : ∀ env x, foldedSetIterable iter env x = pure x := by intro _ _; rfl) : JE S (.ListComp elt [⟨tg, iter, ifs, 0⟩] scope pos) Γ s m R := fun σ W F sta x hx Q k => by
  obtain ⟨own, ok, go⟩ := h
  exact ⟨_, fun X hX => pe_lc hX.calm (by rw [hX.N]; exact nd) (piO hX) (by rw [hX.N, hX.sc]; exact ok) (fun s H C cl fp => pgO (hX.blk scope s H C cl fp)) (fun s H C cl fp => ptsO (hX.blk scope s H C cl fp)) (fun s H C cl fp => peO (hX.blk scope s H C cl fp)) (hs _), go σ W F sta x hx Q k⟩
theorem js_setLcE {x : Str} {py spos : Pos} {scope : Scope} {m : Option (α × τ)} {R : α → OP} (i : Nat) (nd : S.N.Nodup) (h : JCE S elt tg iter ifs scope Γ s m R) (hi : ∀ s, ((Γ s)[i]?).isSome = true := by intro _; rfl) (hN : S.N[i]? = some x := by rfl) (hx : S.sc.names.lookup x = some .local := by rfl) (hp : (S.prot.contains i) = false := by rfl)
    (hk : S.sc.kind = .function := by rfl) (hl : (py.line == pos.line) = true := by rfl) (hown : (scope.names.any fun (n, k) => n == x && (k == .local || k == .cell)) = false := by decide +kernel) (hs : ∀ env x, foldedSetIterable iter env x = pure x := by intro _ _; rfl) :
    JS S (.Assign [.Name x py] (.ListComp elt [⟨tg, iter, ifs, 0⟩] scope pos) spos) (Γ s) m fun q => .nx ((Γ q.2).set i (some (R q.1))) := fun σ W F sta y hy E k => by
  obtain ⟨own, ok, go⟩ := h
  refine ⟨_, fun X hX => ps_setLc hX.calm (by rw [hX.N]; exact nd) (by rw [hX.N]; exact hN) (by rw [hX.sc]; exact hx) (sw_true (by rw [hX.sc]; exact hk) (by rw [hX.sc]; exact hx) hl hown) (piO hX) (by rw [hX.N, hX.sc]; exact ok) (fun s H C cl fp => pgO (hX.blk scope s H C cl fp)) (fun s H C cl fp => ptsO (hX.blk scope s H C cl fp)) (fun s H C cl fp => peO (hX.blk scope s H C cl fp)) (hs _), go σ W F sta y hy _ fun v W' F' Fv stp sa fp r => ?_⟩
  have hl : i < (Γ y.2).length := by
    have := hi y.2
    cases h : (Γ y.2)[i]? with
    | none => rw [h] at this; cases this
    | some o => exact (List.getElem?_eq_some_iff.mp h).1
  obtain ⟨F2, s', sub⟩ := sa.put hl r fp
  exact k _ W' F2 (Keep.set (ncon hp)) (stp.perm sub) s'
theorem wipeC_get {Γ : Ctx} {i : Nat} : ∀ {vs : List Nat}, i ∉ vs → (wipeC Γ vs)[i]? = Γ[i]?
  | [], _ => rfl
  | v :: vs, h => by
    show ((wipeC Γ vs).set v none)[i]? = _
    rw [List.getElem?_set_ne fun z => h (by rw [z]; exact List.mem_cons_self), wipeC_get fun z => h (List.mem_cons_of_mem _ z)]
/-- the block's turns; the block's own slots hold nothing outside -/
theorem jce_of {scope : Scope} {mi : Option (List α × τ)} {E : α → SP} {up : α → Ctx → Ctx} {ws : List Nat} {mt : α → τ → Option (Bool × τ)} {me : α → τ → Option (β × τ)} {R : β → OP} (own : List (Str × Nat)) (hi : JIE S tg iter Γ s mi E) (ok : blkC S.N S.sc scope own = true) (hg : JG (S.blk scope) tg E up ws)
    (hw : ∀ i ∈ ws, i ∈ own.map (·.2)) (hl : ∀ s, ∀ i ∈ ws, i < (Γ s).length) (hu : ∀ x Γ i, i ∉ ws → (up x Γ)[i]? = Γ[i]?) (hul : ∀ x Γ, (up x Γ).length = Γ.length) (hz : ∀ s, ∀ i ∈ own.map (·.2), (Γ s)[i]? = some none)
    (ht : ∀ x s, JTsE (S.blk scope) ifs (fun s => up x (wipeC (Γ s) (own.map (·.2)))) s (mt x s)) (he : ∀ x s, JE (S.blk scope) elt (fun s => up x (wipeC (Γ s) (own.map (·.2)))) s (me x s) R) :
    JCE S elt tg iter ifs scope Γ s (mi.bind fun q => compME mt me q.1 q.2) fun ys => lstO R ys := by
  refine ⟨own, blkOk_by ok, fun σ W F sta ys hx Q k => ?_⟩
  obtain ⟨q0, h1, h2⟩ := run1 hx
  unfold compME at h2
  split at h2
  · rename_i hlen
    refine hi σ W F sta q0 h1 _ fun J W' Fi stp0 sai iok => fun D hD => ?_
    have back : ∀ {x : α} {s : τ} {σ2 : L2.St} {W1 : Wd} {F1 : List Addr}, (∀ i, i ∉ own.map (·.2) → σ2[i]? = σ[i]?) → Sta (up x (wipeC (Γ s) (own.map (·.2)))) σ2 W1 F1 → ∃ F', Sta (Γ s) σ W1 F' ∧ ∀ a ∈ F', a ∈ F1 := by
      intro x s σ2 W1 F1 hσ sa
      have hlen : (Γ s).length = (up x (wipeC (Γ s) (own.map (·.2)))).length := by rw [hul, wipeC_len]
      obtain ⟨F', G, a1, a2⟩ := sa.hold.move (Γ := Γ s) (σ := σ) hlen fun i o e => by
        have hn : i ∉ own.map (·.2) := fun z => by
          rw [hz s i z] at e
          cases e
        refine ⟨?_, hσ i hn⟩
        rw [hu x _ i fun z => hn (hw i z), wipeC_get hn]
        exact e
      refine ⟨F', ⟨sa.ok, (sa.fp.perm a2).left, ?_, a1⟩, fun a ha => a2.mem_iff.mpr (List.mem_append_left _ ha)⟩
      have l1 : σ.length = (Γ s).length := by
        have e1 := sai.len
        have e2 : (Γ q0.2).length = σ.length := e1.symm
        have e3 := sa.len
        -- all contexts have the slots' number
        rw [hul, wipeC_len] at e3
        have e4 : σ2.length = σ.length := by
          have i1 : ∀ i, i ∉ own.map (·.2) → σ2[i]? = σ[i]? := hσ
          refine Nat.le_antisymm ?_ ?_
          · refine Nat.le_of_not_lt fun h => ?_
            by_cases hm : σ.length ∈ own.map (·.2)
            · have := hz q0.2 _ hm
              rw [List.getElem?_eq_none (by omega)] at this
              cases this
            · have := i1 σ.length hm
              rw [List.getElem?_eq_getElem h, List.getElem?_eq_none (Nat.le_refl _)] at this
              cases this
          · refine Nat.le_of_not_lt fun h => ?_
            by_cases hm : σ2.length ∈ own.map (·.2)
            · have := hz s _ hm
              rw [List.getElem?_eq_none (by omega)] at this
              cases this
            · have := i1 σ2.length hm
              rw [List.getElem?_eq_getElem h, List.getElem?_eq_none (Nat.le_refl _)] at this
              cases this
        omega
      exact l1
    refine ⟨fun i m H => m = q0.1.length - i ∧ i ≤ q0.1.length ∧ ∃ (W1 : Wd) (Fs : List Addr) (s : τ) (acc : List V) (as : List β) (bs : List β × τ) (Fa : List Addr), W1.H = H ∧ Stp W F W1 (Fs ++ (D :: Fa)) ∧ Ex W'.B W1.B ∧ Sta (Γ s) σ W1 Fs ∧ W1.H D = some (.lst acc) ∧ as.length ≤ i ∧
      compGoE mt me (q0.1.drop i) s = some bs ∧ (as ++ bs.1, bs.2) = ys ∧ Owns R W1 acc as Fa ∧ FpOk W1 (Fs ++ (D :: Fa)),
      ⟨q0.1.length, by simp, Nat.zero_le _, ⟨upd W'.H D (.lst []), W'.B⟩, Fi, q0.2, [], [], ys, [], rfl, ?_, Ex.refl _, sai.ext (Ext.new sai.ok hD), upd_same, Nat.le_refl _, by simpa using h2, rfl, rfl, ?_⟩, ?_⟩
    · refine stp0.trans ((Ext.new (o := .lst []) sai.ok hD).stp fun a ha => ?_)
      rw [List.mem_singleton.mp ha]
      exact hD
    · exact sai.fp.fresh (Ext.new (o := .lst []) sai.ok hD) (fp_one (sai.ok.back hD)) fun a ha => by rw [List.mem_singleton.mp ha]; exact hD
    rintro i m H ⟨rfl, hi', W1, Fs, s1, acc, as, bs, Fa, rfl, stp1, eb1, sa1, d1, la, c1, c2, o1, f1⟩
    obtain ⟨iok1, iok2⟩ := iok W1 ⟨sa1.ok, eb1⟩
    by_cases hlt : i < q0.1.length
    · obtain ⟨g1, g2⟩ := iok1 i q0.1[i] (List.getElem?_eq_getElem hlt)
      refine .inr ⟨g1, fun H' => ∃ m', m' < q0.1.length - i ∧ (m' = q0.1.length - (i + 1) ∧ i + 1 ≤ q0.1.length ∧ ∃ (W1 : Wd) (Fs : List Addr) (s : τ) (acc : List V) (as : List β) (bs : List β × τ) (Fa : List Addr), W1.H = H' ∧ Stp W F W1 (Fs ++ (D :: Fa)) ∧ Ex W'.B W1.B ∧ Sta (Γ s) σ W1 Fs ∧ W1.H D = some (.lst acc) ∧ as.length ≤ i + 1 ∧
        compGoE mt me (q0.1.drop (i + 1)) s = some bs ∧ (as ++ bs.1, bs.2) = ys ∧ Owns R W1 acc as Fa ∧ FpOk W1 (Fs ++ (D :: Fa))), fun H' h => h, fun v H' y => ?_⟩
      obtain ⟨W2, rfl, e2, p2⟩ := g2 v H' y
      have hDrop : q0.1.drop i = q0.1[i] :: q0.1.drop (i + 1) := List.drop_eq_getElem_cons hlt
      rw [hDrop] at c1
      obtain ⟨b, t1, t2⟩ := run1 (f := fun b : Bool × τ => bif b.1 then (me q0.1[i] b.2).bind fun y => (compGoE mt me (q0.1.drop (i + 1)) y.2).bind fun r => some (y.1 :: r.1, r.2) else compGoE mt me (q0.1.drop (i + 1)) b.2) c1
      obtain ⟨Fw, sw, subw⟩ := (sa1.ext e2).wipe (own.map (·.2))
      refine hg _ _ W2 Fw q0.1[i] v sw (fun j hj => by rw [wipeC_len]; exact hl s1 j hj) p2 _ fun σ2 F2 wp _ s2 sub2 => ?_
      have hσ : ∀ i, i ∉ own.map (·.2) → σ2[i]? = σ[i]? := fun i hn => by
        have e := wp _ hw
        have e1 : (wipe σ2 (own.map (·.2)))[i]? = (wipe (wipe σ (own.map (·.2))) (own.map (·.2)))[i]? := by rw [e]
        rw [wipe_out hn, wipe_out hn, wipe_out hn] at e1
        exact e1
      refine ⟨by rw [wp _ hw]; exact jc_of.wipe_wipe σ (own.map (·.2)), ?_⟩
      have sub12 : ∀ a ∈ F2, a ∈ Fs := fun a ha => subw a (sub2 a ha)
      refine ht q0.1[i] s1 σ2 W2 F2 s2 b t1 _ fun W3 F3 stp3 sa3 => ?_
      -- what is owned beside the block stays
      have keep3 : ∀ a, a ∈ D :: Fa → W3.H a = W1.H a := fun a ha => by
        have n1 : a ∉ Fs := fun z => f1.disj a z ha
        have al := f1.al a (List.mem_append_right _ ha)
        have h2 := e2.h.eq al
        cases q : W2.H a with
        | none => rw [h2] at q; exact absurd q al
        | some o => rw [stp3.h a o q fun z => n1 (sub12 a z), ← q, h2]
      have fr3 : ∀ a, a ∈ D :: Fa → W3.B a = none := fun a ha => by
        have n1 : a ∉ Fs := fun z => f1.disj a z ha
        have al := f1.al a (List.mem_append_right _ ha)
        exact stp3.fr a (e2.h.ne al) (e2.fr a al (f1.fr a (List.mem_append_right _ ha))) fun z => n1 (sub12 a z)
      have al3 : ∀ a, a ∈ D :: Fa → W3.H a ≠ none := fun a ha => by rw [keep3 a ha]; exact f1.al a (List.mem_append_right _ ha)
      have stp13 : Stp W1 Fs W3 F3 := (((e2.stp0 (F := Fs)).perm sub12).trans stp3)
      have stpT : ∀ {W4 : Wd} {F4 G : List Addr}, Stp W1 Fs W4 (F4 ++ G) → Stp W1 (Fs ++ (D :: Fa)) W4 (F4 ++ ((D :: Fa) ++ G)) := fun {W4 F4 G} st => by
        refine ⟨st.ok, st.b, fun a o h n => st.h a o h fun z => n (List.mem_append_left _ z), st.al, fun a h1 h2 n => st.fr a h1 h2 fun z => n (List.mem_append_left _ z), fun a ha => ?_⟩
        rcases List.mem_append.mp ha with z | z
        · exact (st.fp a (List.mem_append_left _ z)).imp (fun w => List.mem_append_left _ w) id
        · rcases List.mem_append.mp z with z | z
          · exact .inl (List.mem_append_right _ z)
          · exact (st.fp a (List.mem_append_right _ z)).imp (fun w => List.mem_append_left _ w) id
      obtain ⟨b1, b2⟩ := b
      cases b1 with
      | true =>
        obtain ⟨y1, t3, t4⟩ := run1 (f := fun y : β × τ => (compGoE mt me (q0.1.drop (i + 1)) y.2).bind fun r => some (y.1 :: r.1, r.2)) t2
        obtain ⟨r1, t5, t6⟩ := run1 (f := fun r : List β × τ => some (y1.1 :: r.1, r.2)) t4
        cases t6
        refine iteT (he q0.1[i] b2 σ2 W3 F3 sa3 y1 t3 _ fun u W4 F4 Fu stp4 sa4 fp4 r4 => ?_)
        obtain ⟨F5, sa5, sub5⟩ := back hσ sa4
        have stp14 : Stp W1 Fs W4 (F4 ++ Fu) := stp13.trans stp4
        have keep4 : ∀ a, a ∈ D :: Fa → W4.H a = W1.H a := fun a ha => by
          have n1 : a ∉ Fs := fun z => f1.disj a z ha
          have al := f1.al a (List.mem_append_right _ ha)
          cases q : W1.H a with
          | none => exact absurd q al
          | some o => exact stp14.h a o q n1
        have fr4 : ∀ a, a ∈ D :: Fa → W4.B a = none := fun a ha => by
          have n1 : a ∉ Fs := fun z => f1.disj a z ha
          exact stp14.fr a (f1.al a (List.mem_append_right _ ha)) (f1.fr a (List.mem_append_right _ ha)) n1
        have hD4 : W4.H D = some (.lst acc) := (keep4 D List.mem_cons_self).trans d1
        have ha4 : acc.length < LIM := by
          have := o1.len
          omega
        have nd1 := List.nodup_cons.mp f1.right.nd
        have apart : ∀ a ∈ F4 ++ Fu, a ∉ D :: Fa := fun a ha z => by
          rcases stp14.fp a ha with w | w
          · exact f1.disj a w z
          · exact f1.al a (List.mem_append_right _ z) w
        have nD : ∀ a ∈ Fa ++ Fu, a ≠ D := fun a ha z => by
          rcases List.mem_append.mp ha with h | h
          · exact nd1.1 (z ▸ h)
          · exact apart a (List.mem_append_right _ h) (z ▸ List.mem_cons_self)
        have nD5 : ∀ a ∈ F5, a ≠ D := fun a ha z => apart a (List.mem_append_left _ (sub5 a ha)) (z ▸ List.mem_cons_self)
        have A1 : Owns R W4 acc as Fa := o1.loc stp14.b fun a ha => keep4 a (List.mem_cons_of_mem _ ha)
        have A3 : Owns R W4 (acc ++ [u]) (as ++ [y1.1]) (Fa ++ Fu) := A1.app ⟨Fu, [], (List.append_nil _).symm, r4, rfl⟩
        have fA : FpOk W4 (F5 ++ ((D :: Fa) ++ Fu)) := by
          have x1 : FpOk W4 (D :: Fa) := ⟨f1.right.nd, fun a ha => by rw [keep4 a ha]; exact f1.al a (List.mem_append_right _ ha), fr4⟩
          have x2 : FpOk W4 ((D :: Fa) ++ Fu) := x1.app fp4.right fun a ha z => apart a (List.mem_append_right _ z) ha
          refine sa5.fp.app x2 fun a ha z => ?_
          rcases List.mem_append.mp z with z | z
          · exact apart a (List.mem_append_left _ (sub5 a ha)) z
          · exact fp4.disj a (sub5 a ha) z
        have hBD : W4.B D = none := fr4 D List.mem_cons_self
        refine ⟨acc, hD4, lim_lt ha4, q0.1.length - (i + 1), by omega, rfl, hlt, ⟨upd W4.H D (.lst (acc ++ [u])), W4.B⟩, F5, y1.2, acc ++ [u], as ++ [y1.1], r1, Fa ++ Fu, rfl, ?_, eb1.trans stp14.b, ?_, upd_same, ?_, t5, ?_, ?_, ?_⟩
        · have z1 : Stp W F W4 (F4 ++ ((D :: Fa) ++ Fu)) := stp1.trans (stpT stp14)
          have z2 : Stp W F W4 (F5 ++ ((D :: Fa) ++ Fu)) := z1.perm fun a ha => by
            rcases List.mem_append.mp ha with h | h
            · exact List.mem_append_left _ (sub5 a h)
            · exact List.mem_append_right _ h
          refine z2.trans ⟨wr_ok sa5.ok hBD, Ex.refl _, fun a o h n => ?_, wr_al, fun a _ h2 _ => h2, fun a ha => .inl ha⟩
          show upd W4.H D _ a = some o
          rw [upd_ne fun z => n (by rw [z]; simp)]
          exact h
        · refine ⟨wr_ok sa5.ok hBD, ⟨sa5.fp.nd, fun a ha => wr_al a (sa5.fp.al a ha), sa5.fp.fr⟩, sa5.len, Holds.loc (W := W4) (W' := ⟨upd W4.H D (.lst (acc ++ [u])), W4.B⟩) (fun _ _ h => h) sa5.hold fun a ha => ?_⟩
          show upd W4.H D _ a = W4.H a
          exact upd_ne (nD5 a ha)
        · rw [List.length_append, List.length_singleton]
          omega
        · rw [← c2]
          simp
        · exact Owns.loc (W := W4) (W' := ⟨upd W4.H D (.lst (acc ++ [u])), W4.B⟩) (fun _ _ h => h) A3 fun a ha => by
            show upd W4.H D (.lst (acc ++ [u])) a = W4.H a
            exact upd_ne (nD a ha)
        · exact ⟨fA.nd, fun a ha => wr_al a (fA.al a ha), fA.fr⟩
      | false =>
        obtain ⟨F5, sa5, sub5⟩ := back hσ sa3
        have stp14 : Stp W1 Fs W3 (F3 ++ []) := by rw [List.append_nil]; exact stp13
        refine iteF ⟨q0.1.length - (i + 1), by omega, rfl, hlt, W3, F5, b2, acc, as, bs, Fa, rfl, ?_, eb1.trans stp13.b, sa5, (keep3 D List.mem_cons_self).trans d1, by omega, t2, c2, o1.loc stp13.b fun a ha => keep3 a (List.mem_cons_of_mem _ ha), ?_⟩
        · have z1 := stp1.trans (stpT stp14)
          rw [List.append_nil] at z1
          exact z1.perm fun a ha => by
            rcases List.mem_append.mp ha with h | h
            · exact List.mem_append_left _ (sub5 a h)
            · exact List.mem_append_right _ h
        · refine sa5.fp.app ⟨f1.right.nd, al3, fr3⟩ fun a ha z => ?_
          rcases stp13.fp a (sub5 a ha) with w | w
          · exact f1.disj a w z
          · exact f1.al a (List.mem_append_right _ z) w
    · have ei : i = q0.1.length := by omega
      subst ei
      rw [List.drop_length] at c1
      cases c1
      rw [List.append_nil] at c2
      subst c2
      exact .inl ⟨iok2 _ (Nat.le_refl _), k (.ref D) W1 Fs (D :: Fa) stp1 sa1 f1 ⟨D, acc, Fa, rfl, d1, rfl, o1⟩⟩
  · cases h2
/-- what a target changes -/
theorem up1 {E : α → SP} (i : Nat) : ∀ (x : α) (Γ : Ctx) (j : Nat), j ∉ [i] → (Γ.set i (some (sh (E x))))[j]? = Γ[j]? := fun x Γ j h => List.getElem?_set_ne fun z => h (by simp [z])
theorem up1l {E : α → SP} (i : Nat) : ∀ (x : α) (Γ : Ctx), (Γ.set i (some (sh (E x)))).length = Γ.length := fun x Γ => List.length_set
theorem up2 {E : α → SP} {G : β → SP} (i k : Nat) : ∀ (x : α × β) (Γ : Ctx) (j : Nat), j ∉ [i, k] → ((Γ.set i (some (sh (E x.1)))).set k (some (sh (G x.2))))[j]? = Γ[j]? := fun x Γ j h => by
  rw [List.getElem?_set_ne fun z => h (by simp [z]), List.getElem?_set_ne fun z => h (by simp [z])]
theorem up2l {E : α → SP} {G : β → SP} (i k : Nat) : ∀ (x : α × β) (Γ : Ctx), ((Γ.set i (some (sh (E x.1)))).set k (some (sh (G x.2)))).length = Γ.length := fun x Γ => by rw [List.length_set, List.length_set]
/-- without tests -/
theorem JC.cong {scope : Scope} {Γ : Ctx} {m m' : Option α} {R : α → OP} (h : JC S elt tg iter ifs scope Γ m R) (q : m = m') : JC S elt tg iter ifs scope Γ m' R := q ▸ h
theorem JCE.cong {scope : Scope} {m m' : Option (α × τ)} {R : α → OP} (h : JCE S elt tg iter ifs scope Γ s m R) (q : m = m') : JCE S elt tg iter ifs scope Γ s m' R := q ▸ h
theorem jc_map {scope : Scope} {Γ : Ctx} {mi : Option (List α)} {E : α → SP} {up : α → Ctx → Ctx} {ws : List Nat} {me : α → Option β} {R : β → OP} (own : List (Str × Nat)) (hi : JIc S tg iter Γ mi E) (ok : blkC S.N S.sc scope own = true) (hg : JG (S.blk scope) tg E up ws)
    (hw : ∀ i ∈ ws, i ∈ own.map (·.2)) (hl : ∀ i ∈ ws, i < Γ.length) (he : ∀ x, JN (S.blk scope) elt (up x (wipeC Γ (own.map (·.2)))) (me x) R) : JC S elt tg iter [] scope Γ (mi.bind fun xs => mapM me xs) fun ys => lstO R ys :=
  (jc_of own hi ok hg hw hl (fun _ => jts_nil) he).cong (by simp only [mapM_eq])
theorem jce_map {scope : Scope} {mi : Option (List α × τ)} {E : α → SP} {up : α → Ctx → Ctx} {ws : List Nat} {me : α → τ → Option (β × τ)} {R : β → OP} (own : List (Str × Nat)) (hi : JIE S tg iter Γ s mi E) (ok : blkC S.N S.sc scope own = true) (hg : JG (S.blk scope) tg E up ws)
    (hw : ∀ i ∈ ws, i ∈ own.map (·.2)) (hl : ∀ s, ∀ i ∈ ws, i < (Γ s).length) (hu : ∀ x Γ i, i ∉ ws → (up x Γ)[i]? = Γ[i]?) (hul : ∀ x Γ, (up x Γ).length = Γ.length) (hz : ∀ s, ∀ i ∈ own.map (·.2), (Γ s)[i]? = some none)
    (he : ∀ x s, JE (S.blk scope) elt (fun s => up x (wipeC (Γ s) (own.map (·.2)))) s (me x s) R) : JCE S elt tg iter [] scope Γ s (mi.bind fun q => mapME me q.1 q.2) fun ys => lstO R ys :=
  (jce_of own hi ok hg hw hl hu hul hz (fun _ _ => jtse_nil) he).cong (by simp only [mapME_eq])
end
end CC
set_option maxHeartbeats 4000000
/-! Further rules: keywords, moves, sorting, isinstance. -/
namespace CC
open PySem PySem.Spec L2
open PyProof.Rows hiding St
variable {α β γ δ τ ω ρ υ : Type}
/-! ### what is reckoned -/
def maskC : List Bool → Ctx → Ctx
  | b :: bs, e :: Γ => (if b then e else none) :: maskC bs Γ
  | _, Γ => Γ.map fun _ => none
theorem weak_none : ∀ Γ : Ctx, Weak Γ (Γ.map fun _ => none)
  | [] => .nil
  | _ :: Γ => .drop (weak_none Γ)
theorem weak_mask : ∀ (bs : List Bool) (Γ : Ctx), Weak Γ (maskC bs Γ)
  | [], [] => .nil
  | [], e :: Γ => .drop (weak_none Γ)
  | _ :: _, [] => .nil
  | true :: bs, e :: Γ => .same (weak_mask bs Γ)
  | false :: bs, e :: Γ => .drop (weak_mask bs Γ)
theorem all_lt {ws : List Nat} {Γ : Ctx} (h : (ws.all fun i => (Γ[i]?).isSome) = true) : ∀ i ∈ ws, i < Γ.length := fun i hi => by
  have := List.all_eq_true.mp h i hi
  cases q : Γ[i]? with
  | none => rw [q] at this; cases this
  | some o => exact (List.getElem?_eq_some_iff.mp q).1
def isNon : Option (Option OP) → Bool
  | some none => true
  | _ => false
theorem all_non {ws : List Nat} {Γ : Ctx} (h : (ws.all fun i => isNon Γ[i]?) = true) : ∀ i ∈ ws, Γ[i]? = some none := fun i hi => by
  have := List.all_eq_true.mp h i hi
  cases q : Γ[i]? with
  | none => rw [q] at this; cases this
  | some o =>
    rw [q] at this
    cases o with
    | none => rfl
    | some o => cases this
/-! ### sorting -/
def ins (le : α → α → Bool) (x : α) : List α → List α
  | [] => [x]
  | y :: ys => if le x y then x :: y :: ys else y :: ins le x ys
def isort (le : α → α → Bool) : List α → List α
  | [] => []
  | x :: xs => ins le x (isort le xs)
theorem ins_perm (le : α → α → Bool) (x : α) : ∀ ys : List α, (ins le x ys).Perm (x :: ys)
  | [] => .refl _
  | y :: ys => by
    show (if le x y then x :: y :: ys else y :: ins le x ys).Perm _
    split
    · exact .refl _
    · exact (List.Perm.cons y (ins_perm le x ys)).trans (.swap x y ys)
theorem isort_perm (le : α → α → Bool) : ∀ xs : List α, (isort le xs).Perm xs
  | [] => .refl _
  | x :: xs => (ins_perm le x _).trans (.cons x (isort_perm le xs))
theorem ins_srt {le : α → α → Bool} (tot : ∀ a b, le a b = true ∨ le b a = true) (tr : ∀ a b c, le a b = true → le b c = true → le a c = true) (x : α) : ∀ ys : List α, ys.Pairwise (fun a b => le a b = true) → (ins le x ys).Pairwise fun a b => le a b = true
  | [], _ => by simp [ins]
  | y :: ys, h => by
    obtain ⟨h1, h2⟩ := List.pairwise_cons.mp h
    show (if le x y then x :: y :: ys else y :: ins le x ys).Pairwise _
    split
    · rename_i hle
      refine List.pairwise_cons.mpr ⟨fun z hz => ?_, h⟩
      rcases List.mem_cons.mp hz with e | hz
      · rw [e]; exact hle
      · exact tr x y z hle (h1 z hz)
    · rename_i hle
      refine List.pairwise_cons.mpr ⟨fun z hz => ?_, ins_srt tot tr x ys h2⟩
      rcases List.mem_cons.mp ((ins_perm le x ys).mem_iff.mp hz) with e | hz
      · rw [e]; exact (tot x y).resolve_left hle
      · exact h1 z hz
theorem isort_srt {le : α → α → Bool} (tot : ∀ a b, le a b = true ∨ le b a = true) (tr : ∀ a b c, le a b = true → le b c = true → le a c = true) : ∀ xs : List α, (isort le xs).Pairwise fun a b => le a b = true
  | [] => .nil
  | x :: xs => ins_srt tot tr x _ (isort_srt tot tr xs)
/-- two sorted lists of the same things are one -/
theorem srt_uniq {le : α → α → Bool} (an : ∀ a b, le a b = true → le b a = true → a = b) : ∀ {xs ys : List α}, xs.Pairwise (fun a b => le a b = true) → ys.Pairwise (fun a b => le a b = true) → xs.Perm ys → xs = ys
  | [], ys, _, _, p => (List.Perm.nil_eq p)
  | x :: xs, [], _, _, p => by have := p.length_eq; simp at this
  | x :: xs, y :: ys, h, k, p => by
    obtain ⟨h1, h2⟩ := List.pairwise_cons.mp h
    obtain ⟨k1, k2⟩ := List.pairwise_cons.mp k
    have e : x = y := by
      rcases List.mem_cons.mp (p.mem_iff.mp List.mem_cons_self) with e | m1
      · exact e
      rcases List.mem_cons.mp (p.mem_iff.mpr List.mem_cons_self) with e | m2
      · exact e.symm
      exact an x y (h1 y m2) (k1 x m1)
    subst e
    rw [srt_uniq an h2 k2 (List.Perm.cons_inv p)]
def leI (a b : Int) : Bool := decide (a ≤ b)
def leP (a b : Int × Int) : Bool := decide (a.1 < b.1) || (decide (a.1 = b.1) && decide (a.2 ≤ b.2))
theorem leP_iff {a b : Int × Int} : leP a b = true ↔ a.1 < b.1 ∨ (a.1 = b.1 ∧ a.2 ≤ b.2) := by
  unfold leP
  simp
theorem leP_tot (a b : Int × Int) : leP a b = true ∨ leP b a = true := by rw [leP_iff, leP_iff]; omega
theorem leP_tr (a b c : Int × Int) (h : leP a b = true) (k : leP b c = true) : leP a c = true := by rw [leP_iff] at *; omega
theorem leP_an (a b : Int × Int) (h : leP a b = true) (k : leP b a = true) : a = b := by
  rw [leP_iff] at *
  obtain ⟨a1, a2⟩ := a
  obtain ⟨b1, b2⟩ := b
  simp only at h k
  have e1 : a1 = b1 := by omega
  have e2 : a2 = b2 := by omega
  rw [e1, e2]
theorem leI_tot (a b : Int) : leI a b = true ∨ leI b a = true := by unfold leI; simp; omega
theorem leI_tr (a b c : Int) (h : leI a b = true) (k : leI b c = true) : leI a c = true := by unfold leI at *; simp at *; omega
theorem leI_an (a b : Int) (h : leI a b = true) (k : leI b a = true) : a = b := by unfold leI at *; simp at *; omega
def sortP (xs : List (Int × Int)) : List (Int × Int) := isort leP xs
def sortI (xs : List Int) : List Int := isort leI xs
section
variable {S : Stc} {Γ Δ : Ctx} {a b c e tg iter elt : Expr} {es ifs : List Expr} {pos : Pos} {st : Stmt} {rest A B : List Stmt}
/-- an owned slot is handed back, or moved -/
theorem sta_take {σ : L2.St} {W : Wd} {F : List Addr} {i : Nat} {o : OP} (sta : Sta Γ σ W F) (hi : Γ[i]? = some (some o)) : ∃ v F1 F2, σ[i]? = some (some v) ∧ o.C W v F1 ∧ F.Perm (F2 ++ F1) ∧ Sta (Γ.set i none) σ W F2 := by
  have go : ∀ {Γ : Ctx} {σ : L2.St} {F : List Addr} {i : Nat}, Holds Γ σ W F → Γ[i]? = some (some o) → ∃ v F1 F2, σ[i]? = some (some v) ∧ o.C W v F1 ∧ F.Perm (F2 ++ F1) ∧ Holds (Γ.set i none) σ W F2 := by
    intro Γ
    induction Γ with
    | nil => intro σ F i h e; simp at e
    | cons g Γ ih =>
      intro σ F i h e
      cases i with
      | zero =>
        have : g = some o := by simpa using e
        subst this
        obtain ⟨v, F1, F2, h1, h2, h3, h4⟩ := h
        refine ⟨v, F1, F2, ?_, h3, by subst h2; exact List.perm_append_comm, h4⟩
        rw [← List.head?_eq_getElem?]
        exact h1
      | succ i =>
        cases g with
        | none =>
          obtain ⟨v, F1, F2, a1, a2, a3, a4⟩ := ih (σ := σ.tail) (i := i) h (by simpa using e)
          rw [List.getElem?_tail] at a1
          exact ⟨v, F1, F2, a1, a2, a3, a4⟩
        | some p =>
          obtain ⟨u, G1, G2, h1, h2, h3, h4⟩ := h
          obtain ⟨v, F1, F2, a1, a2, a3, a4⟩ := ih (σ := σ.tail) (i := i) h4 (by simpa using e)
          rw [List.getElem?_tail] at a1
          subst h2
          refine ⟨v, F1, G1 ++ F2, a1, a2, ?_, u, G1, F2, h1, rfl, h3, a4⟩
          rw [List.append_assoc]
          exact List.Perm.append_left G1 a3
  obtain ⟨v, F1, F2, a1, a2, a3, a4⟩ := go sta.hold hi
  exact ⟨v, F1, F2, a1, a2, a3, sta.ok, (sta.fp.perm a3).left, by rw [List.length_set]; exact sta.len, a4⟩
theorem jb_retO {x : Str} {p0 : Pos} {R : α → OP} {a : α} (i : Nat) (w : Weak (Γ.set i none) Δ) (hi : Γ[i]? = some (some (R a)) := by rfl) (hN : S.N[i]? = some x := by rfl) (hv : Vis S.sc x := by first | exact Or.inl rfl | exact Or.inr (Or.inl rfl) | exact Or.inr (Or.inr rfl))
    (hd : (x == ("__debug__" : Str)) = false := by decide) (hcd : (x == ("__classdict__" : Str)) = false := by decide) : JB S (.Return (some (.Name x p0)) pos :: rest) Γ (some a) fun r => .rt Δ (R r) := fun σ W F sta y hy E k => by
  cases hy
  obtain ⟨v, F1, F2, h1, h2, h3, h4⟩ := sta_take sta hi
  obtain ⟨F', s', sub⟩ := h4.weak w
  have fp := sta.fp.perm h3
  refine ⟨tSeq (tRet (tVar i)) tNever, fun X hX => pss_cons (ps_ret (pe_var (by rw [hX.N]; exact hN) (visS hv hX) hd hcd)) pss_never, v, h1, ?_⟩
  refine k v σ W F' F1 Keep.refl ((Stp.refl sta.ok).perm fun a ha => ?_) s' (s'.fp.app fp.right fun a ha => fp.disj a (sub a ha)) h2
  rcases List.mem_append.mp ha with h | h
  · exact h3.mem_iff.mpr (List.mem_append_left _ (sub a h))
  · exact h3.mem_iff.mpr (List.mem_append_right _ h)
/-- the same beside a state -/
theorem jb_retOS {x : Str} {p0 : Pos} {R : α → OP} {a : α} {s : τ} {Δ : τ → Ctx} (i : Nat) (w : Weak (Γ.set i none) (Δ s)) (hi : Γ[i]? = some (some (R a)) := by rfl) (hN : S.N[i]? = some x := by rfl) (hv : Vis S.sc x := by first | exact Or.inl rfl | exact Or.inr (Or.inl rfl) | exact Or.inr (Or.inr rfl))
    (hd : (x == ("__debug__" : Str)) = false := by decide) (hcd : (x == ("__classdict__" : Str)) = false := by decide) : JB S (.Return (some (.Name x p0)) pos :: rest) Γ (some (a, s)) fun q => .rt (Δ q.2) (R q.1) := fun σ W F sta y hy E k => by
  cases hy
  obtain ⟨v, F1, F2, h1, h2, h3, h4⟩ := sta_take sta hi
  obtain ⟨F', s', sub⟩ := h4.weak w
  have fp := sta.fp.perm h3
  refine ⟨tSeq (tRet (tVar i)) tNever, fun X hX => pss_cons (ps_ret (pe_var (by rw [hX.N]; exact hN) (visS hv hX) hd hcd)) pss_never, v, h1, ?_⟩
  refine k v σ W F' F1 Keep.refl ((Stp.refl sta.ok).perm fun a ha => ?_) s' (s'.fp.app fp.right fun a ha => fp.disj a (sub a ha)) h2
  rcases List.mem_append.mp ha with h | h
  · exact h3.mem_iff.mpr (List.mem_append_left _ (sub a h))
  · exact h3.mem_iff.mpr (List.mem_append_right _ h)
/-- a pure expression handed back beside a state -/
theorem jb_retS {m : Option α} {s : τ} {R : α → OP} {Δ : τ → Ctx} (w : Weak Γ (Δ s)) (h : JN S e Γ m R) : JB S (.Return (some e) pos :: rest) Γ (m.bind fun x => some (x, s)) fun q => .rt (Δ q.2) (R q.1) := fun σ W F sta z hz E k => by
  obtain ⟨x, h1, h2⟩ := run1 hz
  cases h2
  exact jb_ret (rest := rest) (pos := pos) w h σ W F sta x h1 E k
/-- y = x, what x owned is y's now -/
theorem js_move {x y : Str} {p0 p1 : Pos} {o : OP} (i j : Nat) (nd : S.N.Nodup) (hj : Γ[j]? = some (some o) := by rfl) (hi : (Γ[i]?).isSome = true := by rfl) (hNj : S.N[j]? = some y := by rfl) (hN : S.N[i]? = some x := by rfl) (hv : Vis S.sc y := by first | exact Or.inl rfl | exact Or.inr (Or.inl rfl) | exact Or.inr (Or.inr rfl)) (hx : Loc S.sc x := by first | exact Or.inl rfl | exact Or.inr rfl)
    (hp : (S.prot.contains i) = false := by rfl) (hd : (y == ("__debug__" : Str)) = false := by decide) (hcd : (y == ("__classdict__" : Str)) = false := by decide) (hs : ∀ env, swapsWith (.Name y p1) (some (.Name x p0)) pos.line env = pure false := by intro _; rfl) (hf : S.fn x = true ∨ S.sc.names.lookup x = some .local := by first | exact .inl rfl | exact .inr rfl) :
    JS S (.Assign [.Name x p0] (.Name y p1) pos) Γ (some ()) fun _ => .nx ((Γ.set j none).set i (some o)) := fun σ W F sta z hz E k => by
  obtain ⟨v, F1, F2, h1, h2, h3, h4⟩ := sta_take sta hj
  have hl : i < (Γ.set j none).length := by
    rw [List.length_set]
    cases h : Γ[i]? with
    | none => rw [h] at hi; cases hi
    | some o => exact (List.getElem?_eq_some_iff.mp h).1
  obtain ⟨F', s', sub⟩ := h4.put hl h2 (sta.fp.perm h3)
  refine ⟨tAsg (tVar j) (gName i), fun X hX => ps_set (by rw [hX.N]; exact nd) (by rw [hX.N]; exact hN) (locS hx hX) (pe_var (by rw [hX.N]; exact hNj) (visS hv hX) hd hcd) (hs _) (by rw [hX.fn, hX.sc]; exact hf), v, h1, ?_⟩
  exact k _ W F' (Keep.set fun z => by rw [List.contains_iff_mem.mpr z] at hp; cases hp) ((Stp.refl sta.ok).perm fun a ha => h3.mem_iff.mpr (sub a ha)) s'
/-! ### xs[::-1], xs + ys -/
theorem jn_revL {E : α → SP} {m : Option (List α)} {k : Nat} {p1 p2 p3 : Pos} (h : JR S a Γ m (lstO fun x => sh (E x))) : JN S (.Subscript a (.Slice none none (some (.UnaryOp .USub (.Constant (.int 1) k p1) p2)) p3) pos) Γ (m.bind fun xs => some xs.reverse) (lstO fun x => sh (E x)) := fun σ W F sta z hz Q kq => by
  obtain ⟨x, h1, h2⟩ := run1 hz
  cases h2
  refine ⟨tRevL S.K (tOf S a), fun X hX => hX.K ▸ pe_revL (peO hX), h σ W F sta x h1 _ fun v W' ext ⟨F1, r, al⟩ => ?_⟩
  obtain ⟨p, vs, F2, rfl, q2, rfl, q3⟩ := r
  obtain ⟨_, q4⟩ := q3.each
  exact ⟨p, vs, rfl, .inl (.inl q2), (kq.ext ext).newL ext.ok q4.rev⟩
theorem jn_revS {E : α → SP} {m : Option (List α)} {k : Nat} {p1 p2 p3 : Pos} (h : JN S a Γ m fun x => sh (lstS E x)) : JN S (.Subscript a (.Slice none none (some (.UnaryOp .USub (.Constant (.int 1) k p1) p2)) p3) pos) Γ (m.bind fun xs => some xs.reverse) (lstO fun x => sh (E x)) := fun σ W F sta z hz Q kq => by
  obtain ⟨x, h1, h2⟩ := run1 hz
  cases h2
  refine ⟨tRevL S.K (tOf S a), fun X hX => hX.K ▸ pe_revL (peO hX), h σ W F sta x h1 _ fun v W' Fv ext _ _ r => ?_⟩
  obtain ⟨_, p, vs, rfl, q2, q3⟩ := r
  exact ⟨p, vs, rfl, .inl (.inl (ext.ok p _ q2)), (kq.ext ext).newL ext.ok q3.rev⟩
def catM (xs ys : List α) : Option (List α) := if xs.length + ys.length ≤ LIM then some (xs ++ ys) else none
theorem ov_cat {E : α → SP} : OpV rCat (lstS E) (lstS E) catM (lstO fun x => sh (E x)) := fun W x y v u z ok hx hy e Q k => by
  unfold catM at e
  split at e
  · rename_i hl
    cases e
    obtain ⟨a, vs, rfl, a2, a3⟩ := hx
    obtain ⟨b, us, rfl, b2, b3⟩ := hy
    exact ⟨a, b, vs, us, rfl, rfl, ok a _ a2, ok b _ b2, lim_le (by rw [a3.len, b3.len]; exact hl), k.newL ok (a3.app b3)⟩
  · cases e
theorem oCat : ∀ X, S.In X → OpR X (binaryOp .Add) rCat := fun _ _ => op_cat
/-! ### isinstance -/
class HasTy (E : α → SP) (n : outParam String) : Prop where
  ty : ∀ K x B H v, Ex B H → (E x).P B v → TyX K H v (.type n)
instance : HasTy intS "int" := ⟨fun K x B H v _ h => by cases h; exact .base (.int x)⟩
instance : HasTy boolS "bool" := ⟨fun K x B H v _ h => by cases h; exact .base (.bl x)⟩
instance : HasTy strS "str" := ⟨fun K x B H v _ h => by cases h; exact .base (.str x)⟩
instance : HasTy (fun _ : Unit => nonS) "NoneType" := ⟨fun K x B H v _ h => by cases h; exact .base .non⟩
instance {E : α → SP} : HasTy (lstS E) "list" := ⟨fun K x B H v e h => by obtain ⟨a, vs, rfl, h2, _⟩ := h; exact .base (.lst (e a _ h2))⟩
instance {E : α → SP} : HasTy (tupS E) "tuple" := ⟨fun K x B H v e h => by obtain ⟨a, vs, rfl, h2, _⟩ := h; exact .base (.tup (e a _ h2))⟩
instance {E : α → SP} {G : β → SP} : HasTy (prS E G) "tuple" := ⟨fun K x B H v e h => by obtain ⟨a, vs, rfl, h2, _⟩ := h; exact .base (.tup (e a _ h2))⟩
theorem jn_ty {x : Str} {n : String} (hm : S.mg x = none) (hg : GlS S x := by rfl) (hv : bootBuiltins x = some (.type n) := by decide +kernel) (hn : x ≠ "__name__" := by decide) (hdb : (x == ("__debug__" : Str)) = false := by decide) : JN S (.Name x pos) Γ (some ()) fun _ => sh (valS (.ty n)) :=
  jn_c (E := fun _ : Unit => valS (.ty n)) (fun X hX => pe_bltn (v := .ty n) (hg.gl hX) (mgS hm hX) hv rfl hn hdb) fun _ => rfl
theorem jn_isi {p pc : Pos} {c : Str} {E : α → SP} {n cn : String} [ht : HasTy E n] {m : Option α} (bb : Bool) (hm : S.mg "isinstance" = none) (hmc : S.mg c = none) (h : JN S a Γ m fun x => sh (E x)) (hk : kitB n cn = some bb := by decide +kernel) (hg : GlS S "isinstance" := by rfl) (hgc : GlS S c := by rfl) (hvc : bootBuiltins c = some (.type cn) := by decide +kernel) (hn : c ≠ "__name__" := by decide) (hdb : (c == ("__debug__" : Str)) = false := by decide)
    (hs : ∀ env, starEach [a, .Name c pc] env = [(false, eval a env), (false, eval (.Name c pc) env)] := by intro _; rfl) (hs2 : ∀ env, starEach [Expr.Name c pc] env = [(false, eval (.Name c pc) env)] := by intro _; rfl) : JN S (.Call (.Name "isinstance" p) [a, .Name c pc] [] pos) Γ (m.bind fun _ => some bb) fun z => sh (boolS z) := fun σ W F sta z hz Q kq => by
  obtain ⟨x, h1, h2⟩ := run1 hz
  cases h2
  refine ⟨tCB (rIsi S.K) (tCons (tOf S a) (tCons (tC (.ty cn)) tNil)), fun X hX => pe_callB (hX.K ▸ call_isi) (hg.gl hX) (mgS hm hX) (by decide +kernel) (pa_cons (peO hX) (pa_cons (pe_bltn (v := .ty cn) (hgc.gl hX) (mgS hmc hX) hvc rfl hn hdb) pa_nil (hs2 _)) ((hs _).trans (by rw [hs2]))) (by decide) (by decide) ((hs _).trans (by rw [hs2])) (by rw [hs2]; rfl), h σ W F sta x h1 _ fun v W' Fv ext _ _ r => ?_⟩
  exact ⟨v, .ty cn, .type n, .type cn, bb, rfl, .ty cn, ht.ty S.K x W'.B W'.H v ext.ok r.2, kit_ty hk, (kq.ext ext).val ext.ok rfl⟩
/-! ### all, any, sorted -/
theorem each_bl {B : Hp} : ∀ {vs : List V} {xs : List Bool}, Each boolS B vs xs → vs = xs.map V.bl
  | [], [], _ => rfl
  | v :: vs, x :: xs, h => by
    have e : v = .bl x := h.1
    rw [e, each_bl h.2]
    rfl
  | [], _ :: _, h => h.elim
  | _ :: _, [], h => h.elim
theorem each_int {B : Hp} : ∀ {vs : List V} {xs : List Int}, Each intS B vs xs → vs = xs.map V.int
  | [], [], _ => rfl
  | v :: vs, x :: xs, h => by
    have e : v = .int x := h.1
    rw [e, each_int h.2]
    rfl
  | [], _ :: _, h => h.elim
  | _ :: _, [], h => h.elim
theorem each_of_int {B : Hp} : ∀ xs : List Int, Each intS B (xs.map V.int) xs
  | [] => trivial
  | x :: xs => ⟨rfl, each_of_int xs⟩
theorem all_lst {m : Option (List Bool)} {p : Pos} (hm : S.mg "all" = none) (h : JN S a Γ m fun x => sh (lstS boolS x)) (hg : GlS S "all" := by rfl) (hs : ∀ env, starEach [a] env = [(false, eval a env)] := by intro _; rfl) : JN S (.Call (.Name "all" p) [a] [] pos) Γ (m.bind fun xs => some (xs.all id)) fun z => sh (boolS z) :=
  jn_b1 (f := fun xs : List Bool => some (xs.all id)) (fun X hX => hX.K ▸ cr_all hX.calm) (fun W x v z ok hh e Q k => by
    cases e
    obtain ⟨a, vs, rfl, h2, h3⟩ := hh
    rw [each_bl h3] at h2
    exact ⟨a, x, rfl, .inl (.inl (ok a _ h2)), k.val ok rfl⟩) hm h hg (by decide +kernel) (by decide) (by decide) hs
theorem any_lst {m : Option (List Bool)} {p : Pos} (hm : S.mg "any" = none) (h : JN S a Γ m fun x => sh (lstS boolS x)) (hg : GlS S "any" := by rfl) (hs : ∀ env, starEach [a] env = [(false, eval a env)] := by intro _; rfl) : JN S (.Call (.Name "any" p) [a] [] pos) Γ (m.bind fun xs => some (xs.any id)) fun z => sh (boolS z) :=
  jn_b1 (f := fun xs : List Bool => some (xs.any id)) (fun X hX => hX.K ▸ cr_any hX.calm) (fun W x v z ok hh e Q k => by
    cases e
    obtain ⟨a, vs, rfl, h2, h3⟩ := hh
    rw [each_bl h3] at h2
    exact ⟨a, x, rfl, .inl (.inl (ok a _ h2)), k.val ok rfl⟩) hm h hg (by decide +kernel) (by decide) (by decide) hs
theorem each_mem {E : α → SP} {B : Hp} : ∀ {vs : List V} {xs : List α} {v : V}, Each E B vs xs → v ∈ vs → ∃ x, x ∈ xs ∧ (E x).P B v
  | [], [], v, _, h => by simp at h
  | u :: vs, x :: xs, v, h, hv => by
    rcases List.mem_cons.mp hv with e | hv
    · rw [e]; exact ⟨x, List.mem_cons_self, h.1⟩
    · obtain ⟨y, h1, h2⟩ := each_mem h.2 hv
      exact ⟨y, List.mem_cons_of_mem _ h1, h2⟩
  | [], _ :: _, _, h, _ => h.elim
  | _ :: _, [], _, h, _ => h.elim
theorem pr_tup {B : Hp} {p : Int × Int} {v : V} (h : (prS intS intS p).P B v) : ∃ t, v = .ref t ∧ B t = some (.tup [.int p.1, .int p.2]) := by
  obtain ⟨t, vs, rfl, h2, h3⟩ := h
  obtain ⟨v, u, rfl, h4, h5⟩ := hets2 h3
  cases h4
  cases h5
  exact ⟨t, rfl, h2⟩
theorem tup_pr {B : Hp} {p : Int × Int} {t : Addr} (h : B t = some (.tup [.int p.1, .int p.2])) : (prS intS intS p).P B (.ref t) := ⟨t, _, rfl, h, rfl, rfl, trivial⟩
open Classical in
/-- sorted of a list of pairs of whole numbers -/
theorem sorted_prs {m : Option (List (Int × Int))} {p : Pos} (hm : S.mg "sorted" = none) (h : JN S a Γ m fun x => sh (lstS (prS intS intS) x)) (hg : GlS S "sorted" := by rfl) (hs : ∀ env, starEach [a] env = [(false, eval a env)] := by intro _; rfl) : JN S (.Call (.Name "sorted" p) [a] [] pos) Γ (m.bind fun xs => some (sortP xs)) (lstO fun x => sh (prS intS intS x)) :=
  jn_b1 (f := fun xs : List (Int × Int) => some (sortP xs)) (fun X hX => hX.K ▸ cr_sortedPO) (fun W x v z ok hh e Q k => by
    cases e
    obtain ⟨a, vs, rfl, h2, h3⟩ := hh
    -- the pair behind a value
    let kk : V → Int × Int := fun u => if h : ∃ q : Int × Int, (prS intS intS q).P W.B u then h.choose else (0, 0)
    have kspec : ∀ (q : Int × Int) (u : V), (prS intS intS q).P W.B u → kk u = q := fun q u hu => by
      have hex : ∃ q : Int × Int, (prS intS intS q).P W.B u := ⟨q, hu⟩
      have e1 : kk u = hex.choose := dif_pos hex
      have e2 := hex.choose_spec
      rw [← e1] at e2
      obtain ⟨t, rfl, b1⟩ := pr_tup hu
      obtain ⟨t', e3, b2⟩ := pr_tup e2
      cases e3
      rw [b1] at b2
      injection b2 with b2
      injection b2 with b2
      injection b2 with c1 c2
      injection c2 with c2 _
      injection c1 with c1
      injection c2 with c2
      exact Prod.ext c1.symm c2.symm
    refine ⟨a, vs, kk, rfl, .inl (.inl (ok a _ h2)), fun u hu => ?_, fun ys p srt stb np => ?_⟩
    · obtain ⟨q, _, hq⟩ := each_mem h3 hu
      obtain ⟨t, rfl, b1⟩ := pr_tup hq
      rw [kspec q _ hq]
      exact ⟨t, rfl, ok t _ b1⟩
    · have perm : ys.Perm vs := SrtO.Stb.perm stb
      have hmap : vs.map kk = x := by
        clear stb perm h2 k srt np
        induction vs generalizing x with
        | nil => cases x with
          | nil => rfl
          | cons _ _ => exact h3.elim
        | cons u vs ih => cases x with
          | nil => exact h3.elim
          | cons q x => rw [List.map_cons, kspec q u h3.1, ih _ h3.2]
      have hys : ∀ u ∈ ys, (prS intS intS (kk u)).P W.B u := fun u hu => by
        obtain ⟨q, _, hq⟩ := each_mem h3 (perm.mem_iff.mp hu)
        rw [kspec q u hq]
        exact hq
      have hE : Each (prS intS intS) W.B ys (ys.map kk) := by
        clear stb perm srt
        induction ys with
        | nil => trivial
        | cons u ys ih => exact ⟨hys u List.mem_cons_self, ih fun w hw => hys w (List.mem_cons_of_mem _ hw)⟩
      have hsrt : (ys.map kk).Pairwise fun a b => leP a b = true := by
        rw [List.pairwise_map]
        refine List.Pairwise.imp (fun {u w} hn => ?_) srt
        have := SrtO.lexB_no.mp hn
        rw [leP_iff]
        omega
      have e : ys.map kk = sortP x := srt_uniq leP_an hsrt (isort_srt leP_tot leP_tr x) (by
        refine (perm.map kk).trans ?_
        rw [hmap]
        exact (isort_perm leP x).symm)
      rw [e] at hE
      exact k.newL ok hE p np) hm h hg (by decide +kernel) (by decide) (by decide) hs
/-! ### keywords and defaults -/
def tkOf (S : Stc) (kws : List Keyword) : TA := fun σ H Q => ∃ t : TA, (∀ X, S.In X → PK X kws t) ∧ t σ H Q
theorem pkO {X : Cx} {kws : List Keyword} (h : S.In X) : PK X kws (tkOf S kws) := ⟨fun pos pins s σ H Q I ⟨_, p, q⟩ => (p X h).run pos pins s σ H Q I q⟩
def JK (S : Stc) (kws : List Keyword) (Γ : Ctx) (m : Option α) (R : α → List SP) : Prop :=
  ∀ σ W F, Sta Γ σ W F → ∀ x, m = some x → ∀ Q : List V → Hp → Prop, (∀ vs W', Ext W W' → Hets W'.B vs (R x) → Q vs W'.H) → tkOf S kws σ W.H Q
theorem jk_nil : JK S [] Γ (some ()) fun _ => [] := fun σ W F st x hx Q k => ⟨tNil, fun _ _ => pk_nil, k [] W (Ext.refl st.ok) trivial⟩
theorem jk_cons {nm : Option Str} {kpos : Pos} {kws : List Keyword} {ma : Option α} {mb : Option β} {E : α → SP} {G : β → List SP} (ha : JN S e Γ ma fun x => sh (E x)) (hb : JK S kws Γ mb G) : JK S (⟨nm, e, kpos⟩ :: kws) Γ (ma.bind fun x => mb.bind fun y => some (x, y)) fun p => E p.1 :: G p.2 := fun σ W F st z hz Q k => by
  obtain ⟨x, y, h1, h2, h3⟩ := run2 hz
  cases h3
  refine ⟨tCons (tOf S e) (tkOf S kws), fun X hX => pk_cons (peO hX) (pkO hX), ?_⟩
  refine ha σ W F st x h1 _ fun v W1 F1 e1 _ _ r1 => ?_
  exact hb σ W1 F (st.ext e1) y h2 _ fun vs W2 e2 h => k (v :: vs) W2 (e1.trans e2) ⟨SP.mono _ r1.2 e2.b, h⟩
theorem Hets.app {B : Hp} : ∀ {vs us : List V} {ps qs : List SP}, Hets B vs ps → Hets B us qs → Hets B (vs ++ us) (ps ++ qs)
  | [], _, [], _, _, k => k
  | _ :: _, _, _ :: _, _, h, k => ⟨h.1, Hets.app h.2 k⟩
  | [], _, _ :: _, _, h, _ => h.elim
  | _ :: _, _, [], _, h, _ => h.elim
/-- f(e, ..), the lacking parameters by their defaults dvs -/
theorem jn_callD {x : Str} {p : Pos} {f : Addr} {fd : FuncData} {ps : List Str} {k : Nat} {G : γ → List SP} {Ga : α → List SP} {fM : γ → Option ρ} {R : ρ → OP} {m : Option α} {ds : List Value} (dvs : List V) (g : α → γ) (Fn : FnOk S.P S.w S.K S.mg S.base CX0 k f fd ps (spP G fM R)) (hm : S.mg x = some (.ref f)) (kp : PySem.W.keepIn S.K (.ref f) = true) (hd : Vals dvs ds) (hb : Binds S.K fd ps ds)
    (hG : ∀ x B vs, Hets B vs (Ga x) → Hets B (vs ++ dvs) (G (g x))) (hk : k ≤ S.k) (ha : JA S (e :: es) Γ m Ga) (hg : GlS S x := by rfl) (hdb : (x == ("__debug__" : Str)) = false := by decide) (he : ∀ env, starEach (e :: es) env = (false, eval e env) :: starEach es env := by intro _; rfl) (hpl : ∀ env, (backTo pos (starEach es env)).any (·.1) = false := by intro _; rfl) :
    JN S (.Call (.Name x p) (e :: es) [] pos) Γ (m.bind fun y => fM (g y)) R := fun σ W F st z hz Q kk => by
  obtain ⟨y, h1, h2⟩ := run1 hz
  refine ⟨tCall (spP G fM R) dvs E0 (taOf S (e :: es)), fun X hX => pe_call (fnokS Fn hX) (hX.room.mono hk) (hg.gl hX) (mgS hm hX) (by rw [hX.K]; exact kp) (bindsS hX hb) hd passE0 (paO hX) hdb (he _) (hpl _), ha σ W F st y h1 _ fun vs W' ext hh => ?_⟩
  exact ⟨g y, W', z, rfl, ext.ok, hG y _ vs hh, h2, kk.ext ext⟩
theorem kbnS {X : Cx} {fd : FuncData} {ps ks : List Str} {n : Nat} {g : List Value → List Value → List Value} {gV : List V → List V → List V} (h : S.In X) (b : KBn S.K fd ps n ks g gV) : KBn X.K fd ps n ks g gV := by rw [h.K]; exact b
theorem jn_callN {x : Str} {p : Pos} {f : Addr} {fd : FuncData} {ps ks : List Str} {k n : Nat} {G : γ → List SP} {Ga : α → List SP} {Gk : β → List SP} {fM : γ → Option ρ} {R : ρ → OP} {m : Option α} {mk : Option β} {kws : List Keyword} {gv : List Value → List Value → List Value} {gV : List V → List V → List V} (g : α → β → γ) (Fn : FnOk S.P S.w S.K S.mg S.base CX0 k f fd ps (spP G fM R)) (hm : S.mg x = some (.ref f)) (kp : PySem.W.keepIn S.K (.ref f) = true) (hb : KBn S.K fd ps n ks gv gV)
    (hG : ∀ x z B vs zs, Hets B vs (Ga x) → Hets B zs (Gk z) → Hets B (gV vs zs) (G (g x z))) (hl : ∀ x, (Ga x).length = n) (hlk : ∀ z, (Gk z).length = ks.length) (hk : k ≤ S.k) (ha : JA S (e :: es) Γ m Ga) (hkw : JK S kws Γ mk Gk) (hg : GlS S x := by rfl) (hdb : (x == ("__debug__" : Str)) = false := by decide)
    (hall : ∀ env, (backToKw pos (keywordEach kws env)).all (·.1.isSome) = true := by intro _; rfl) (hks : ∀ env, (backToKw pos (keywordEach kws env)).filterMap (·.1) = ks := by intro _; rfl) (he : ∀ env, starEach (e :: es) env = (false, eval e env) :: starEach es env := by intro _; rfl)
    (hpl : ∀ env, ((backTo pos (starEach (e :: es) env)).any (·.1) || (backToKw pos (keywordEach kws env)).any (·.1.isNone)) = false := by intro _; rfl) : JN S (.Call (.Name x p) (e :: es) kws pos) Γ (m.bind fun y => mk.bind fun z => fM (g y z)) R := fun σ W F st z hz Q kk => by
  obtain ⟨y, w, h1, h2, h3⟩ := run2 hz
  refine ⟨tCallN n ks.length (spP G fM R) gV E0 (taOf S (e :: es)) (tkOf S kws), fun X hX => pe_callN (fnokS Fn hX) (hX.room.mono hk) (hg.gl hX) (mgS hm hX) (by rw [hX.K]; exact kp) (kbnS hX hb) passE0 (paO hX) (pkO hX) (hall _) (hks _) hdb (he _) (hpl _), ?_⟩
  refine ha σ W F st y h1 _ fun vs W1 e1 hh => ?_
  refine hkw σ W1 F (st.ext e1) w h2 _ fun zs W2 e2 hz => ⟨hh.len.trans (hl y), hz.len.trans (hlk w), ?_⟩
  exact ⟨g y w, W2, z, rfl, e2.ok, hG y w _ vs zs (hh.mono e2.b) hz, h3, kk.ext (e1.trans e2)⟩
/-- f(k = v, ..) -/
def tCall0N (m : Nat) (sp : Sp) (gV : List V → List V → List V) (E : XK) (tk : TA) : TE := fun σ H Q => tk σ H fun zs H2 => zs.length = m ∧ sp (gV [] zs) H2 Q E
theorem pe_call0N {X : Cx} {CX : CXT} {k : Nat} {f : Addr} {fd : FuncData} {ps ks : List Str} {sp : Sp} {E : XK} {x : Str} {p pos : Pos} {kws : List Keyword} {tk : TA} {g : List Value → List Value → List Value} {gV : List V → List V → List V} (F : FnOk X.prog X.w X.K X.mg X.base CX k f fd ps sp) (hr : Room k X.A) (hg : Gl X x) (hm : X.mg x = some (.ref f)) (hk : PySem.W.keepIn X.K (.ref f) = true) (hb : KBn X.K fd ps 0 ks g gV) (hx : Passes CX X E) (hkw : PK X kws tk)
    (hall : (backToKw pos (keywordEach kws X.env)).all (·.1.isSome) = true) (hks : (backToKw pos (keywordEach kws X.env)).filterMap (·.1) = ks) (hdb : (x == ("__debug__" : Str)) = false)
    (hpl : ((backTo pos (starEach [] X.env)).any (·.1) || (backToKw pos (keywordEach kws X.env)).any (·.1.isNone)) = false) : PE X (.Call (.Name x p) [] kws pos) (tCall0N ks.length sp gV E tk) := by
  refine ⟨fun pins s σ H Q I h => ?_⟩
  refine wpAny_Call_Name_kw (ld_glob I hg hm ?_ hdb)
  refine PySem.W.callWith_KW0 (h₀ := X.base) I.ok.mod.kin hk hall ?_ hpl
  refine thn (hkw.run pos pins s σ H _ I h) fun ws s2 ⟨zs, H2, I2, rz, l2, q2⟩ => ⟨I2.kIn, ?_⟩
  rw [hks]
  exact run_fnN (us := []) (vs := []) F hr hb hx I2 .nil rz rfl l2 q2
theorem jn_call0N {x : Str} {p : Pos} {f : Addr} {fd : FuncData} {ps ks : List Str} {k : Nat} {G : γ → List SP} {Gk : β → List SP} {fM : γ → Option ρ} {R : ρ → OP} {mk : Option β} {kws : List Keyword} {gv : List Value → List Value → List Value} {gV : List V → List V → List V} (g : β → γ) (Fn : FnOk S.P S.w S.K S.mg S.base CX0 k f fd ps (spP G fM R)) (hm : S.mg x = some (.ref f)) (kp : PySem.W.keepIn S.K (.ref f) = true) (hb : KBn S.K fd ps 0 ks gv gV)
    (hG : ∀ z B zs, Hets B zs (Gk z) → Hets B (gV [] zs) (G (g z))) (hlk : ∀ z, (Gk z).length = ks.length) (hk : k ≤ S.k) (hkw : JK S kws Γ mk Gk) (hg : GlS S x := by rfl) (hdb : (x == ("__debug__" : Str)) = false := by decide)
    (hall : ∀ env, (backToKw pos (keywordEach kws env)).all (·.1.isSome) = true := by intro _; rfl) (hks : ∀ env, (backToKw pos (keywordEach kws env)).filterMap (·.1) = ks := by intro _; rfl)
    (hpl : ∀ env, ((backTo pos (starEach [] env)).any (·.1) || (backToKw pos (keywordEach kws env)).any (·.1.isNone)) = false := by intro _; rfl) : JN S (.Call (.Name x p) [] kws pos) Γ (mk.bind fun z => fM (g z)) R := fun σ W F st z hz Q kk => by
  obtain ⟨w, h2, h3⟩ := run1 hz
  refine ⟨tCall0N ks.length (spP G fM R) gV E0 (tkOf S kws), fun X hX => pe_call0N (fnokS Fn hX) (hX.room.mono hk) (hg.gl hX) (mgS hm hX) (by rw [hX.K]; exact kp) (kbnS hX hb) passE0 (pkO hX) (hall _) (hks _) hdb (hpl _), ?_⟩
  refine hkw σ W F st w h2 _ fun zs W2 e2 hz => ⟨hz.len.trans (hlk w), ?_⟩
  exact ⟨g w, W2, z, rfl, e2.ok, hG w _ zs hz, h3, kk.ext e2⟩
end
/-- a def with keyword-only defaults -/
theorem fnd_pure {P : Program} {w : World} {K : PySem.W.Frag} {mg : Str → Option Value} {base : Heap} {x qual : Str} {st : Stmt} {f : Addr} {fd : FuncData} {dvs : List V} {kwd : List (Str × V)} {N ps : List Str} {k : Nat} {G : α → List SP} {fM : α → Option ρ} {R : ρ → OP} {Δ : Ctx} (F : FunD K x qual (defArgs st) (defBody st) (defScope st) dvs kwd f fd) (Sc : FnScope N ps (defScope st)) (hG : ∀ a, (G a).length = ps.length) (hn : ps.length ≤ N.length)
    (body : ∀ a, JB (stcOf P w K mg base N (defScope st) k []) (defBody st) (shC (G a) ++ nonC (N.length - ps.length)) (fM a) fun r => .rt Δ (R r)) : FnOk P w K mg base CX0 (k + 1) f fd ps (spP G fM R) := by
  refine F.ok Sc (fun vs H Q E h => ?_) (fun cdv A outer s H vs Q E hr h => ?_)
  · obtain ⟨a, W, r, _, _, h3, _⟩ := h
    rw [h3.len, hG]
  · obtain ⟨a, W, r, rfl, ok, h3, h4, kq⟩ := h
    refine ⟨tbOf (stcOf P w K mg base N (defScope st) k []) (defBody st), (pbO (in_cx hr)).nox, ?_⟩
    have hl : vs.length = ps.length := h3.len.trans (hG a)
    have sta : Sta (shC (G a) ++ nonC (N.length - ps.length)) (L2.start N vs) W [] := ⟨ok, FpOk.nil, by unfold L2.start shC nonC; simp [h3.len, hG, hl], by unfold L2.start; rw [hl]; exact holds_sh h3⟩
    exact body a _ W [] sta r h4 _ fun v σ' W' F' Fv _ stp _ fp rr => by
      obtain ⟨ext, fr⟩ := stp.ext
      exact kq v W' Fv ext (fun a ha => fr a (List.mem_append_right _ ha)) fp.right rr
end CC
set_option maxHeartbeats 4000000
/-! Tuples and lists of several kinds. -/
namespace CC
open PySem PySem.Spec L2
open PyProof.Rows hiding St
variable {α β γ δ τ υ ω ρ : Type}
theorem sb (x : α) (f : α → Option β) : (some x).bind f = f x := rfl
def t3S (E : α → SP) (G : β → SP) (I : γ → SP) (p : α × β × γ) : SP := htupS [E p.1, G p.2.1, I p.2.2]
def t4S (E : α → SP) (G : β → SP) (I : γ → SP) (J : δ → SP) (p : α × β × γ × δ) : SP := htupS [E p.1, G p.2.1, I p.2.2.1, J p.2.2.2]
def t5S (E : α → SP) (G : β → SP) (I : γ → SP) (J : δ → SP) (L : τ → SP) (p : α × β × γ × δ × τ) : SP := htupS [E p.1, G p.2.1, I p.2.2.1, J p.2.2.2.1, L p.2.2.2.2]
def l2S (E : α → SP) (G : β → SP) (p : α × β) : SP := hlstS [E p.1, G p.2]
def l3S (E : α → SP) (G : β → SP) (I : γ → SP) (p : α × β × γ) : SP := hlstS [E p.1, G p.2.1, I p.2.2]
def l4S (E : α → SP) (G : β → SP) (I : γ → SP) (J : δ → SP) (p : α × β × γ × δ) : SP := hlstS [E p.1, G p.2.1, I p.2.2.1, J p.2.2.2]
def l5S (E : α → SP) (G : β → SP) (I : γ → SP) (J : δ → SP) (L : τ → SP) (p : α × β × γ × δ × τ) : SP := hlstS [E p.1, G p.2.1, I p.2.2.1, J p.2.2.2.1, L p.2.2.2.2]
section
variable {S : Stc} {Γ : Ctx} {a b e : Expr} {es : List Expr} {pos : Pos}
theorem jn_nilT {E : α → SP} {k : Nat} : JN S (.Tuple [] k pos) Γ (some []) fun x => sh (tupS E x) := jn_dispT (E := E) (g := fun _ : Unit => ([] : List α)) ja_nil
theorem jn_tupG {m : Option α} {R : α → List SP} {P : β → SP} {g : α → β} {k : Nat} (h : JA S es Γ m R) (hR : ∀ x, htupS (R x) = P (g x) := by intro _; rfl) (hl : ∀ x, (R x).length ≤ 1000 := by intro _; exact Nat.le_of_ble_eq_true rfl) : JN S (.Tuple es k pos) Γ (m.bind fun x => some (g x)) fun y => sh (P y) := fun σ W F sta z hz Q kk => by
  obtain ⟨x, h1, h2⟩ := run1 hz
  cases h2
  have q := jn_tup (k := k) (pos := pos) (p := fun _ => True) h hl σ W F sta x h1 Q
  simp only [hR] at q
  exact q kk
theorem jn_hl {m : Option α} {R : α → List SP} {T : β → OP} {g : α → β} (h : JA S es Γ m R) (hR : ∀ x, hetO ((R x).map sh) = T (g x) := by intro _; rfl) (hl : ∀ x, (R x).length ≤ 1000 := by intro _; exact Nat.le_of_ble_eq_true rfl) : JN S (.List es pos) Γ (m.bind fun x => some (g x)) T := fun σ W F sta z hz Q kk => by
  obtain ⟨x, h1, h2⟩ := run1 hz
  cases h2
  have q := jn_het (pos := pos) h hl σ W F sta x h1 Q
  simp only [hR] at q
  exact q kk
theorem jn_hlS {m : Option α} {R : α → List SP} {T : β → SP} {g : α → β} (h : JA S es Γ m R) (hR : ∀ x, hlstS (R x) = T (g x) := by intro _; rfl) (hl : ∀ x, (R x).length ≤ 1000 := by intro _; exact Nat.le_of_ble_eq_true rfl) : JN S (.List es pos) Γ (m.bind fun x => some (g x)) fun y => sh (T y) := fun σ W F sta z hz Q kk => by
  obtain ⟨x, h1, h2⟩ := run1 hz
  cases h2
  have q := jn_hetS (pos := pos) h hl σ W F sta x h1 Q
  simp only [hR] at q
  exact q kk
theorem len_scr {m : Option (List Int)} {p : Pos} (hm : S.mg "len" = none) (h : JN S a Γ m fun x => sh (scrS S.K x)) (hg : GlS S "len" := by rfl) (hs : ∀ env, starEach [a] env = [(false, eval a env)] := by intro _; rfl) : JN S (.Call (.Name "len" p) [a] [] pos) Γ (m.bind fun xs => some (xs.length : Int)) fun z => sh (intS z) :=
  jn_b1 (r := fun xs H Q => ∃ p ys, xs = [.ref p] ∧ (SqL S.K H p ys ∨ SqT S.K H p ys) ∧ Q (.int ys.length) H) (f := fun xs : List Int => some (xs.length : Int)) (fun X hX => hX.K ▸ call_len_seq) (fun W x v z ok hh e Q k => by
    cases e
    obtain ⟨a, rfl, h2⟩ := hh
    have hq : SqL S.K W.H a (x.map V.int) := by
      rcases h2 with (h | ⟨o, h⟩) | h
      · exact .inl (.inl (ok _ _ h))
      · exact .inl (.inr ⟨o, ok _ _ h⟩)
      · exact .inr h
    exact ⟨a, _, rfl, .inl hq, k.val ok (by rw [List.length_map]; rfl)⟩) hm h hg PySem.boot_len (by decide) (by decide) hs
end
section
variable {S : Stc} {Γ : τ → Ctx} {s : τ} {a b e : Expr} {es : List Expr} {pos : Pos}
theorem je_tup {E : α → SP} {m : Option (List α × τ)} {p : Pos} (hm : S.mg "tuple" = none) (h : JE S a Γ s m fun x => sh (lstS E x)) (hg : GlS S "tuple" := by rfl) (hs : ∀ env, starEach [a] env = [(false, eval a env)] := by intro _; rfl) : JE S (.Call (.Name "tuple" p) [a] [] pos) Γ s (m.bind fun q => some (q.1, q.2)) fun x => sh (tupS E x) :=
  je_t1 (f := fun x : List α => some x) (fun X hX => hX.K ▸ call_tuple_of) (fun W x v z ok hh e Q k => by
    cases e
    obtain ⟨a, vs, rfl, h2, h3⟩ := hh
    exact ⟨a, vs, rfl, .inl ⟨.inl (.inl (ok a _ h2)), k.newT ok h3⟩⟩) hm h hg (by decide +kernel) (by decide) (by decide) hs
theorem je_tupG {m : Option (α × τ)} {R : α → List SP} {P : β → SP} {g : α → β} {k : Nat} (h : JEA S es Γ s m R) (hR : ∀ x, htupS (R x) = P (g x) := by intro _; rfl) (hl : ∀ x, (R x).length ≤ 1000 := by intro _; exact Nat.le_of_ble_eq_true rfl) : JE S (.Tuple es k pos) Γ s (m.bind fun q => some (g q.1, q.2)) fun y => sh (P y) := JE.of_sh fun σ W F sta z hz Q kk => by
  obtain ⟨q, h1, h2⟩ := run1 hz
  cases h2
  refine ⟨tTup (taOf S es), fun X hX => pe_tup (paO hX), h σ W F sta q h1 _ fun vs W' F' stp sa hh => ?_⟩
  refine ⟨Nat.le_trans (by rw [hh.len]; exact hl q.1) (by decide), fun l hq => ?_⟩
  have e2 := Ext.newB sa.ok (o := .tup vs) hq
  exact kk (.ref l) ⟨upd W'.H l (.tup vs), upd W'.B l (.tup vs)⟩ F' (stp.trans e2.stp0) (sa.ext e2) (by rw [← hR]; exact ⟨l, vs, rfl, upd_same, hh.mono e2.b⟩)
theorem je_dispL {E : β → SP} {m : Option (α × τ)} {R : α → List SP} {g : α → List β} (h : JEA S es Γ s m R) (hR : ∀ x, R x = (g x).map E := by intro _; rfl) (hl : ∀ x, (R x).length ≤ 1000 := by intro _; exact Nat.le_of_ble_eq_true rfl) : JE S (.List es pos) Γ s (m.bind fun q => some (g q.1, q.2)) fun y => lstO (fun x => sh (E x)) y := fun σ W F sta z hz Q kk => by
  obtain ⟨q, h1, h2⟩ := run1 hz
  cases h2
  refine ⟨tLst (taOf S es), fun X hX => pe_lst (paO hX), h σ W F sta q h1 _ fun vs W' F' stp sa hh => ?_⟩
  refine ⟨Nat.le_trans (by rw [hh.len]; exact hl q.1) (by decide), fun l hq => ?_⟩
  have e2 := Ext.new sa.ok (o := .lst vs) hq
  rw [hR] at hh
  have fr : ∀ x ∈ [l], W'.H x = none := fun x hx => by rw [List.mem_singleton.mp hx]; exact hq
  have fp1 : FpOk ⟨upd W'.H l (.lst vs), W'.B⟩ [l] := fp_one (sa.ok.back hq)
  exact kk (.ref l) ⟨upd W'.H l (.lst vs), W'.B⟩ F' [l] (stp.trans (e2.stp fr)) (sa.ext e2) (sa.fp.fresh e2 fp1 fr) ⟨l, vs, [], rfl, upd_same, rfl, Owns.of_each (W := ⟨upd W'.H l (.lst vs), W'.B⟩) hh.each⟩
theorem je_hlS {m : Option (α × τ)} {R : α → List SP} {P : β → SP} {g : α → β} (h : JEA S es Γ s m R) (hR : ∀ x, hlstS (R x) = P (g x) := by intro _; rfl) (hl : ∀ x, (R x).length ≤ 1000 := by intro _; exact Nat.le_of_ble_eq_true rfl) : JE S (.List es pos) Γ s (m.bind fun q => some (g q.1, q.2)) fun y => sh (P y) := JE.of_sh fun σ W F sta z hz Q kk => by
  obtain ⟨q, h1, h2⟩ := run1 hz
  cases h2
  refine ⟨tLst (taOf S es), fun X hX => pe_lst (paO hX), h σ W F sta q h1 _ fun vs W' F' stp sa hh => ?_⟩
  refine ⟨Nat.le_trans (by rw [hh.len]; exact hl q.1) (by decide), fun l hq => ?_⟩
  have e2 := Ext.newB sa.ok (o := .lst vs) hq
  exact kk (.ref l) ⟨upd W'.H l (.lst vs), upd W'.B l (.lst vs)⟩ F' (stp.trans e2.stp0) (sa.ext e2) (by rw [← hR]; exact ⟨l, vs, rfl, upd_same, hh.mono e2.b⟩)
end
/-- a def with state first -/
theorem fnd_state {P : Program} {w : World} {K : PySem.W.Frag} {mg : Str → Option Value} {base : Heap} {x qual : Str} {st : Stmt} {f : Addr} {fd : FuncData} {dvs : List V} {kwd : List (Str × V)} {N ps : List Str} {k : Nat} {O : τ → OP} {G : α → List SP} {fM : α → τ → Option (ρ × τ)} {R : ρ → OP} (F : FunD K x qual (defArgs st) (defBody st) (defScope st) dvs kwd f fd) (Sc : FnScope N ps (defScope st)) (hG : ∀ a, (G a).length + 1 = ps.length) (hn : ps.length ≤ N.length)
    (body : ∀ a s, JB (stcOf P w K mg base N (defScope st) k [0]) (defBody st) (some (O s) :: (shC (G a) ++ nonC (N.length - ps.length))) (fM a s) fun r => .rt (some (O r.2) :: nonC (N.length - 1)) (R r.1)) : FnOk P w K mg base CX0 (k + 1) f fd ps (spS O G fM R) := by
  refine F.ok Sc (fun vs H Q E h => ?_) (fun cdv A outer s H vs Q E hr h => ?_)
  · obtain ⟨a, s, W, F, v0, vr, r, rfl, _, _, _, _, h3, _⟩ := h
    rw [List.length_cons, h3.len, hG]
  · obtain ⟨a, s0, W, Fp, v0, vr, r, rfl, rfl, ok, fp0, h0, h3, h4, kq⟩ := h
    refine ⟨tbOf (stcOf P w K mg base N (defScope st) k [0]) (defBody st), (pbO (in_cx hr)).nox, ?_⟩
    have hl : (v0 :: vr).length = ps.length := by rw [List.length_cons, h3.len]; exact hG a
    have sta : Sta (some (O s0) :: (shC (G a) ++ nonC (N.length - ps.length))) (L2.start N (v0 :: vr)) W Fp := ⟨ok, fp0, by
      unfold L2.start shC nonC
      have := hG a
      simp [h3.len]
      omega, ⟨v0, Fp, [], rfl, (List.append_nil _).symm, h0, by
      unfold L2.start
      rw [hl]
      exact holds_sh h3⟩⟩
    refine body a s0 _ W Fp sta r h4 _ fun v σ' W' F' Fv kp stp sa fp rr => ?_
    obtain ⟨u, F1, F2, b1, b2, b3, b4⟩ := sa.hold
    have e0 : σ'[0]? = some (some v0) := (kp 0 (by simp)).trans rfl
    have eu : u = v0 := by
      rw [List.head?_eq_getElem?] at b1
      rw [e0] at b1
      exact (Option.some.inj (Option.some.inj b1)).symm
    subst eu
    have eF : F2 = [] := by
      have : ∀ (n : Nat) (σ : L2.St) (F : List Addr), Holds (nonC n) σ W' F → F = [] := by
        intro n
        induction n with
        | zero => intro σ F h; exact h
        | succ n ih => intro σ F h; exact ih σ.tail F h
      exact this _ _ _ b4
    subst eF
    rw [List.append_nil] at b2
    subst b2
    exact kq v W' F' Fv stp fp b3 rr
abbrev FnP (K : PySem.W.Frag) (x : Str) (st : Stmt) (f : Addr) (fd : FuncData) : Prop := FunD K x x (defArgs st) (defBody st) (defScope st) [] [] f fd
theorem hets_d {B : Hp} {vs dvs : List V} {ps qs rs : List SP} (h : Hets B vs ps) (hd : Hets B dvs qs) (e : rs = ps ++ qs) : Hets B (vs ++ dvs) rs := e ▸ h.app hd
/-- the law is called with its script -/
theorem law_in {K : PySem.W.Frag} {H : Hp} {a : Addr} {ns : List Int} {fM : List Int × Unit → Option Bool} {E : XK} (hS : SqL K H a (ns.map V.int)) (h : fM (ns, ()) = some true) : spP (fun a : List Int × Unit => [scrS K a.1]) fM (fun b => sh (boolS b)) [.ref a] H (fun v _ => v = .bl true) E :=
  ⟨(ns, ()), ⟨H, H⟩, true, rfl, Ex.refl _, ⟨⟨a, rfl, hS⟩, trivial⟩, h, fun v W' Fv _ _ _ r => r.2⟩
theorem sw_cell {elt : Expr} {gs : List Comprehension} {scope : Scope} {pos py : Pos} {y : Str} {l : Nat} {env : Env} (hy : env.scope.names.lookup y = some .cell) : swapsWith (.ListComp elt gs scope pos) (some (.Name y py)) l env = pure false := by
  have ky : env.kindOf y = some .cell := hy
  unfold swapsWith
  simp only [ky]
  rw [show ((some NameKind.cell == some NameKind.local) : Bool) = false from rfl, Bool.and_false, Bool.false_and, Bool.false_and]
section
variable {S : Stc} {Γ : Ctx}
theorem js_setLcC {x : Str} {py spos pos : Pos} {elt : Expr} {gs : List Comprehension} {scope : Scope} {m : Option α} {R : α → OP} (i : Nat) (nd : S.N.Nodup) (h : JN S (.ListComp elt gs scope pos) Γ m R) (hi : (Γ[i]?).isSome = true := by rfl) (hN : S.N[i]? = some x := by rfl) (hx : S.sc.names.lookup x = some .cell := by rfl) (hp : (S.prot.contains i) = false := by rfl) (hf : S.fn x = true := by rfl) :
    JS S (.Assign [.Name x py] (.ListComp elt gs scope pos) spos) Γ m fun a => .nx (Γ.set i (some (R a))) := fun σ W F sta y hy E k => by
  refine ⟨tAsg (tOf S _) (gName i), fun X hX => ps_set (by rw [hX.N]; exact nd) (by rw [hX.N]; exact hN) (locS (.inr hx) hX) (peO hX) (sw_cell (by rw [hX.sc]; exact hx)) (by rw [hX.fn]; exact .inl hf), h σ W F sta y hy _ fun v W' Fv ext fr fp r => ?_⟩
  obtain ⟨F', s', stp⟩ := sta_set sta ext fr fp r hi
  exact k _ W' F' (Keep.set (ncon hp)) stp s'
end
section
variable {S : Stc} {Γ : τ → Ctx} {s : τ}
theorem js_setLcCE {x : Str} {py spos pos : Pos} {elt : Expr} {gs : List Comprehension} {scope : Scope} {m : Option (α × τ)} {R : α → OP} (i : Nat) (nd : S.N.Nodup) (h : JE S (.ListComp elt gs scope pos) Γ s m R) (hi : ∀ s, ((Γ s)[i]?).isSome = true := by intro _; rfl) (hN : S.N[i]? = some x := by rfl) (hx : S.sc.names.lookup x = some .cell := by rfl) (hp : (S.prot.contains i) = false := by rfl) (hf : S.fn x = true := by rfl) :
    JS S (.Assign [.Name x py] (.ListComp elt gs scope pos) spos) (Γ s) m fun q => .nx ((Γ q.2).set i (some (R q.1))) := fun σ W F sta y hy E k => by
  refine ⟨tAsg (tOf S _) (gName i), fun X hX => ps_set (by rw [hX.N]; exact nd) (by rw [hX.N]; exact hN) (locS (.inr hx) hX) (peO hX) (sw_cell (by rw [hX.sc]; exact hx)) (by rw [hX.fn]; exact .inl hf), h σ W F sta y hy _ fun v W' F' Fv stp sa fp r => ?_⟩
  have hl : i < (Γ y.2).length := by
    have := hi y.2
    cases h : (Γ y.2)[i]? with
    | none => rw [h] at this; cases this
    | some o => exact (List.getElem?_eq_some_iff.mp h).1
  obtain ⟨F2, b1, b2⟩ := sa.put hl r fp
  exact k _ W' F2 (Keep.set (ncon hp)) (stp.perm b2) b1
end
end CC
set_option maxHeartbeats 1000000
/-! Plain laws of the mirrors' words: when they give something, and what. -/
namespace CC
open PySem PySem.Spec L2
open PyProof.Rows hiding St
variable {α β γ δ τ υ ω ρ : Type}
def Ok (m : Option α) (P : α → Prop) : Prop := ∃ x, m = some x ∧ P x
theorem Ok.one {P : α → Prop} {x : α} (h : P x) : Ok (some x) P := ⟨x, rfl, h⟩
theorem Ok.bind {m : Option α} {f : α → Option β} {P : α → Prop} {Q : β → Prop} (h : Ok m P) (k : ∀ x, P x → Ok (f x) Q) : Ok (m.bind f) Q := by
  obtain ⟨x, rfl, hx⟩ := h
  exact k x hx
theorem Ok.mono {m : Option α} {P Q : α → Prop} (h : Ok m P) (k : ∀ x, P x → Q x) : Ok m Q := by
  obtain ⟨x, rfl, hx⟩ := h
  exact ⟨x, rfl, k x hx⟩
theorem Ok.eq {m : Option α} {x : α} (h : m = some x) : Ok m (· = x) := ⟨x, h, rfl⟩
theorem Ok.of_eq {m : Option α} {x : α} {P : α → Prop} (h : m = some x) (p : P x) : Ok m P := ⟨x, h, p⟩
theorem Ok.eq_some {m : Option α} {x : α} (h : Ok m (· = x)) : m = some x := by
  obtain ⟨y, e, rfl⟩ := h
  exact e
theorem Ok.bif {b : Bool} {m n : Option α} {P : α → Prop} (h : b = true → Ok m P) (k : b = false → Ok n P) : Ok (bif b then m else n) P := by
  cases b with
  | true => exact h rfl
  | false => exact k rfl
theorem bind_eta (m : Option (α × β)) : (m.bind fun r => some (r.1, r.2)) = m := by cases m <;> rfl
theorem bind_id (m : Option α) : (m.bind fun r => some r) = m := by cases m <;> rfl
theorem bassoc (m : Option α) (f : α → Option β) (g : β → Option γ) : (m.bind f).bind g = m.bind fun x => (f x).bind g := by cases m <;> rfl
theorem bif_bind (b : Bool) (m n : Option α) (f : α → Option β) : (bif b then m else n).bind f = bif b then m.bind f else n.bind f := by cases b <;> rfl
theorem run_eq {m : Option α} {f : α → Option β} {x : α} (h : m = some x) : m.bind f = f x := by rw [h]; rfl
/-! ### numbers -/
theorem mulO_l {x y : Int} (h1 : -(2 ^ 64) < x) (h2 : x < 2 ^ 64) : mulO x y = some (x * y) := by
  unfold mulO
  rw [if_pos (.inl ⟨h1, h2⟩)]
theorem mulO_r {x y : Int} (h1 : -(2 ^ 64) < y) (h2 : y < 2 ^ 64) : mulO x y = some (x * y) := by
  unfold mulO
  rw [if_pos (.inr ⟨h1, h2⟩)]
theorem divO_eq {x y : Int} (h1 : 0 < y) (h2 : y < 1073741824) : divO x y = some (x / y) := by
  unfold divO
  rw [if_pos ⟨h1, h2⟩]
theorem modO_eq {x y : Int} (h1 : 0 < y) : modO x y = some (x % y) := by
  unfold modO
  rw [if_pos h1]
theorem mod_lo (x : Int) {y : Int} (h : 0 < y) : 0 ≤ x % y := Int.emod_nonneg x (by omega)
theorem mod_hi (x : Int) {y : Int} (h : 0 < y) : x % y < y := Int.emod_lt_of_pos x h
/-! ### ranges -/
def rl (n : Nat) : List Int := (List.range n).map fun i : Nat => (i : Int)
theorem rl_len (n : Nat) : (rl n).length = n := by unfold rl; rw [List.length_map, List.length_range]
theorem rl_get {n k : Nat} (h : k < n) : (rl n)[k]? = some (k : Int) := by
  unfold rl
  rw [List.getElem?_map, List.getElem?_range h]
  rfl
theorem rl_mem {n : Nat} {x : Int} : x ∈ rl n ↔ ∃ k : Nat, k < n ∧ x = (k : Int) := by
  unfold rl
  rw [List.mem_map]
  constructor
  · rintro ⟨k, h, rfl⟩
    exact ⟨k, List.mem_range.mp h, rfl⟩
  · rintro ⟨k, h, rfl⟩
    exact ⟨k, List.mem_range.mpr h, rfl⟩
theorem rl_succ (n : Nat) : rl (n + 1) = rl n ++ [(n : Int)] := by
  unfold rl
  rw [List.range_succ, List.map_append]
  rfl
theorem rl_nodup (n : Nat) : (rl n).Nodup := by
  unfold rl
  refine (List.pairwise_map).mpr ?_
  exact List.Pairwise.imp (fun h e => h (by omega)) (List.nodup_range (n := n))
theorem rng_nat {n : Nat} (h : n ≤ LIM) : rng 0 (n : Int) = some (rl n) := by
  have hl : (LIM : Int) = 1000000 := rfl
  have h' : n ≤ 1000000 := h
  unfold rng rl
  rw [if_pos (by rw [hl]; omega)]
  rw [show ((n : Int) - 0).toNat = n by omega]
  congr 1
  exact List.map_congr_left fun i _ => by omega
theorem rng_int {z : Int} (h0 : 0 ≤ z) (h : z ≤ 1000000) : rng 0 z = some (rl z.toNat) := by
  have : rng 0 ((z.toNat : Nat) : Int) = some (rl z.toNat) := rng_nat (by show z.toNat ≤ 1000000; omega)
  rw [← this]
  congr 1
  omega
/-! ### looks and stores -/
theorem ixN_nat {n k : Nat} (h : k < n) : ixN n (k : Int) = some k := by
  unfold ixN
  rw [if_pos (by omega), if_pos (by omega), Int.toNat_natCast]
theorem ixN_int {n : Nat} {z : Int} (h0 : 0 ≤ z) (h : z < n) : ixN n z = some z.toNat := by
  unfold ixN
  rw [if_pos h0, if_pos h]
theorem atI_nat {xs : List α} {k : Nat} (h : k < xs.length) : atI xs (k : Int) = some xs[k] := by
  unfold atI
  rw [ixN_nat h]
  exact List.getElem?_eq_getElem h
theorem atI_nat? {xs : List α} {k : Nat} {x : α} (h : xs[k]? = some x) : atI xs (k : Int) = some x := by
  obtain ⟨h1, rfl⟩ := List.getElem?_eq_some_iff.mp h
  exact atI_nat h1
theorem atI_ok {xs : List α} {z : Int} {P : α → Prop} (h0 : 0 ≤ z) (h : z < xs.length) (hP : ∀ (k : Nat) x, xs[k]? = some x → (k : Int) = z → P x) : Ok (atI xs z) P := by
  obtain ⟨k, rfl⟩ := Int.eq_ofNat_of_zero_le h0
  have hk : k < xs.length := by omega
  exact ⟨xs[k], atI_nat hk, hP k _ (List.getElem?_eq_getElem hk) rfl⟩
theorem atI_mem {xs : List α} {z : Int} (h0 : 0 ≤ z) (h : z < xs.length) : Ok (atI xs z) fun x => x ∈ xs := atI_ok h0 h fun k x e _ => List.mem_of_getElem? e
theorem setAt_nat {xs : List α} {k : Nat} {x : α} (h : k < xs.length) : setAt xs (k : Int) x = some (xs.set k x) := by
  unfold setAt
  rw [ixN_nat h]
  rfl
theorem appM_eq {xs : List α} {x : α} (h : xs.length < 1000000) : appM xs x = some (xs ++ [x]) := by
  unfold appM
  rw [if_pos (show xs.length < LIM from h)]
theorem catM_eq {xs ys : List α} (h : xs.length + ys.length ≤ 1000000) : catM xs ys = some (xs ++ ys) := by
  unfold catM
  rw [if_pos (show xs.length + ys.length ≤ LIM from h)]
theorem popAt_ok {xs : List α} {z : Int} (h0 : 0 ≤ z) (h : z < xs.length) (hl : xs.length ≤ 1000000) : Ok (popAt xs z) fun r => xs.Perm (r.1 :: r.2) ∧ r.2.length + 1 = xs.length := by
  obtain ⟨k, rfl⟩ := Int.eq_ofNat_of_zero_le h0
  have hk : k < xs.length := by omega
  have e : popAt xs (k : Int) = some (xs[k], xs.eraseIdx k) := by
    unfold popAt
    rw [if_pos ⟨h0, hl⟩, Int.toNat_natCast, List.getElem?_eq_getElem hk]
    rfl
  refine ⟨_, e, ?_, ?_⟩
  · show xs.Perm (xs[k] :: xs.eraseIdx k)
    rw [List.eraseIdx_eq_take_drop_succ]
    have e : xs = xs.take k ++ xs[k] :: xs.drop (k + 1) := by rw [← List.drop_eq_getElem_cons hk, List.take_append_drop]
    exact (List.Perm.of_eq e).trans List.perm_middle
  · show (xs.eraseIdx k).length + 1 = _
    rw [List.length_eraseIdx_of_lt hk]
    omega
/-! ### walks -/
inductive F2 {α β : Type} (P : α → β → Prop) : List α → List β → Prop
  | nil : F2 P [] []
  | cons {x y xs ys} : P x y → F2 P xs ys → F2 P (x :: xs) (y :: ys)
theorem mapGo_eq {f : α → Option β} {g : α → β} : ∀ {xs : List α}, (∀ x ∈ xs, f x = some (g x)) → mapGo f xs = some (xs.map g)
  | [], _ => rfl
  | x :: xs, h => by
    show (f x).bind _ = _
    rw [h x List.mem_cons_self, sb, mapGo_eq fun y hy => h y (List.mem_cons_of_mem _ hy)]
    rfl
theorem mapM_is {f : α → Option β} {g : α → β} {xs : List α} (hl : xs.length ≤ 1000000) (h : ∀ x ∈ xs, f x = some (g x)) : mapM f xs = some (xs.map g) := by
  unfold mapM
  rw [if_pos (show xs.length ≤ LIM from hl), mapGo_eq h]
theorem mapGo_ok {f : α → Option β} {P : α → β → Prop} : ∀ {xs : List α}, (∀ x ∈ xs, Ok (f x) (P x)) → Ok (mapGo f xs) fun ys => F2 P xs ys
  | [], _ => .one .nil
  | x :: xs, h => .bind (h x List.mem_cons_self) fun y hy => .bind (mapGo_ok fun z hz => h z (List.mem_cons_of_mem _ hz)) fun ys hys => .one (.cons hy hys)
theorem mapM_ok {f : α → Option β} {P : α → β → Prop} {xs : List α} (hl : xs.length ≤ 1000000) (h : ∀ x ∈ xs, Ok (f x) (P x)) : Ok (mapM f xs) fun ys => F2 P xs ys := by
  unfold mapM
  rw [if_pos (show xs.length ≤ LIM from hl)]
  exact mapGo_ok h
theorem f2_len {P : α → β → Prop} {xs : List α} {ys : List β} (h : F2 P xs ys) : ys.length = xs.length := by
  induction h with
  | nil => rfl
  | cons _ _ ih => rw [List.length_cons, List.length_cons, ih]
theorem f2_get {P : α → β → Prop} {xs : List α} {ys : List β} (h : F2 P xs ys) : ∀ {k : Nat} {y : β}, ys[k]? = some y → ∃ x, xs[k]? = some x ∧ P x y := by
  induction h with
  | nil => intro k y e; simp at e
  | @cons a b as bs hab _ ih =>
    intro k y e
    cases k with
    | zero =>
      have : b = y := by simpa using e
      subst this
      exact ⟨a, rfl, hab⟩
    | succ k =>
      obtain ⟨x, h1, h2⟩ := ih (k := k) (by simpa using e)
      exact ⟨x, by simpa using h1, h2⟩
theorem f2_mem {P : α → β → Prop} {xs : List α} {ys : List β} (h : F2 P xs ys) {y : β} (hy : y ∈ ys) : ∃ x, x ∈ xs ∧ P x y := by
  obtain ⟨k, hk⟩ := List.mem_iff_getElem?.mp hy
  obtain ⟨x, h1, h2⟩ := f2_get h hk
  exact ⟨x, List.mem_of_getElem? h1, h2⟩
/-- over a range -/
theorem mapR_ok {f : Int → Option β} {P : Nat → β → Prop} {n : Nat} (hl : n ≤ 1000000) (h : ∀ k < n, Ok (f (k : Int)) (P k)) : Ok (mapM f (rl n)) fun ys => ys.length = n ∧ ∀ k y, ys[k]? = some y → P k y := by
  refine (mapM_ok (P := fun x y => ∀ k : Nat, x = (k : Int) → P k y) (by rw [rl_len]; exact hl) fun x hx => ?_).mono fun ys hy => ⟨by rw [f2_len hy, rl_len], fun k y e => ?_⟩
  · obtain ⟨k, hk, rfl⟩ := rl_mem.mp hx
    refine (h k hk).mono fun y hy j e => ?_
    have : k = j := by omega
    exact this ▸ hy
  · obtain ⟨x, h1, h2⟩ := f2_get hy e
    have hk : k < n := by
      have := (List.getElem?_eq_some_iff.mp h1).1
      rwa [rl_len] at this
    rw [rl_get hk] at h1
    exact h2 k (Option.some.inj h1).symm
theorem compGo_eq {t : α → Option Bool} {f : α → Option β} {p : α → Bool} {g : α → β} : ∀ {xs : List α}, (∀ x ∈ xs, t x = some (p x)) → (∀ x ∈ xs, p x = true → f x = some (g x)) → compGo t f xs = some ((xs.filter p).map g)
  | [], _, _ => rfl
  | x :: xs, h, k => by
    have ih := compGo_eq (xs := xs) (fun y hy => h y (List.mem_cons_of_mem _ hy)) fun y hy => k y (List.mem_cons_of_mem _ hy)
    show (t x).bind _ = _
    rw [h x List.mem_cons_self, sb]
    cases hp : p x with
    | true =>
      show (f x).bind _ = _
      rw [k x List.mem_cons_self hp, sb, ih, List.filter_cons_of_pos hp]
      rfl
    | false =>
      show compGo t f xs = _
      rw [ih, List.filter_cons_of_neg (by rw [hp]; exact fun z => nomatch z)]
theorem compM_eq {t : α → Option Bool} {f : α → Option β} {p : α → Bool} {g : α → β} {xs : List α} (hl : xs.length ≤ 1000000) (h : ∀ x ∈ xs, t x = some (p x)) (k : ∀ x ∈ xs, p x = true → f x = some (g x)) : compM t f xs = some ((xs.filter p).map g) := by
  unfold compM
  rw [if_pos (show xs.length ≤ LIM from hl), compGo_eq h k]
theorem foldGo_ok {f : α → τ → Option τ} {Inv : List α → τ → Prop} : ∀ (xs : List α) (pre : List α) {s : τ}, Inv pre s → (∀ pre x post s, pre ++ x :: post = pre ++ x :: post → x ∈ xs → Inv pre s → Ok (f x s) (Inv (pre ++ [x]))) → Ok (foldGo f xs s) (Inv (pre ++ xs))
  | [], pre, s, h, _ => by
    rw [List.append_nil]
    exact .one h
  | x :: xs, pre, s, h, hs => by
    refine .bind (hs pre x xs s rfl List.mem_cons_self h) fun s' h' => ?_
    have := foldGo_ok xs (pre ++ [x]) h' fun pre y post s e hy => hs pre y post s rfl (List.mem_cons_of_mem _ hy)
    rwa [List.append_assoc] at this
/-- a walk with an invariant by what was seen -/
theorem fold_ok {f : α → τ → Option τ} (Inv : List α → τ → Prop) {xs : List α} {s : τ} (h0 : Inv [] s) (hs : ∀ pre x s, x ∈ xs → Inv pre s → Ok (f x s) (Inv (pre ++ [x]))) : Ok (foldGo f xs s) (Inv xs) := by
  have := foldGo_ok (Inv := Inv) xs [] h0 fun pre x post s _ hx h => hs pre x s hx h
  simpa using this
theorem foldG_ok {f : α → τ → Option τ} {Inv : Nat → τ → Prop} : ∀ (xs : List α) (j : Nat) {s : τ}, Inv j s → (∀ k x s, xs[k]? = some x → Inv (j + k) s → Ok (f x s) (Inv (j + k + 1))) → Ok (foldGo f xs s) (Inv (j + xs.length))
  | [], j, s, h, _ => .one h
  | x :: xs, j, s, h, hs => by
    refine .bind (hs 0 x s rfl h) fun s' h' => ?_
    have := foldG_ok xs (j + 1) h' fun k y s e hy => by
      have := hs (k + 1) y s (by simpa using e) (by rwa [show j + (k + 1) = j + 1 + k by omega])
      rwa [show j + (k + 1) = j + 1 + k by omega] at this
    rwa [show j + 1 + xs.length = j + (x :: xs).length by rw [List.length_cons]; omega] at this
/-- over a range: by the turn -/
theorem foldR_ok {f : Int → τ → Option τ} (Inv : Nat → τ → Prop) {n : Nat} {s : τ} (h0 : Inv 0 s) (hs : ∀ k s, k < n → Inv k s → Ok (f (k : Int) s) (Inv (k + 1))) : Ok (foldGo f (rl n) s) (Inv n) := by
  have := foldG_ok (Inv := Inv) (f := f) (rl n) 0 h0 fun k x s e h => by
    have hk : k < n := by
      have := (List.getElem?_eq_some_iff.mp e).1
      rwa [rl_len] at this
    rw [rl_get hk] at e
    rw [← Option.some.inj e]
    rw [Nat.zero_add] at h ⊢
    exact hs k s hk h
  rwa [Nat.zero_add, rl_len] at this
theorem mapGoE_ok {f : α → τ → Option (β × τ)} {Inv : Nat → τ → Prop} {P : Nat → β → Prop} : ∀ (xs : List α) (j : Nat) {s : τ}, Inv j s → (∀ k x s, xs[k]? = some x → Inv (j + k) s → Ok (f x s) fun r => P (j + k) r.1 ∧ Inv (j + k + 1) r.2) →
    Ok (mapGoE f xs s) fun r => r.1.length = xs.length ∧ (∀ k y, r.1[k]? = some y → P (j + k) y) ∧ Inv (j + xs.length) r.2
  | [], j, s, h, _ => .one ⟨rfl, fun k y e => by simp at e, h⟩
  | x :: xs, j, s, h, hs => by
    refine .bind (hs 0 x s rfl h) fun y hy => ?_
    refine .bind (mapGoE_ok (P := P) xs (j + 1) hy.2 fun k y s e hy => by
      have := hs (k + 1) y s (by simpa using e) (by rwa [show j + (k + 1) = j + 1 + k by omega])
      rwa [show j + (k + 1) = j + 1 + k by omega] at this) fun r hr => .one ⟨by rw [List.length_cons, List.length_cons, hr.1], fun k z e => ?_, ?_⟩
    · cases k with
      | zero =>
        have : y.1 = z := by simpa using e
        exact this ▸ hy.1
      | succ k =>
        have := hr.2.1 k z (by simpa using e)
        rwa [show j + 1 + k = j + (k + 1) by omega] at this
    · have := hr.2.2
      rwa [show j + 1 + xs.length = j + (x :: xs).length by rw [List.length_cons]; omega] at this
theorem mapRE_ok {f : Int → τ → Option (β × τ)} (Inv : Nat → τ → Prop) (P : Nat → β → Prop) {n : Nat} {s : τ} (hl : n ≤ 1000000) (h0 : Inv 0 s) (hs : ∀ k s, k < n → Inv k s → Ok (f (k : Int) s) fun r => P k r.1 ∧ Inv (k + 1) r.2) :
    Ok (mapME f (rl n) s) fun r => r.1.length = n ∧ (∀ k y, r.1[k]? = some y → P k y) ∧ Inv n r.2 := by
  unfold mapME
  rw [if_pos (show (rl n).length ≤ LIM by rw [rl_len]; exact hl)]
  have := mapGoE_ok (Inv := Inv) (P := P) (f := f) (rl n) 0 h0 fun k x s e h => by
    have hk : k < n := by
      have := (List.getElem?_eq_some_iff.mp e).1
      rwa [rl_len] at this
    rw [rl_get hk] at e
    rw [← Option.some.inj e]
    rw [Nat.zero_add] at h ⊢
    exact hs k s hk h
  simpa [rl_len] using this
/-- a loop that goes through -/
theorem loopGo_ok {f : α → τ → Option (Out τ ρ)} {Inv : Nat → τ → Prop} : ∀ (xs : List α) (j : Nat) {s : τ}, Inv j s → (∀ k x s, xs[k]? = some x → Inv (j + k) s → Ok (f x s) fun o => ∃ s', (o = .nx s' ∨ o = .ct s') ∧ Inv (j + k + 1) s') → Ok (loopGo f xs s) fun o => ∃ s', o = .nx s' ∧ Inv (j + xs.length) s'
  | [], j, s, h, _ => .one ⟨s, rfl, h⟩
  | x :: xs, j, s, h, hs => by
    refine .bind (hs 0 x s rfl h) fun o ho => ?_
    obtain ⟨s', ho, h'⟩ := ho
    have := loopGo_ok xs (j + 1) h' fun k y s e hy => by
      have := hs (k + 1) y s (by simpa using e) (by rwa [show j + (k + 1) = j + 1 + k by omega])
      rwa [show j + (k + 1) = j + 1 + k by omega] at this
    rw [show j + 1 + xs.length = j + (x :: xs).length by rw [List.length_cons]; omega] at this
    rcases ho with rfl | rfl
    · exact this
    · exact this
theorem loop_unit {f : α → Unit → Option (Out Unit ρ)} {xs : List α} (hs : ∀ x ∈ xs, f x () = some (.nx ())) : loopGo f xs () = some (.nx ()) := by
  induction xs with
  | nil => rfl
  | cons x xs ih =>
    show (f x ()).bind _ = _
    rw [hs x List.mem_cons_self]
    exact ih fun y hy => hs y (List.mem_cons_of_mem _ hy)
/-! ### tables -/
structure Sq (n : Nat) (t : List (List α)) : Prop where
  len : t.length = n
  row : ∀ r ∈ t, r.length = n
def gt (t : List (List Bool)) (x y : Nat) : Bool := ((t[x]?.getD [])[y]?).getD false
theorem Sq.rowk {n : Nat} {t : List (List α)} (h : Sq n t) {x : Nat} (hx : x < n) : ∃ r, t[x]? = some r ∧ r.length = n := by
  have hx' : x < t.length := by rw [h.len]; exact hx
  exact ⟨t[x], List.getElem?_eq_getElem hx', h.row _ (List.getElem_mem hx')⟩
theorem Sq.at2 {n : Nat} {t : List (List Bool)} (h : Sq n t) {x y : Nat} (hx : x < n) (hy : y < n) : ∃ r, atI t (x : Int) = some r ∧ atI r (y : Int) = some (gt t x y) := by
  obtain ⟨r, h1, h2⟩ := h.rowk hx
  refine ⟨r, atI_nat? h1, ?_⟩
  have hy' : y < r.length := by rw [h2]; exact hy
  rw [atI_nat hy']
  unfold gt
  rw [h1]
  show some r[y] = some ((r[y]?).getD false)
  rw [List.getElem?_eq_getElem hy']
  rfl
theorem Sq.set2 {n : Nat} {t : List (List Bool)} (h : Sq n t) {x y : Nat} (b : Bool) (hx : x < n) (hy : y < n) : ∃ t', setAt2 t (x : Int) (y : Int) b = some t' ∧ Sq n t' ∧ ∀ i j, gt t' i j = if i = x ∧ j = y then b else gt t i j := by
  obtain ⟨r, h1, h2⟩ := h.rowk hx
  have hx' : x < t.length := by rw [h.len]; exact hx
  have hy' : y < r.length := by rw [h2]; exact hy
  refine ⟨t.set x (r.set y b), ?_, ⟨by rw [List.length_set]; exact h.len, fun q hq => ?_⟩, fun i j => ?_⟩
  · unfold setAt2
    rw [atI_nat? h1, sb, setAt_nat hy', sb, setAt_nat hx']
  · rcases List.mem_or_eq_of_mem_set hq with z | rfl
    · exact h.row q z
    · rw [List.length_set]; exact h2
  · unfold gt
    by_cases e : i = x
    · subst e
      rw [List.getElem?_set_self hx', h1]
      show ((r.set y b)[j]?).getD false = _
      by_cases e2 : j = y
      · subst e2
        rw [List.getElem?_set_self hy', if_pos ⟨rfl, rfl⟩]
        rfl
      · rw [List.getElem?_set_ne (fun q => e2 q.symm), if_neg (fun q => e2 q.2)]
        rfl
    · rw [List.getElem?_set_ne (fun q => e q.symm), if_neg (fun q => e q.1)]
/-- a table made by its places -/
theorem tab_mk {n : Nat} (hn : n ≤ 1000000) {f : Int → Int → Option Bool} {g : Nat → Nat → Bool} (hf : ∀ x y : Nat, x < n → y < n → f (x : Int) (y : Int) = some (g x y)) :
    Ok (mapM (fun x => mapM (fun y => f x y) (rl n)) (rl n)) fun t => Sq n t ∧ ∀ x y, x < n → y < n → gt t x y = g x y := by
  refine (mapR_ok (P := fun x r => r.length = n ∧ ∀ (y : Nat) b, r[y]? = some b → b = g x y) hn fun x hx => mapR_ok (P := fun y b => b = g x y) hn fun y hy => .of_eq (hf x y hx hy) rfl).mono fun t ht => ?_
  refine ⟨⟨ht.1, fun r hr => ?_⟩, fun x y hx hy => ?_⟩
  · obtain ⟨k, hk⟩ := List.mem_iff_getElem?.mp hr
    exact (ht.2 k r hk).1
  · have hx' : x < t.length := by rw [ht.1]; exact hx
    have h1 := List.getElem?_eq_getElem hx'
    obtain ⟨h2, h3⟩ := ht.2 x _ h1
    have hy' : y < t[x].length := by rw [h2]; exact hy
    unfold gt
    rw [h1]
    show ((t[x])[y]?).getD false = _
    rw [List.getElem?_eq_getElem hy']
    exact h3 y _ (List.getElem?_eq_getElem hy')
theorem Sq.setRow {n : Nat} {t : List (List α)} (h : Sq n t) {x : Nat} {r : List α} (hx : x < n) (hr : r.length = n) : setAt t (x : Int) r = some (t.set x r) ∧ Sq n (t.set x r) :=
  ⟨setAt_nat (by rw [h.len]; exact hx), by rw [List.length_set]; exact h.len, fun q hq => by
    rcases List.mem_or_eq_of_mem_set hq with z | rfl
    · exact h.row q z
    · exact hr⟩
/-- a row of places below m -/
structure Rw (n m : Nat) (r : List Int) : Prop where
  len : r.length = n
  lo : ∀ x ∈ r, 0 ≤ x ∧ x < (m : Int)
def rwv (r : List Int) (x : Nat) : Nat := ((r[x]?).getD 0).toNat
theorem Rw.at {n m : Nat} {r : List Int} (h : Rw n m r) {x : Nat} (hx : x < n) : atI r (x : Int) = some (rwv r x : Int) ∧ rwv r x < m := by
  have hx' : x < r.length := by rw [h.len]; exact hx
  have h1 := List.getElem?_eq_getElem hx'
  have h2 := h.lo _ (List.getElem_mem hx')
  have e : (rwv r x : Int) = r[x] := by
    unfold rwv
    rw [h1]
    show ((r[x]).toNat : Int) = _
    omega
  refine ⟨by rw [atI_nat hx', e], by omega⟩
theorem Rw.of_get {n m : Nat} {r : List Int} (hl : r.length = n) (h : ∀ (k : Nat) (y : Int), r[k]? = some y → 0 ≤ y ∧ y < (m : Int)) : Rw n m r := ⟨hl, fun x hx => by
  obtain ⟨k, hk⟩ := List.mem_iff_getElem?.mp hx
  exact h k x hk⟩
theorem Rw.perm {n : Nat} {r : List Int} (h : r.Perm (rl n)) : Rw n n r := ⟨by rw [h.length_eq, rl_len], fun x hx => by
  obtain ⟨k, hk, rfl⟩ := rl_mem.mp (h.mem_iff.mp hx)
  omega⟩
theorem Sq.look {n : Nat} {t : List (List Bool)} (h : Sq n t) {x : Nat} (hx : x < n) : ∃ r, atI t (x : Int) = some r ∧ r.length = n ∧ ∀ y : Nat, y < n → atI r (y : Int) = some (gt t x y) := by
  obtain ⟨r, h1, h2⟩ := h.rowk hx
  refine ⟨r, atI_nat? h1, h2, fun y hy => ?_⟩
  obtain ⟨u, u1, u2⟩ := h.at2 hx hy
  rw [atI_nat? h1] at u1
  cases u1
  exact u2
end CC
set_option maxHeartbeats 4000000
namespace K76
open PySem PySem.Spec L2 CC
open PyProof.Rows hiding St
def topS (i : Nat) : Stmt := PySem.Challenge.pw_chaincore_k76_fibre.main.body.getD i (.Pass ⟨0, 0, 0, 0⟩)
abbrev s__law_reader : Stmt := topS 4
abbrev s__law_mixed : Stmt := topS 5
abbrev s__law_draw : Stmt := topS 6
abbrev s__law_below_by : Stmt := topS 13
abbrev s__law_great : Stmt := topS 14
abbrev s__law_shuffled : Stmt := topS 8
abbrev s__law_closed : Stmt := topS 9
abbrev s__law_drawn : Stmt := topS 11
abbrev s__law_over : Stmt := topS 12
abbrev s__law_case : Stmt := topS 15
abbrev s__law_told : Stmt := topS 10
abbrev s_at_most_table : Stmt := topS 1
abbrev s_fibre : Stmt := topS 2
abbrev s__law_same : Stmt := topS 7
abbrev s_law : Stmt := topS 16
theorem sc__law_reader : FnScope ["script"] ["script"] (defScope s__law_reader) := ⟨rfl, rfl, rfl, by decide +kernel, rfl, by decide +kernel, by decide +kernel⟩
theorem sc__law_mixed : FnScope ["number", "turn", "many", "first", "second"] ["number", "turn", "many"] (defScope s__law_mixed) := ⟨rfl, rfl, rfl, by decide +kernel, rfl, by decide +kernel, by decide +kernel⟩
theorem sc__law_draw : FnScope ["reader", "many", "digit", "cell"] ["reader", "many"] (defScope s__law_draw) := ⟨rfl, rfl, rfl, by decide +kernel, rfl, by decide +kernel, by decide +kernel⟩
theorem sc__law_below_by : FnScope ["standing", "one", "two"] ["standing"] (defScope s__law_below_by) := ⟨rfl, rfl, rfl, by decide +kernel, rfl, by decide +kernel, by decide +kernel⟩
theorem sc__law_great : FnScope ["reader", "n", "m", "a", "second", "rising", "b", "standing", "row", "q", "x", "y"] ["reader"] (defScope s__law_great) := ⟨rfl, rfl, rfl, by decide +kernel, rfl, by decide +kernel, by decide +kernel⟩
theorem sc__law_shuffled : FnScope ["reader", "n", "left", "found", "k"] ["reader", "n"] (defScope s__law_shuffled) := ⟨rfl, rfl, rfl, by decide +kernel, rfl, by decide +kernel, by decide +kernel⟩
theorem sc__law_closed : FnScope ["n", "links", "rel", "link", "z", "x", "y"] ["n", "links"] (defScope s__law_closed) := ⟨rfl, rfl, rfl, by decide +kernel, rfl, by decide +kernel, by decide +kernel⟩
theorem sc__law_drawn : FnScope ["reader", "n", "share", "places", "links", "k", "j"] ["reader", "n", "share"] (defScope s__law_drawn) := ⟨rfl, rfl, rfl, by decide +kernel, rfl, by decide +kernel, by decide +kernel⟩
theorem sc__law_over : FnScope ["reader", "second", "n", "row", "places", "share", "links", "k", "j", "x", "y"] ["reader", "second", "n"] (defScope s__law_over) := ⟨rfl, rfl, rfl, by decide +kernel, rfl, by decide +kernel, by decide +kernel⟩
theorem sc__law_case : FnScope ["reader", "second", "made"] ["reader"] (defScope s__law_case) := ⟨rfl, rfl, rfl, by decide +kernel, rfl, by decide +kernel, by decide +kernel⟩
theorem sc__law_told : FnScope ["rel", "found", "x", "y"] ["rel"] (defScope s__law_told) := ⟨rfl, rfl, rfl, by decide +kernel, rfl, by decide +kernel, by decide +kernel⟩
theorem sc_at_most_table : FnScope ["order", "table", "n", "pairs", "x", "y"] ["order"] (defScope s_at_most_table) := ⟨rfl, rfl, rfl, by decide +kernel, rfl, by decide +kernel, by decide +kernel⟩
theorem sc_fibre : FnScope ["first", "second", "row", "q", "side", "table", "x"] ["first", "second", "row", "q", "side"] (defScope s_fibre) := ⟨rfl, rfl, rfl, by decide +kernel, rfl, by decide +kernel, by decide +kernel⟩
theorem sc__law_same : FnScope ["actual", "due", "k"] ["actual", "due"] (defScope s__law_same) := ⟨rfl, rfl, rfl, by decide +kernel, rfl, by decide +kernel, by decide +kernel⟩
theorem sc_law : FnScope ["script", "reader", "case", "second", "row", "m", "told", "points", "q", "low", "high", "k", "x"] ["script"] (defScope s_law) := ⟨rfl, rfl, rfl, by decide +kernel, rfl, by decide +kernel, by decide +kernel⟩
def h0O (s : ((List Int) × Int × Int × Int × Int × Int × Int)) : OP := hetO [sh ((lstS intS) s.1), sh (intS s.2.1), sh (intS s.2.2.1), sh (intS s.2.2.2.1), sh (intS s.2.2.2.2.1), sh (intS s.2.2.2.2.2.1), sh (intS s.2.2.2.2.2.2)]
def h1O (s : ((List (List Bool)) × (List (List Bool)) × (List Int))) : OP := hetO [sh ((lstS (lstS boolS)) s.1), sh ((lstS (lstS boolS)) s.2.1), sh ((tupS intS) s.2.2)]
def h2O (s : ((List (List Bool)) × (List Int))) : OP := hetO [sh ((lstS (lstS boolS)) s.1), sh ((tupS intS) s.2)]
/-- what the top has left -/
structure Tx (K : PySem.W.Frag) (mg : Str → Option Value) where
  a__law_reader : Addr
  d__law_reader : FuncData
  F__law_reader : FnP K "_law_reader" s__law_reader a__law_reader d__law_reader
  b__law_reader : Binds K d__law_reader ["script"] []
  g__law_reader : mg "_law_reader" = some (.ref a__law_reader)
  a__law_mixed : Addr
  d__law_mixed : FuncData
  F__law_mixed : FnP K "_law_mixed" s__law_mixed a__law_mixed d__law_mixed
  b__law_mixed : Binds K d__law_mixed ["number", "turn", "many"] []
  g__law_mixed : mg "_law_mixed" = some (.ref a__law_mixed)
  a__law_draw : Addr
  d__law_draw : FuncData
  F__law_draw : FnP K "_law_draw" s__law_draw a__law_draw d__law_draw
  b__law_draw : Binds K d__law_draw ["reader", "many"] []
  g__law_draw : mg "_law_draw" = some (.ref a__law_draw)
  a__law_below_by : Addr
  d__law_below_by : FuncData
  F__law_below_by : FnP K "_law_below_by" s__law_below_by a__law_below_by d__law_below_by
  b__law_below_by : Binds K d__law_below_by ["standing"] []
  g__law_below_by : mg "_law_below_by" = some (.ref a__law_below_by)
  a__law_great : Addr
  d__law_great : FuncData
  F__law_great : FnP K "_law_great" s__law_great a__law_great d__law_great
  b__law_great : Binds K d__law_great ["reader"] []
  g__law_great : mg "_law_great" = some (.ref a__law_great)
  a__law_shuffled : Addr
  d__law_shuffled : FuncData
  F__law_shuffled : FnP K "_law_shuffled" s__law_shuffled a__law_shuffled d__law_shuffled
  b__law_shuffled : Binds K d__law_shuffled ["reader", "n"] []
  g__law_shuffled : mg "_law_shuffled" = some (.ref a__law_shuffled)
  a__law_closed : Addr
  d__law_closed : FuncData
  F__law_closed : FnP K "_law_closed" s__law_closed a__law_closed d__law_closed
  b__law_closed : Binds K d__law_closed ["n", "links"] []
  g__law_closed : mg "_law_closed" = some (.ref a__law_closed)
  a__law_drawn : Addr
  d__law_drawn : FuncData
  F__law_drawn : FnP K "_law_drawn" s__law_drawn a__law_drawn d__law_drawn
  b__law_drawn : Binds K d__law_drawn ["reader", "n", "share"] []
  g__law_drawn : mg "_law_drawn" = some (.ref a__law_drawn)
  a__law_over : Addr
  d__law_over : FuncData
  F__law_over : FnP K "_law_over" s__law_over a__law_over d__law_over
  b__law_over : Binds K d__law_over ["reader", "second", "n"] []
  g__law_over : mg "_law_over" = some (.ref a__law_over)
  a__law_case : Addr
  d__law_case : FuncData
  F__law_case : FnP K "_law_case" s__law_case a__law_case d__law_case
  b__law_case : Binds K d__law_case ["reader"] []
  g__law_case : mg "_law_case" = some (.ref a__law_case)
  a__law_told : Addr
  d__law_told : FuncData
  F__law_told : FnP K "_law_told" s__law_told a__law_told d__law_told
  b__law_told : Binds K d__law_told ["rel"] []
  g__law_told : mg "_law_told" = some (.ref a__law_told)
  a_at_most_table : Addr
  d_at_most_table : FuncData
  F_at_most_table : FnP K "at_most_table" s_at_most_table a_at_most_table d_at_most_table
  b_at_most_table : Binds K d_at_most_table ["order"] []
  g_at_most_table : mg "at_most_table" = some (.ref a_at_most_table)
  a_fibre : Addr
  d_fibre : FuncData
  F_fibre : FunD K "fibre" "fibre" (defArgs s_fibre) (defBody s_fibre) (defScope s_fibre) [] [("side", .str "below")] a_fibre d_fibre
  w_fibre : List Value
  v_fibre : Vals [.str "below"] w_fibre
  b_fibre : Binds K d_fibre ["first", "second", "row", "q", "side"] w_fibre
  k4_fibre : KBn K d_fibre ["first", "second", "row", "q", "side"] 4 ["side"] (fun us ws => us ++ ws) (fun vs zs => vs ++ zs)
  k0_fibre : KBn K d_fibre ["first", "second", "row", "q", "side"] 0 ["first", "second", "row", "q", "side"] (fun us ws => us ++ ws) (fun vs zs => vs ++ zs)
  g_fibre : mg "fibre" = some (.ref a_fibre)
  a__law_same : Addr
  d__law_same : FuncData
  F__law_same : FnP K "_law_same" s__law_same a__law_same d__law_same
  b__law_same : Binds K d__law_same ["actual", "due"] []
  g__law_same : mg "_law_same" = some (.ref a__law_same)
  a_law : Addr
  d_law : FuncData
  F_law : FnP K "law" s_law a_law d_law
  b_law : Binds K d_law ["script"] []
  g_law : mg "law" = some (.ref a_law)
  m_list : mg "list" = none
  m_int : mg "int" = none
  m_sum : mg "sum" = none
  m_len : mg "len" = none
  m_abs : mg "abs" = none
  m_range : mg "range" = none
  m_sorted : mg "sorted" = none
  m_tuple : mg "tuple" = none
  m_isinstance : mg "isinstance" = none
  m_str : mg "str" = none
  m_all : mg "all" = none
  m_bool : mg "bool" = none
section
variable {P : Program} {w : World} {K : PySem.W.Frag} {mg : Str → Option Value} {base : Heap}
def M_law_reader (a : (List Int) × Unit) : Option ((List Int) × Int × Int × Int × Int × Int × Int) :=
 ((((((((modO a.1.sum (2147483587 : Int)).bind fun x1 => some (x1, ())).bind fun y2 => some ((0 : Int), y2)).bind fun y3 => some ((0 : Int), y3)).bind fun y4 => some ((0 : Int), y4)).bind fun y5 => some ((0 : Int), y5)).bind fun y6 => some ((0 : Int), y6)).bind fun y7 => some (a.1, y7)).bind fun z8 => some (z8.1, z8.2.1, z8.2.2.1, z8.2.2.2.1, z8.2.2.2.2.1, z8.2.2.2.2.2.1, z8.2.2.2.2.2.2.1)
theorem ok_law_reader (T : Tx K mg) : FnOk P w K mg base CX0 1 T.a__law_reader T.d__law_reader ["script"] (spP (fun a : (List Int) × Unit => [(scrS K) a.1]) M_law_reader h0O) :=
 fnd_pure (Δ := nonC 1) T.F__law_reader sc__law_reader (fun _ => rfl) (by decide) fun a => JB.cong (
 jb_ret (weak_none _) (jn_hl (T := h0O) (g := fun z => (z.1, z.2.1, z.2.2.1, z.2.2.2.1, z.2.2.2.2.1, z.2.2.2.2.2.1, z.2.2.2.2.2.2.1)) (ja_cons (JN.frz (fz_lst (fun _ => fz_sh)) (list_scr T.m_list (jn_var (E := (scrS K)) (a := a.1) 0))) (ja_cons jn_int (ja_cons jn_int (ja_cons jn_int (ja_cons jn_int (ja_cons jn_int (ja_cons (jn_bin oMod ov_mod (int_int T.m_int (sum_scr T.m_sum (jn_var (E := (scrS K)) (a := a.1) 0))) jn_int) ja_nil))))))))) (by unfold M_law_reader; first | (dsimp only [CC.sb]; done) | (dsimp only [CC.sb]; rfl) | rfl)
def M_law_mixed (a : Int × (Int × (Int × Unit))) : Option Int :=
 (((((modO a.1 (2147483587 : Int)).bind fun x30 => (mulO a.2.1 (7368787 : Int)).bind fun x31 => some (x30 + x31)).bind fun x32 => mulO x32 (48271 : Int)).bind fun x33 => some x33).bind fun x34 => modO x34 (2147483647 : Int)).bind fun a35 => (((((mulO a35 (69621 : Int)).bind fun x37 => ((mulO a.2.1 a.2.1).bind fun x36 => mulO x36 (3571 : Int)).bind fun x38 => some (x37 + x38)).bind fun x39 => some (x39 + (11 : Int))).bind fun x40 => some x40).bind fun x41 => modO x41 (2147483629 : Int)).bind fun a42 => ((divO a42 (64 : Int)).bind fun x43 => some x43).bind fun x44 => modO x44 a.2.2.1
theorem ok_law_mixed (T : Tx K mg) : FnOk P w K mg base CX0 1 T.a__law_mixed T.d__law_mixed ["number", "turn", "many"] (spP (fun a : Int × (Int × (Int × Unit)) => [intS a.1, intS a.2.1, intS a.2.2.1]) M_law_mixed (fun x => sh (intS x))) :=
 fnd_pure (Δ := nonC 5) T.F__law_mixed sc__law_mixed (fun _ => rfl) (by decide) fun a => JB.cong (
 jb_cons (js_set 3 sc__law_mixed.nd (jn_bin oMod ov_mod (int_int T.m_int (jn_bin oMul ov_mul (jn_bin oAdd ov_add (jn_bin oMod ov_mod (int_int T.m_int (jn_var (E := intS) (a := a.1) 0)) jn_int) (jn_bin oMul ov_mul (jn_var (E := intS) (a := a.2.1) 1) jn_int)) jn_int)) jn_int)) fun a35 =>
 jb_cons (js_set 4 sc__law_mixed.nd (jn_bin oMod ov_mod (int_int T.m_int (jn_bin oAdd ov_add (jn_bin oAdd ov_add (jn_bin oMul ov_mul (jn_var (E := intS) (a := a35) 3) jn_int) (jn_bin oMul ov_mul (jn_bin oMul ov_mul (jn_var (E := intS) (a := a.2.1) 1) (jn_var (E := intS) (a := a.2.1) 1)) jn_int)) jn_int)) jn_int)) fun a42 =>
 jb_ret (weak_none _) (jn_bin oMod ov_mod (int_int T.m_int (jn_bin oDiv ov_div (jn_var (E := intS) (a := a42) 4) jn_int)) (jn_var (E := intS) (a := a.2.2.1) 2))) (by unfold M_law_mixed; first | (dsimp only [CC.sb]; done) | (dsimp only [CC.sb]; rfl) | rfl)
def M_law_draw (a : Int × Unit) (s : ((List Int) × Int × Int × Int × Int × Int × Int)) : Option (Int × ((List Int) × Int × Int × Int × Int × Int × Int)) :=
 ((bif decide (s.2.2.2.1 = (0 : Int)) then some (decide (s.2.1 < (s.1.length : Int))) else some false).bind fun x28 => bif x28 then ((atI s.1 s.2.1).bind fun x21 => some (absI x21)).bind fun a22 => (modO a22 (2 : Int)).bind fun a24 => (divO a22 ((2 : Int) - a24)).bind fun a25 => ((mulO (40 : Int) a24).bind fun x26 => some ((60 : Int) - x26)).bind fun a27 => some (s.1, s.2.1 + (1 : Int), a25, a27, s.2.2.2.2.1 + (1 : Int), a24, s.2.2.2.2.2.2) else some (s.1, s.2.1, s.2.2.1, s.2.2.2.1, s.2.2.2.2.1 + (1 : Int), s.2.2.2.2.2.1, s.2.2.2.2.2.2)).bind fun a29 => bif decide (a29.2.2.2.1 = (0 : Int)) then (M_law_mixed (a29.2.2.2.2.2.2, (a29.2.2.2.2.1, (a.1, ())))).bind fun x45 => some (x45, a29) else bif decide (a29.2.2.2.2.2.1 = (1 : Int)) then (M_law_mixed (a29.2.2.1, (a29.2.2.2.2.1, (a.1, ())))).bind fun x47 => some (x47, (a29.1, a29.2.1, a29.2.2.1, a29.2.2.2.1 - (1 : Int), a29.2.2.2.2.1, a29.2.2.2.2.2.1, a29.2.2.2.2.2.2)) else (modO a29.2.2.1 a.1).bind fun a48 => (divO a29.2.2.1 a.1).bind fun a49 => (mulO (a29.2.2.2.1 - (1 : Int)) (CC.b2i (decide ((0 : Int) < a49)))).bind fun a50 => some (a48, (a29.1, a29.2.1, a49, a50, a29.2.2.2.2.1, a29.2.2.2.2.2.1, a29.2.2.2.2.2.2))
theorem ok_law_draw (T : Tx K mg) : FnOk P w K mg base CX0 2 T.a__law_draw T.d__law_draw ["reader", "many"] (spS h0O (fun a : Int × Unit => [intS a.1]) M_law_draw (fun x => sh (intS x))) :=
 fnd_state T.F__law_draw sc__law_draw (fun _ => rfl) (by decide) fun a s => JB.cong (
 jb_cons (js_setH (E := intS) 0 4 (jn_bin oAdd ov_add (jn_of (jr_ixO (R := (fun x => sh (intS x))) (g := fun z => z.2.2.2.2.1) 4 (jr_var (R := h0O) (a := s) 0))) jn_int)) fun a12 =>
 jb_cons (js_if (jt_w (jw_and (jt_cmp oEq ov_eqI (jn_of (jr_ixO (R := (fun x => sh (intS x))) (g := fun z => z.2.2.2.1) 3 (jr_var (R := h0O) (a := (s.1, s.2.1, s.2.2.1, s.2.2.2.1, a12, s.2.2.2.2.2.1, s.2.2.2.2.2.2)) 0))) jn_int) (jw_and1 (jt_cmp oLt ov_lt (jn_of (jr_ixO (R := (fun x => sh (intS x))) (g := fun z => z.2.1) 1 (jr_var (R := h0O) (a := (s.1, s.2.1, s.2.2.1, s.2.2.2.1, a12, s.2.2.2.2.2.1, s.2.2.2.2.2.2)) 0))) (len_lst T.m_len (jn_of (jr_ixO (R := (fun x => sh ((lstS intS) x))) (g := fun z => z.1) 0 (jr_var (R := h0O) (a := (s.1, s.2.1, s.2.2.1, s.2.2.2.1, a12, s.2.2.2.2.2.1, s.2.2.2.2.2.2)) 0)))))))) (D := fun v => Kd.nx ((fun v20 : ((List Int) × Int × Int × Int × Int × Int × Int) => [some (h0O v20), some (sh (intS a.1)), none, none]) v)) (jb_cons (js_set 3 sc__law_draw.nd (abs_int T.m_abs (jn_of (jr_ix oIxL iv_lst (jr_ixO (R := (fun x => sh ((lstS intS) x))) (g := fun z => z.1) 0 (jr_var (R := h0O) (a := (s.1, s.2.1, s.2.2.1, s.2.2.2.1, a12, s.2.2.2.2.2.1, s.2.2.2.2.2.2)) 0)) (jn_of (jr_ixO (R := (fun x => sh (intS x))) (g := fun z => z.2.1) 1 (jr_var (R := h0O) (a := (s.1, s.2.1, s.2.2.1, s.2.2.2.1, a12, s.2.2.2.2.2.1, s.2.2.2.2.2.2)) 0))))))) fun a22 =>
 jb_cons (js_setH (E := intS) 0 1 (jn_bin oAdd ov_add (jn_of (jr_ixO (R := (fun x => sh (intS x))) (g := fun z => z.2.1) 1 (jr_var (R := h0O) (a := (s.1, s.2.1, s.2.2.1, s.2.2.2.1, a12, s.2.2.2.2.2.1, s.2.2.2.2.2.2)) 0))) jn_int)) fun a23 =>
 jb_cons (js_setH (E := intS) 0 5 (jn_bin oMod ov_mod (int_int T.m_int (jn_var (E := intS) (a := a22) 3)) jn_int)) fun a24 =>
 jb_cons (js_setH (E := intS) 0 2 (jn_bin oDiv ov_div (jn_var (E := intS) (a := a22) 3) (jn_bin oSub ov_sub jn_int (jn_of (jr_ixO (R := (fun x => sh (intS x))) (g := fun z => z.2.2.2.2.2.1) 5 (jr_var (R := h0O) (a := (s.1, a23, s.2.2.1, s.2.2.2.1, a12, a24, s.2.2.2.2.2.2)) 0)))))) fun a25 =>
 jb_cons (js_setH (E := intS) 0 3 (jn_bin oSub ov_sub jn_int (jn_bin oMul ov_mul jn_int (jn_of (jr_ixO (R := (fun x => sh (intS x))) (g := fun z => z.2.2.2.2.2.1) 5 (jr_var (R := h0O) (a := (s.1, a23, a25, s.2.2.2.1, a12, a24, s.2.2.2.2.2.2)) 0)))))) fun a27 =>
 jb_nil (x := (s.1, a23, a25, a27, a12, a24, s.2.2.2.2.2.2)) rfl (weak_mask [true, true, false, false] _)) (jb_nil (x := (s.1, s.2.1, s.2.2.1, s.2.2.2.1, a12, s.2.2.2.2.2.1, s.2.2.2.2.2.2)) rfl (weak_mask [true, true, false, false] _))) fun a29 =>
 jb_ifr (jt_cmp oEq ov_eqI (jn_of (jr_ixO (R := (fun x => sh (intS x))) (g := fun z => z.2.2.2.1) 3 (jr_var (R := h0O) (a := a29) 0))) jn_int) (jb_retS (R := (fun x => sh (intS x))) (Δ := fun s => some (h0O s) :: nonC 3) (s := a29) (weak_mask [true, false, false, false] _) (jn_call (ok_law_mixed T) T.g__law_mixed T.F__law_mixed.kp T.b__law_mixed (Nat.le_of_ble_eq_true rfl) (ja_cons (jn_of (jr_ixO (R := (fun x => sh (intS x))) (g := fun z => z.2.2.2.2.2.2) 6 (jr_var (R := h0O) (a := a29) 0))) (ja_cons (jn_of (jr_ixO (R := (fun x => sh (intS x))) (g := fun z => z.2.2.2.2.1) 4 (jr_var (R := h0O) (a := a29) 0))) (ja_cons (jn_var (E := intS) (a := a.1) 1) ja_nil))))) (fun _ => trivial)
 (jb_cons (js_setH (E := intS) 0 3 (jn_bin oSub ov_sub (jn_of (jr_ixO (R := (fun x => sh (intS x))) (g := fun z => z.2.2.2.1) 3 (jr_var (R := h0O) (a := a29) 0))) jn_int)) fun a46 =>
 jb_ifr (jt_cmp oEq ov_eqI (jn_of (jr_ixO (R := (fun x => sh (intS x))) (g := fun z => z.2.2.2.2.2.1) 5 (jr_var (R := h0O) (a := (a29.1, a29.2.1, a29.2.2.1, a46, a29.2.2.2.2.1, a29.2.2.2.2.2.1, a29.2.2.2.2.2.2)) 0))) jn_int) (jb_retS (R := (fun x => sh (intS x))) (Δ := fun s => some (h0O s) :: nonC 3) (s := (a29.1, a29.2.1, a29.2.2.1, a46, a29.2.2.2.2.1, a29.2.2.2.2.2.1, a29.2.2.2.2.2.2)) (weak_mask [true, false, false, false] _) (jn_call (ok_law_mixed T) T.g__law_mixed T.F__law_mixed.kp T.b__law_mixed (Nat.le_of_ble_eq_true rfl) (ja_cons (jn_of (jr_ixO (R := (fun x => sh (intS x))) (g := fun z => z.2.2.1) 2 (jr_var (R := h0O) (a := (a29.1, a29.2.1, a29.2.2.1, a46, a29.2.2.2.2.1, a29.2.2.2.2.2.1, a29.2.2.2.2.2.2)) 0))) (ja_cons (jn_of (jr_ixO (R := (fun x => sh (intS x))) (g := fun z => z.2.2.2.2.1) 4 (jr_var (R := h0O) (a := (a29.1, a29.2.1, a29.2.2.1, a46, a29.2.2.2.2.1, a29.2.2.2.2.2.1, a29.2.2.2.2.2.2)) 0))) (ja_cons (jn_var (E := intS) (a := a.1) 1) ja_nil))))) (fun _ => trivial)
 (jb_cons (js_set 2 sc__law_draw.nd (jn_bin oMod ov_mod (int_int T.m_int (jn_of (jr_ixO (R := (fun x => sh (intS x))) (g := fun z => z.2.2.1) 2 (jr_var (R := h0O) (a := (a29.1, a29.2.1, a29.2.2.1, a46, a29.2.2.2.2.1, a29.2.2.2.2.2.1, a29.2.2.2.2.2.2)) 0)))) (jn_var (E := intS) (a := a.1) 1))) fun a48 =>
 jb_cons (js_setH (E := intS) 0 2 (jn_bin oDiv ov_div (jn_of (jr_ixO (R := (fun x => sh (intS x))) (g := fun z => z.2.2.1) 2 (jr_var (R := h0O) (a := (a29.1, a29.2.1, a29.2.2.1, a46, a29.2.2.2.2.1, a29.2.2.2.2.2.1, a29.2.2.2.2.2.2)) 0))) (jn_var (E := intS) (a := a.1) 1))) fun a49 =>
 jb_cons (js_setH (E := intS) 0 3 (jn_bin oMul ov_mul (jn_of (jr_ixO (R := (fun x => sh (intS x))) (g := fun z => z.2.2.2.1) 3 (jr_var (R := h0O) (a := (a29.1, a29.2.1, a49, a46, a29.2.2.2.2.1, a29.2.2.2.2.2.1, a29.2.2.2.2.2.2)) 0))) (int_bool T.m_int (jn_cmp oGt ov_gt (jn_of (jr_ixO (R := (fun x => sh (intS x))) (g := fun z => z.2.2.1) 2 (jr_var (R := h0O) (a := (a29.1, a29.2.1, a49, a46, a29.2.2.2.2.1, a29.2.2.2.2.2.1, a29.2.2.2.2.2.2)) 0))) jn_int)))) fun a50 =>
 jb_retS (R := (fun x => sh (intS x))) (Δ := fun s => some (h0O s) :: nonC 3) (s := (a29.1, a29.2.1, a49, a50, a29.2.2.2.2.1, a29.2.2.2.2.2.1, a29.2.2.2.2.2.2)) (weak_mask [true, false, false, false] _) (jn_var (E := intS) (a := a48) 2)))) (by unfold M_law_draw; first | (dsimp only [CC.sb]; done) | (dsimp only [CC.sb]; rfl) | rfl)
def M_law_below_by (a : (List Int) × Unit) : Option (List (List Bool)) :=
 mapM (fun x74 => mapM (fun x75 => some (decide (x74 < x75))) a.1) a.1
theorem ok_law_below_by (T : Tx K mg) : FnOk P w K mg base CX0 1 T.a__law_below_by T.d__law_below_by ["standing"] (spP (fun a : (List Int) × Unit => [(lstS intS) a.1]) M_law_below_by (lstO (lstO (fun x => sh (boolS x))))) :=
 fnd_pure (Δ := nonC 3) T.F__law_below_by sc__law_below_by (fun _ => rfl) (by decide) fun a => JB.cong (
 jb_ret (weak_none _) (jn_lc sc__law_below_by.nd (jc_map [("one", 1)] (jic_of (ji_lst (jn_var (E := (lstS intS)) (a := a.1) 0))) (show blkC ["standing", "one", "two"] (defScope s__law_below_by) _ [("one", 1)] = true by decide +kernel) (jg_name (E := intS) 1 sc__law_below_by.nd) (by decide) (all_lt rfl) fun x74 => (jn_lc sc__law_below_by.nd (jc_map [("two", 2)] (jic_of (ji_lst (jn_var (E := (lstS intS)) (a := a.1) 0))) (show blkC ["standing", "one", "two"] (relS _ (defScope s__law_below_by)) _ [("two", 2)] = true by decide +kernel) (jg_name (E := intS) 2 sc__law_below_by.nd) (by decide) (all_lt rfl) fun x75 => (jn_cmp oLt ov_lt (jn_var (E := intS) (a := x74) 1) (jn_var (E := intS) (a := x75) 2))))))) (by unfold M_law_below_by; first | (dsimp only [CC.sb]; done) | (dsimp only [CC.sb]; rfl) | rfl)
def M_law_great (a : Unit) (s : ((List Int) × Int × Int × Int × Int × Int × Int)) : Option (((List (List Bool)) × (List (List Bool)) × (List Int)) × ((List Int) × Int × Int × Int × Int × Int × Int)) :=
 (((M_law_draw ((64 : Int), ()) s).bind fun r58 => some (r58.1, r58.2)).bind fun q59 => some ((1 : Int) + q59.1, q59.2)).bind fun a60 => (((M_law_draw ((64 : Int), ()) a60.2).bind fun r63 => some (r63.1, r63.2)).bind fun q64 => some ((1 : Int) + q64.1, q64.2)).bind fun a65 => ((M_law_draw ((64 : Int), ()) a65.2).bind fun r67 => some (r67.1, r67.2)).bind fun a68 => ((((rng 0 a65.1).bind fun x73 => mapM (fun x69 => (((mulO x69 (5 : Int)).bind fun x70 => some (x70 + a68.1)).bind fun x71 => some x71).bind fun x72 => modO x72 (67 : Int)) x73).bind fun x76 => some (x76, ())).bind fun z77 => M_law_below_by z77).bind fun a78 => (((rng 0 a65.1).bind fun x85 => mapM (fun x79 => (((((mulO x79 (5 : Int)).bind fun x80 => some (x80 + a68.1)).bind fun x81 => some x81).bind fun x82 => modO x82 (67 : Int)).bind fun x83 => some (x83, (x79, ()))).bind fun z84 => some (z84.1, z84.2.1)) x85).bind fun x86 => some (sortP x86)).bind fun a87 => (((M_law_draw ((2 : Int), ()) a68.2).bind fun r107 => some (r107.1, r107.2)).bind fun q109 => some (decide (q109.1 = (0 : Int)), q109.2)).bind fun q145 => bif q145.1 then ((rng 0 a60.1).bind fun x115 => mapM (fun x111 => (((mulO x111 (7 : Int)).bind fun x112 => some (x112 + a68.1)).bind fun x113 => some x113).bind fun x114 => modO x114 (71 : Int)) x115).bind fun a116 => ((rng 0 a60.1).bind fun x122 => mapM (fun x117 => ((((atI a116 x117).bind fun x118 => mulO x118 a65.1).bind fun x119 => divO x119 (71 : Int)).bind fun x120 => atI a87 x120).bind fun x121 => some x121.2) x122).bind fun a123 => (((M_law_below_by (a116, ())).bind fun x124 => some (x124, (a78, (a123, ())))).bind fun z125 => some (z125.1, z125.2.1, z125.2.2.1)).bind fun x126 => some (x126, q145.2) else ((M_law_draw ((64 : Int), ()) q145.2).bind fun r128 => some (r128.1, r128.2)).bind fun a129 => ((((rng 0 a60.1).bind fun x133 => mapM (fun x130 => (rng 0 a60.1).bind fun x132 => mapM (fun x131 => some false) x132) x133).bind fun x139 => (((((rng 0 a60.1).bind fun x138 => mapM (fun x134 => (((mulO x134 x134).bind fun x135 => some (x135 + a129.1)).bind fun x136 => some x136).bind fun x137 => modO x137 a65.1) x138).bind fun x => some x).bind fun x140 => some (x140, ())).bind fun y141 => some (a78, y141)).bind fun y142 => some (x139, y142)).bind fun z143 => some (z143.1, z143.2.1, z143.2.2.1)).bind fun x144 => some (x144, a129.2)
theorem ok_law_great (T : Tx K mg) : FnOk P w K mg base CX0 3 T.a__law_great T.d__law_great ["reader"] (spS h0O (fun a : Unit => []) M_law_great h1O) :=
 fnd_state T.F__law_great sc__law_great (fun _ => rfl) (by decide) fun a s => JB.cong (
 jb_cons (js_setE (Γ := fun s56 : ((List Int) × Int × Int × Int × Int × Int × Int) => [some (h0O s56), none, none, none, none, none, none, none, none, none, none, none]) (s := s) 1 sc__law_great.nd (je_bin oAdd ov_add (je_of jn_int) fun s57 => (je_callS (O := h0O) 0 (fun s => s) (fun s u => u) (ok_law_draw T) T.g__law_draw T.F__law_draw.kp T.b__law_draw (Nat.le_of_ble_eq_true rfl) (jea_of (ja_cons jn_int ja_nil))))) fun a60 =>
 jb_cons (js_setE (Γ := fun s61 : ((List Int) × Int × Int × Int × Int × Int × Int) => [some (h0O s61), some (sh (intS a60.1)), none, none, none, none, none, none, none, none, none, none]) (s := a60.2) 2 sc__law_great.nd (je_bin oAdd ov_add (je_of jn_int) fun s62 => (je_callS (O := h0O) 0 (fun s => s) (fun s u => u) (ok_law_draw T) T.g__law_draw T.F__law_draw.kp T.b__law_draw (Nat.le_of_ble_eq_true rfl) (jea_of (ja_cons jn_int ja_nil))))) fun a65 =>
 jb_cons (js_setE (Γ := fun s66 : ((List Int) × Int × Int × Int × Int × Int × Int) => [some (h0O s66), some (sh (intS a60.1)), some (sh (intS a65.1)), none, none, none, none, none, none, none, none, none]) (s := a65.2) 3 sc__law_great.nd (je_callS (O := h0O) 0 (fun s => s) (fun s u => u) (ok_law_draw T) T.g__law_draw T.F__law_draw.kp T.b__law_draw (Nat.le_of_ble_eq_true rfl) (jea_of (ja_cons jn_int ja_nil)))) fun a68 =>
 jb_cons (js_set 4 sc__law_great.nd (jn_call (ok_law_below_by T) T.g__law_below_by T.F__law_below_by.kp T.b__law_below_by (Nat.le_of_ble_eq_true rfl) (ja_cons (JN.frz (fz_lst (fun _ => fz_sh)) (jn_lc sc__law_great.nd (jc_map [("q", 9)] (jic_of (ji_rng1 T.m_range (jn_var (E := intS) (a := a65.1) 2))) (show blkC ["reader", "n", "m", "a", "second", "rising", "b", "standing", "row", "q", "x", "y"] (defScope s__law_great) _ [("q", 9)] = true by decide +kernel) (jg_name (E := intS) 9 sc__law_great.nd) (by decide) (all_lt rfl) fun x69 => (jn_bin oMod ov_mod (int_int T.m_int (jn_bin oAdd ov_add (jn_bin oMul ov_mul (jn_var (E := intS) (a := x69) 9) jn_int) (jn_var (E := intS) (a := a68.1) 3))) jn_int)))) ja_nil))) fun a78 =>
 jb_cons (js_set 5 sc__law_great.nd (sorted_prs T.m_sorted (JN.frz (fz_lst (fun _ => fz_sh)) (jn_lc sc__law_great.nd (jc_map [("q", 9)] (jic_of (ji_rng1 T.m_range (jn_var (E := intS) (a := a65.1) 2))) (show blkC ["reader", "n", "m", "a", "second", "rising", "b", "standing", "row", "q", "x", "y"] (defScope s__law_great) _ [("q", 9)] = true by decide +kernel) (jg_name (E := intS) 9 sc__law_great.nd) (by decide) (all_lt rfl) fun x79 => (jn_tupG (P := (prS intS intS)) (g := fun z => (z.1, z.2.1)) (ja_cons (jn_bin oMod ov_mod (int_int T.m_int (jn_bin oAdd ov_add (jn_bin oMul ov_mul (jn_var (E := intS) (a := x79) 9) jn_int) (jn_var (E := intS) (a := a68.1) 3))) jn_int) (ja_cons (jn_var (E := intS) (a := x79) 9) ja_nil)))))))) fun a87 =>
 JB.frz (i := 4) (o := (lstO (lstO (fun x => sh (boolS x)))) a78) (p := (lstS (lstS boolS)) a78) rfl ((fz_lst (fz_lst (fun _ => fz_sh))) _) (jb_ifrE (Γ := fun s106 : ((List Int) × Int × Int × Int × Int × Int × Int) => [some (h0O s106), some (sh (intS a60.1)), some (sh (intS a65.1)), some (sh (intS a68.1)), some (sh ((lstS (lstS boolS)) a78)), some ((lstO (fun x => sh ((prS intS intS) x))) a87), none, none, none, none, none, none]) (s := a68.2) (jte_cmp oEq ov_eqI (je_callS (O := h0O) 0 (fun s => s) (fun s u => u) (ok_law_draw T) T.g__law_draw T.F__law_draw.kp T.b__law_draw (Nat.le_of_ble_eq_true rfl) (jea_of (ja_cons jn_int ja_nil))) fun s108 => (je_of jn_int)) (fun s110 => jb_cons (js_setLcC 7 sc__law_great.nd (jn_lc sc__law_great.nd (jc_map [("x", 10)] (jic_of (ji_rng1 T.m_range (jn_var (E := intS) (a := a60.1) 1))) (show blkC ["reader", "n", "m", "a", "second", "rising", "b", "standing", "row", "q", "x", "y"] (defScope s__law_great) _ [("x", 10)] = true by decide +kernel) (jg_name (E := intS) 10 sc__law_great.nd) (by decide) (all_lt rfl) fun x111 => (jn_bin oMod ov_mod (int_int T.m_int (jn_bin oAdd ov_add (jn_bin oMul ov_mul (jn_var (E := intS) (a := x111) 10) jn_int) (jn_var (E := intS) (a := a68.1) 3))) jn_int)))) fun a116 =>
 jb_cons (js_setLc 8 sc__law_great.nd (jc_map [("x", 10)] (jic_of (ji_rng1 T.m_range (jn_var (E := intS) (a := a60.1) 1))) (show blkC ["reader", "n", "m", "a", "second", "rising", "b", "standing", "row", "q", "x", "y"] (defScope s__law_great) _ [("x", 10)] = true by decide +kernel) (jg_name (E := intS) 10 sc__law_great.nd) (by decide) (all_lt rfl) fun x117 => (jn_ixT (E := intS) (g := fun z => z.2) 1 (jn_of (jr_ix oIxL iv_lstO (jr_var (R := (lstO (fun x => sh ((prS intS intS) x)))) (a := a87) 5) (jn_bin oDiv ov_div (jn_bin oMul ov_mul (jn_of (jr_ix oIxL iv_lstO (jr_var (R := (lstO (fun x => sh (intS x)))) (a := a116) 7) (jn_var (E := intS) (a := x117) 10))) (jn_var (E := intS) (a := a65.1) 2)) jn_int)))))) fun a123 =>
 JB.frz (i := 7) (o := (lstO (fun x => sh (intS x))) a116) (p := (lstS intS) a116) rfl ((fz_lst (fun _ => fz_sh)) _) (jb_retS (R := h1O) (Δ := fun s => some (h0O s) :: nonC 11) (s := s110) (weak_mask [true, false, false, false, false, false, false, false, false, false, false, false] _) (jn_hl (T := h1O) (g := fun z => (z.1, z.2.1, z.2.2.1)) (ja_cons (JN.frz (fz_lst (fz_lst (fun _ => fz_sh))) (jn_call (ok_law_below_by T) T.g__law_below_by T.F__law_below_by.kp T.b__law_below_by (Nat.le_of_ble_eq_true rfl) (ja_cons (jn_var (E := (lstS intS)) (a := a116) 7) ja_nil))) (ja_cons (jn_var (E := (lstS (lstS boolS))) (a := a78) 4) (ja_cons (tup_own T.m_tuple (jr_var (R := (lstO (fun x => sh (intS x)))) (a := a123) 8)) ja_nil)))))) (fun _ => trivial) fun s110 =>
 jb_cons (js_setE (Γ := fun s127 : ((List Int) × Int × Int × Int × Int × Int × Int) => [some (h0O s127), some (sh (intS a60.1)), some (sh (intS a65.1)), some (sh (intS a68.1)), some (sh ((lstS (lstS boolS)) a78)), some ((lstO (fun x => sh ((prS intS intS) x))) a87), none, none, none, none, none, none]) (s := s110) 6 sc__law_great.nd (je_callS (O := h0O) 0 (fun s => s) (fun s u => u) (ok_law_draw T) T.g__law_draw T.F__law_draw.kp T.b__law_draw (Nat.le_of_ble_eq_true rfl) (jea_of (ja_cons jn_int ja_nil)))) fun a129 =>
 jb_retS (R := h1O) (Δ := fun s => some (h0O s) :: nonC 11) (s := a129.2) (weak_mask [true, false, false, false, false, false, false, false, false, false, false, false] _) (jn_hl (T := h1O) (g := fun z => (z.1, z.2.1, z.2.2.1)) (ja_cons (JN.frz (fz_lst (fz_lst (fun _ => fz_sh))) (jn_lc sc__law_great.nd (jc_map [("x", 10)] (jic_of (ji_rng1 T.m_range (jn_var (E := intS) (a := a60.1) 1))) (show blkC ["reader", "n", "m", "a", "second", "rising", "b", "standing", "row", "q", "x", "y"] (defScope s__law_great) _ [("x", 10)] = true by decide +kernel) (jg_name (E := intS) 10 sc__law_great.nd) (by decide) (all_lt rfl) fun x130 => (jn_lc sc__law_great.nd (jc_map [("y", 11)] (jic_of (ji_rng1 T.m_range (jn_var (E := intS) (a := a60.1) 1))) (show blkC ["reader", "n", "m", "a", "second", "rising", "b", "standing", "row", "q", "x", "y"] (relS _ (defScope s__law_great)) _ [("y", 11)] = true by decide +kernel) (jg_name (E := intS) 11 sc__law_great.nd) (by decide) (all_lt rfl) fun x131 => jn_bl))))) (ja_cons (jn_var (E := (lstS (lstS boolS))) (a := a78) 4) (ja_cons (tup_lst T.m_tuple (JN.frz (fz_lst (fun _ => fz_sh)) (jn_lc sc__law_great.nd (jc_map [("x", 10)] (jic_of (ji_rng1 T.m_range (jn_var (E := intS) (a := a60.1) 1))) (show blkC ["reader", "n", "m", "a", "second", "rising", "b", "standing", "row", "q", "x", "y"] (defScope s__law_great) _ [("x", 10)] = true by decide +kernel) (jg_name (E := intS) 10 sc__law_great.nd) (by decide) (all_lt rfl) fun x134 => (jn_bin oMod ov_mod (int_int T.m_int (jn_bin oAdd ov_add (jn_bin oMul ov_mul (jn_var (E := intS) (a := x134) 10) (jn_var (E := intS) (a := x134) 10)) (jn_var (E := intS) (a := a129.1) 6))) (jn_var (E := intS) (a := a65.1) 2)))))) ja_nil)))))) (by unfold M_law_great; first | (dsimp only [CC.sb]; done) | (dsimp only [CC.sb]; rfl) | rfl)
def M_law_shuffled (a : Int × Unit) (s : ((List Int) × Int × Int × Int × Int × Int × Int)) : Option ((List Int) × ((List Int) × Int × Int × Int × Int × Int × Int)) :=
 (rng 0 a.1).bind fun a160 => ((rng 0 a.1).bind fun x172 => foldGo (fun x163 s164 => ((((M_law_draw ((((s164.2.1, s164.1).1).length : Int), ()) ((s164.2.1, s164.1).2)).bind fun r166 => some (r166.1, ((s164.2.1, s164.1).1, r166.2))).bind fun q167 => (popAt q167.2.1 q167.1).bind fun r168 => some (r168.1, (r168.2, q167.2.2))).bind fun q169 => (appM s164.2.2 q169.1).bind fun r170 => some (r170, q169.2)).bind fun a171 => some (a171.2.2, a171.2.1, a171.1)) x172 (s, a160, [])).bind fun a173 => some (a173.2.2, a173.1)
theorem ok_law_shuffled (T : Tx K mg) : FnOk P w K mg base CX0 3 T.a__law_shuffled T.d__law_shuffled ["reader", "n"] (spS h0O (fun a : Int × Unit => [intS a.1]) M_law_shuffled (lstO (fun x => sh (intS x)))) :=
 fnd_state T.F__law_shuffled sc__law_shuffled (fun _ => rfl) (by decide) fun a s => JB.cong (
 jb_cons (js_set 2 sc__law_shuffled.nd (list_rng T.m_list T.m_range (jn_var (E := intS) (a := a.1) 1))) fun a160 =>
 jb_cons (js_set 3 sc__law_shuffled.nd (jn_nilLO (E := (fun x => sh (intS x))))) fun a161 =>
 jb_cons (js_forS (Γl := fun s162 : ((List Int) × Int × Int × Int × Int × Int × Int) × (List Int) × (List Int) => [some (h0O s162.1), some (sh (intS a.1)), some ((lstO (fun x => sh (intS x))) s162.2.1), some ((lstO (fun x => sh (intS x))) s162.2.2), none]) (s, a160, a161) (ji_rng1 T.m_range (jn_var (E := intS) (a := a.1) 1)) (jg_name (E := intS) 4 sc__law_shuffled.nd) (weak_mask [true, true, true, true, false] _) (fun _ => all_lt rfl) fun x163 s164 =>
 jb_cons (js_appE (E := (fun x => sh (intS x))) (Γ := fun s165 : (List Int) × ((List Int) × Int × Int × Int × Int × Int × Int) => [some (h0O s165.2), some (sh (intS a.1)), some ((lstO (fun x => sh (intS x))) s165.1), some ((lstO (fun x => sh (intS x))) s164.2.2), some (sh (intS x163))]) (s := (s164.2.1, s164.1)) 3 (fun _ => s164.2.2) (je_popAt (E := (fun x => sh (intS x))) 2 (fun s => s.1) (fun s u => (u, s.2)) (je_callS (O := h0O) 0 (fun s => s.2) (fun s u => (s.1, u)) (ok_law_draw T) T.g__law_draw T.F__law_draw.kp T.b__law_draw (Nat.le_of_ble_eq_true rfl) (jea_of (ja_cons (len_lstO T.m_len (jr_var (R := (lstO (fun x => sh (intS x)))) (a := (s164.2.1, s164.1).1) 2)) ja_nil))))) fun a171 =>
 jb_nil (x := (a171.2.2, a171.2.1, a171.1)) rfl (weak_mask [true, true, true, true, false] _)) fun a173 =>
 jb_retOS (R := (lstO (fun x => sh (intS x)))) (Δ := fun s => some (h0O s) :: nonC 4) 3 (weak_mask [true, false, false, false, false] _)) (by unfold M_law_shuffled; first | (dsimp only [CC.sb]; done) | (dsimp only [CC.sb]; rfl) | rfl)
def M_law_closed (a : Int × ((List (Int × Int)) × Unit)) : Option (List (List Bool)) :=
 ((rng 0 a.1).bind fun x210 => mapM (fun x207 => (rng 0 a.1).bind fun x209 => mapM (fun x208 => some false) x209) x210).bind fun a211 => (foldGo (fun x213 s214 => (setAt2 s214 x213.1 x213.2 true).bind fun a215 => some a215) a.2.1 a211).bind fun a216 => ((rng 0 a.1).bind fun x243 => foldGo (fun x218 s219 => ((rng 0 a.1).bind fun x241 => foldGo (fun x221 s222 => (((atI s222 x221).bind fun x223 => atI x223 x218).bind fun x239 => bif x239 then (((rng 0 a.1).bind fun x236 => mapM (fun x232 => ((atI s222 x221).bind fun x233 => atI x233 x232).bind fun x235 => bif x235 then some true else (atI s222 x218).bind fun x234 => atI x234 x232) x236).bind fun x237 => setAt s222 x221 x237).bind fun a238 => some a238 else some s222).bind fun a240 => some a240) x241 s219).bind fun a242 => some a242) x243 a216).bind fun a244 => some a244
theorem ok_law_closed (T : Tx K mg) : FnOk P w K mg base CX0 1 T.a__law_closed T.d__law_closed ["n", "links"] (spP (fun a : Int × ((List (Int × Int)) × Unit) => [intS a.1, (lstS (prS intS intS)) a.2.1]) M_law_closed (lstO (lstO (fun x => sh (boolS x))))) :=
 fnd_pure (Δ := nonC 7) T.F__law_closed sc__law_closed (fun _ => rfl) (by decide) fun a => JB.cong (
 jb_cons (js_setLcC 2 sc__law_closed.nd (jn_lc sc__law_closed.nd (jc_map [("x", 5)] (jic_of (ji_rng1 T.m_range (jn_var (E := intS) (a := a.1) 0))) (show blkC ["n", "links", "rel", "link", "z", "x", "y"] (defScope s__law_closed) _ [("x", 5)] = true by decide +kernel) (jg_name (E := intS) 5 sc__law_closed.nd) (by decide) (all_lt rfl) fun x207 => (jn_lc sc__law_closed.nd (jc_map [("y", 6)] (jic_of (ji_rng1 T.m_range (jn_var (E := intS) (a := a.1) 0))) (show blkC ["n", "links", "rel", "link", "z", "x", "y"] (relS _ (defScope s__law_closed)) _ [("y", 6)] = true by decide +kernel) (jg_name (E := intS) 6 sc__law_closed.nd) (by decide) (all_lt rfl) fun x208 => jn_bl))))) fun a211 =>
 jb_cons (js_forS (Γl := fun s212 : (List (List Bool)) => [some (sh (intS a.1)), some (sh ((lstS (prS intS intS)) a.2.1)), some ((lstO (lstO (fun x => sh (boolS x)))) s212), none, none, none, none]) a211 (ji_lst (jn_var (E := (lstS (prS intS intS))) (a := a.2.1) 1)) (jg_name (E := (prS intS intS)) 3 sc__law_closed.nd) (weak_mask [true, true, true, false, false, false, false] _) (fun _ => all_lt rfl) fun x213 s214 =>
 jb_cons (js_setI2 (E := boolS) 2 jn_bl (jn_ixT (E := intS) (g := fun z => z.1) 0 (jn_var (E := (prS intS intS)) (a := x213) 3)) (jn_ixT (E := intS) (g := fun z => z.2) 1 (jn_var (E := (prS intS intS)) (a := x213) 3))) fun a215 =>
 jb_nil (x := a215) rfl (weak_mask [true, true, true, false, false, false, false] _)) fun a216 =>
 jb_cons (js_forS (Γl := fun s217 : (List (List Bool)) => [some (sh (intS a.1)), some (sh ((lstS (prS intS intS)) a.2.1)), some ((lstO (lstO (fun x => sh (boolS x)))) s217), none, none, none, none]) a216 (ji_rng1 T.m_range (jn_var (E := intS) (a := a.1) 0)) (jg_name (E := intS) 4 sc__law_closed.nd) (weak_mask [true, true, true, false, false, false, false] _) (fun _ => all_lt rfl) fun x218 s219 =>
 jb_cons (js_forS (Γl := fun s220 : (List (List Bool)) => [some (sh (intS a.1)), some (sh ((lstS (prS intS intS)) a.2.1)), some ((lstO (lstO (fun x => sh (boolS x)))) s220), none, some (sh (intS x218)), none, none]) s219 (ji_rng1 T.m_range (jn_var (E := intS) (a := a.1) 0)) (jg_name (E := intS) 5 sc__law_closed.nd) (weak_mask [true, true, true, false, true, false, false] _) (fun _ => all_lt rfl) fun x221 s222 =>
 jb_cons (js_if (jt_val (jn_of (jr_ix oIxL iv_lstO (jr_ix oIxL iv_lstO (jr_var (R := (lstO (lstO (fun x => sh (boolS x))))) (a := s222) 2) (jn_var (E := intS) (a := x221) 5)) (jn_var (E := intS) (a := x218) 4)))) (D := fun v => Kd.nx ((fun v231 : (List (List Bool)) => [some (sh (intS a.1)), some (sh ((lstS (prS intS intS)) a.2.1)), some ((lstO (lstO (fun x => sh (boolS x)))) v231), none, some (sh (intS x218)), some (sh (intS x221)), none]) v)) (jb_cons (js_setI (E := (lstO (fun x => sh (boolS x)))) 2 (jn_lc sc__law_closed.nd (jc_map [("y", 6)] (jic_of (ji_rng1 T.m_range (jn_var (E := intS) (a := a.1) 0))) (show blkC ["n", "links", "rel", "link", "z", "x", "y"] (defScope s__law_closed) _ [("y", 6)] = true by decide +kernel) (jg_name (E := intS) 6 sc__law_closed.nd) (by decide) (all_lt rfl) fun x232 => (jn_or (jn_of (jr_ix oIxL iv_lstO (jr_ix oIxL iv_lstO (jr_var (R := (lstO (lstO (fun x => sh (boolS x))))) (a := s222) 2) (jn_var (E := intS) (a := x221) 5)) (jn_var (E := intS) (a := x232) 6))) (jn_one (jn_of (jr_ix oIxL iv_lstO (jr_ix oIxL iv_lstO (jr_var (R := (lstO (lstO (fun x => sh (boolS x))))) (a := s222) 2) (jn_var (E := intS) (a := x218) 4)) (jn_var (E := intS) (a := x232) 6))))))) (jn_var (E := intS) (a := x221) 5)) fun a238 =>
 jb_nil (x := a238) rfl (weak_mask [true, true, true, false, true, true, false] _)) (jb_nil (x := s222) rfl (weak_mask [true, true, true, false, true, true, false] _))) fun a240 =>
 jb_nil (x := a240) rfl (weak_mask [true, true, true, false, true, false, false] _)) fun a242 =>
 jb_nil (x := a242) rfl (weak_mask [true, true, true, false, false, false, false] _)) fun a244 =>
 jb_retO (R := (lstO (lstO (fun x => sh (boolS x))))) 2 (weak_none _)) (by unfold M_law_closed; first | (dsimp only [CC.sb]; done) | (dsimp only [CC.sb]; rfl) | rfl)
def M_law_drawn (a : Int × (Int × Unit)) (s : ((List Int) × Int × Int × Int × Int × Int × Int)) : Option ((List (List Bool)) × ((List Int) × Int × Int × Int × Int × Int × Int)) :=
 ((M_law_shuffled (a.1, ()) s).bind fun r174 => some (r174.1, r174.2)).bind fun a175 => ((rng 0 a.1).bind fun x205 => foldGo (fun x178 s179 => ((rng 0 x178).bind fun x203 => foldGo (fun x181 s182 => ((((M_law_draw (a.2.1, ()) s182.1).bind fun r184 => some (r184.1, r184.2)).bind fun q186 => some (decide (q186.1 = (0 : Int)), q186.2)).bind fun q201 => bif q201.1 then ((((atI a175.1 x181).bind fun x195 => ((atI a175.1 x178).bind fun x196 => some (x196, ())).bind fun y197 => some (x195, y197)).bind fun z198 => some (z198.1, z198.2.1)).bind fun x199 => appM s182.2 x199).bind fun a200 => some (q201.2, a200) else some (q201.2, s182.2)).bind fun a202 => some (a202.1, a202.2)) x203 (s179.1, s179.2)).bind fun a204 => some (a204.1, a204.2)) x205 (a175.2, [])).bind fun a206 => (M_law_closed (a.1, (a206.2, ()))).bind fun x245 => some (x245, a206.1)
theorem ok_law_drawn (T : Tx K mg) : FnOk P w K mg base CX0 4 T.a__law_drawn T.d__law_drawn ["reader", "n", "share"] (spS h0O (fun a : Int × (Int × Unit) => [intS a.1, intS a.2.1]) M_law_drawn (lstO (lstO (fun x => sh (boolS x))))) :=
 fnd_state T.F__law_drawn sc__law_drawn (fun _ => rfl) (by decide) fun a s => JB.cong (
 jb_cons (js_setE (Γ := fun s159 : ((List Int) × Int × Int × Int × Int × Int × Int) => [some (h0O s159), some (sh (intS a.1)), some (sh (intS a.2.1)), none, none, none, none]) (s := s) 3 sc__law_drawn.nd (je_callS (O := h0O) 0 (fun s => s) (fun s u => u) (ok_law_shuffled T) T.g__law_shuffled T.F__law_shuffled.kp T.b__law_shuffled (Nat.le_of_ble_eq_true rfl) (jea_of (ja_cons (jn_var (E := intS) (a := a.1) 1) ja_nil)))) fun a175 =>
 jb_cons (js_set 4 sc__law_drawn.nd (jn_nilLO (E := (fun x => sh ((prS intS intS) x))))) fun a176 =>
 jb_cons (js_forS (Γl := fun s177 : ((List Int) × Int × Int × Int × Int × Int × Int) × (List (Int × Int)) => [some (h0O s177.1), some (sh (intS a.1)), some (sh (intS a.2.1)), some ((lstO (fun x => sh (intS x))) a175.1), some ((lstO (fun x => sh ((prS intS intS) x))) s177.2), none, none]) (a175.2, a176) (ji_rng1 T.m_range (jn_var (E := intS) (a := a.1) 1)) (jg_name (E := intS) 5 sc__law_drawn.nd) (weak_mask [true, true, true, true, true, false, false] _) (fun _ => all_lt rfl) fun x178 s179 =>
 jb_cons (js_forS (Γl := fun s180 : ((List Int) × Int × Int × Int × Int × Int × Int) × (List (Int × Int)) => [some (h0O s180.1), some (sh (intS a.1)), some (sh (intS a.2.1)), some ((lstO (fun x => sh (intS x))) a175.1), some ((lstO (fun x => sh ((prS intS intS) x))) s180.2), some (sh (intS x178)), none]) (s179.1, s179.2) (ji_rng1 T.m_range (jn_var (E := intS) (a := x178) 5)) (jg_name (E := intS) 6 sc__law_drawn.nd) (weak_mask [true, true, true, true, true, true, false] _) (fun _ => all_lt rfl) fun x181 s182 =>
 jb_cons (js_ifE (Γ := fun s183 : ((List Int) × Int × Int × Int × Int × Int × Int) => [some (h0O s183), some (sh (intS a.1)), some (sh (intS a.2.1)), some ((lstO (fun x => sh (intS x))) a175.1), some ((lstO (fun x => sh ((prS intS intS) x))) s182.2), some (sh (intS x178)), some (sh (intS x181))]) (s := s182.1) (jte_cmp oEq ov_eqI (je_callS (O := h0O) 0 (fun s => s) (fun s u => u) (ok_law_draw T) T.g__law_draw T.F__law_draw.kp T.b__law_draw (Nat.le_of_ble_eq_true rfl) (jea_of (ja_cons (jn_var (E := intS) (a := a.2.1) 2) ja_nil))) fun s185 => (je_of jn_int)) (D := fun v => Kd.nx ((fun v194 : ((List Int) × Int × Int × Int × Int × Int × Int) × (List (Int × Int)) => [some (h0O v194.1), some (sh (intS a.1)), some (sh (intS a.2.1)), some ((lstO (fun x => sh (intS x))) a175.1), some ((lstO (fun x => sh ((prS intS intS) x))) v194.2), some (sh (intS x178)), some (sh (intS x181))]) v)) (fun s187 => jb_cons (js_app (E := (fun x => sh ((prS intS intS) x))) 4 (jn_tupG (P := (prS intS intS)) (g := fun z => (z.1, z.2.1)) (ja_cons (jn_of (jr_ix oIxL iv_lstO (jr_var (R := (lstO (fun x => sh (intS x)))) (a := a175.1) 3) (jn_var (E := intS) (a := x181) 6))) (ja_cons (jn_of (jr_ix oIxL iv_lstO (jr_var (R := (lstO (fun x => sh (intS x)))) (a := a175.1) 3) (jn_var (E := intS) (a := x178) 5))) ja_nil)))) fun a200 =>
 jb_nil (x := (s187, a200)) rfl (weak_mask [true, true, true, true, true, true, true] _)) fun s187 => jb_nil (x := (s187, s182.2)) rfl (weak_mask [true, true, true, true, true, true, true] _)) fun a202 =>
 jb_nil (x := (a202.1, a202.2)) rfl (weak_mask [true, true, true, true, true, true, false] _)) fun a204 =>
 jb_nil (x := (a204.1, a204.2)) rfl (weak_mask [true, true, true, true, true, false, false] _)) fun a206 =>
 JB.frz (i := 4) (o := (lstO (fun x => sh ((prS intS intS) x))) a206.2) (p := (lstS (prS intS intS)) a206.2) rfl ((fz_lst (fun _ => fz_sh)) _) (jb_retS (R := (lstO (lstO (fun x => sh (boolS x))))) (Δ := fun s => some (h0O s) :: nonC 6) (s := a206.1) (weak_mask [true, false, false, false, false, false, false] _) (jn_call (ok_law_closed T) T.g__law_closed T.F__law_closed.kp T.b__law_closed (Nat.le_of_ble_eq_true rfl) (ja_cons (jn_var (E := intS) (a := a.1) 1) (ja_cons (jn_var (E := (lstS (prS intS intS))) (a := a206.2) 4) ja_nil))))) (by unfold M_law_drawn; first | (dsimp only [CC.sb]; done) | (dsimp only [CC.sb]; rfl) | rfl)
def M_law_over (a : (List (List Bool)) × (Int × Unit)) (s : ((List Int) × Int × Int × Int × Int × Int × Int)) : Option (((List (List Bool)) × (List Int)) × ((List Int) × Int × Int × Int × Int × Int × Int)) :=
 (((rng 0 a.2.1).bind fun x257 => some (x257, s)).bind fun q262 => mapME (fun x258 s259 => (M_law_draw ((a.1.length : Int), ()) s259).bind fun r261 => some (r261.1, r261.2)) q262.1 q262.2).bind fun a263 => ((M_law_shuffled (a.2.1, ()) a263.2).bind fun r265 => some (r265.1, r265.2)).bind fun a266 => (((M_law_draw ((3 : Int), ()) a266.2).bind fun r269 => some (r269.1, r269.2)).bind fun q270 => some ((1 : Int) + q270.1, q270.2)).bind fun a271 => ((rng 0 a.2.1).bind fun x302 => foldGo (fun x274 s275 => ((rng 0 x274).bind fun x300 => foldGo (fun x277 s278 => (atI a266.1 x277).bind fun a279 => (atI a266.1 x274).bind fun a280 => ((((((atI a263.1 a279).bind fun x282 => (atI a263.1 a280).bind fun x283 => some (decide (x282 = x283))).bind fun x287 => bif x287 then some true else ((atI a263.1 a279).bind fun x284 => atI a.1 x284).bind fun x285 => (atI a263.1 a280).bind fun x286 => atI x285 x286).bind fun x288 => some (x288, s278.1)).bind fun q293 => bif q293.1 then ((M_law_draw (a271.1, ()) q293.2).bind fun r290 => some (r290.1, r290.2)).bind fun q292 => some (decide (q292.1 = (0 : Int)), q292.2) else some (false, q293.2)).bind fun q298 => bif q298.1 then (appM s278.2 (a279, a280)).bind fun a297 => some (q298.2, a297) else some (q298.2, s278.2)).bind fun a299 => some (a299.1, a299.2)) x300 (s275.1, s275.2)).bind fun a301 => some (a301.1, a301.2)) x302 (a271.2, [])).bind fun a303 => (((M_law_closed (a.2.1, (a303.2, ()))).bind fun x304 => some (x304, (a263.1, ()))).bind fun z305 => some (z305.1, z305.2.1)).bind fun x306 => some (x306, a303.1)
theorem ok_law_over (T : Tx K mg) : FnOk P w K mg base CX0 4 T.a__law_over T.d__law_over ["reader", "second", "n"] (spS h0O (fun a : (List (List Bool)) × (Int × Unit) => [(lstS (lstS boolS)) a.1, intS a.2.1]) M_law_over h2O) :=
 fnd_state T.F__law_over sc__law_over (fun _ => rfl) (by decide) fun a s => JB.cong (
 jb_cons (js_setLcE (Γ := fun s256 : ((List Int) × Int × Int × Int × Int × Int × Int) => [some (h0O s256), some (sh ((lstS (lstS boolS)) a.1)), some (sh (intS a.2.1)), none, none, none, none, none, none, none, none]) (s := s) 3 sc__law_over.nd (jce_map [("x", 9)] (jie_of (ji_rng1 T.m_range (jn_var (E := intS) (a := a.2.1) 2))) (show blkC ["reader", "second", "n", "row", "places", "share", "links", "k", "j", "x", "y"] (defScope s__law_over) _ [("x", 9)] = true by decide +kernel) (jg_name (E := intS) 9 sc__law_over.nd) (by decide) (fun _ => all_lt rfl) (up1 9) (up1l 9) (fun _ => all_non rfl) fun x258 s259 => (je_callS (O := h0O) 0 (fun s => s) (fun s u => u) (ok_law_draw T) T.g__law_draw T.F__law_draw.kp T.b__law_draw (Nat.le_of_ble_eq_true rfl) (jea_of (ja_cons (len_lst T.m_len (jn_var (E := (lstS (lstS boolS))) (a := a.1) 1)) ja_nil))))) fun a263 =>
 jb_cons (js_setE (Γ := fun s264 : ((List Int) × Int × Int × Int × Int × Int × Int) => [some (h0O s264), some (sh ((lstS (lstS boolS)) a.1)), some (sh (intS a.2.1)), some ((lstO (fun x => sh (intS x))) a263.1), none, none, none, none, none, none, none]) (s := a263.2) 4 sc__law_over.nd (je_callS (O := h0O) 0 (fun s => s) (fun s u => u) (ok_law_shuffled T) T.g__law_shuffled T.F__law_shuffled.kp T.b__law_shuffled (Nat.le_of_ble_eq_true rfl) (jea_of (ja_cons (jn_var (E := intS) (a := a.2.1) 2) ja_nil)))) fun a266 =>
 jb_cons (js_setE (Γ := fun s267 : ((List Int) × Int × Int × Int × Int × Int × Int) => [some (h0O s267), some (sh ((lstS (lstS boolS)) a.1)), some (sh (intS a.2.1)), some ((lstO (fun x => sh (intS x))) a263.1), some ((lstO (fun x => sh (intS x))) a266.1), none, none, none, none, none, none]) (s := a266.2) 5 sc__law_over.nd (je_bin oAdd ov_add (je_of jn_int) fun s268 => (je_callS (O := h0O) 0 (fun s => s) (fun s u => u) (ok_law_draw T) T.g__law_draw T.F__law_draw.kp T.b__law_draw (Nat.le_of_ble_eq_true rfl) (jea_of (ja_cons jn_int ja_nil))))) fun a271 =>
 jb_cons (js_set 6 sc__law_over.nd (jn_nilLO (E := (fun x => sh ((prS intS intS) x))))) fun a272 =>
 jb_cons (js_forS (Γl := fun s273 : ((List Int) × Int × Int × Int × Int × Int × Int) × (List (Int × Int)) => [some (h0O s273.1), some (sh ((lstS (lstS boolS)) a.1)), some (sh (intS a.2.1)), some ((lstO (fun x => sh (intS x))) a263.1), some ((lstO (fun x => sh (intS x))) a266.1), some (sh (intS a271.1)), some ((lstO (fun x => sh ((prS intS intS) x))) s273.2), none, none, none, none]) (a271.2, a272) (ji_rng1 T.m_range (jn_var (E := intS) (a := a.2.1) 2)) (jg_name (E := intS) 7 sc__law_over.nd) (weak_mask [true, true, true, true, true, true, true, false, false, false, false] _) (fun _ => all_lt rfl) fun x274 s275 =>
 jb_cons (js_forS (Γl := fun s276 : ((List Int) × Int × Int × Int × Int × Int × Int) × (List (Int × Int)) => [some (h0O s276.1), some (sh ((lstS (lstS boolS)) a.1)), some (sh (intS a.2.1)), some ((lstO (fun x => sh (intS x))) a263.1), some ((lstO (fun x => sh (intS x))) a266.1), some (sh (intS a271.1)), some ((lstO (fun x => sh ((prS intS intS) x))) s276.2), some (sh (intS x274)), none, none, none]) (s275.1, s275.2) (ji_rng1 T.m_range (jn_var (E := intS) (a := x274) 7)) (jg_name (E := intS) 8 sc__law_over.nd) (weak_mask [true, true, true, true, true, true, true, true, false, false, false] _) (fun _ => all_lt rfl) fun x277 s278 =>
 jb_cons (js_set 9 sc__law_over.nd (jn_of (jr_ix oIxL iv_lstO (jr_var (R := (lstO (fun x => sh (intS x)))) (a := a266.1) 4) (jn_var (E := intS) (a := x277) 8)))) fun a279 =>
 jb_cons (js_set 10 sc__law_over.nd (jn_of (jr_ix oIxL iv_lstO (jr_var (R := (lstO (fun x => sh (intS x)))) (a := a266.1) 4) (jn_var (E := intS) (a := x274) 7)))) fun a280 =>
 jb_cons (js_ifE (Γ := fun s281 : ((List Int) × Int × Int × Int × Int × Int × Int) => [some (h0O s281), some (sh ((lstS (lstS boolS)) a.1)), some (sh (intS a.2.1)), some ((lstO (fun x => sh (intS x))) a263.1), some ((lstO (fun x => sh (intS x))) a266.1), some (sh (intS a271.1)), some ((lstO (fun x => sh ((prS intS intS) x))) s278.2), some (sh (intS x274)), some (sh (intS x277)), some (sh (intS a279)), some (sh (intS a280))]) (s := s278.1) (jte_w (jwe_and (jte_of (jt_w (jw_or (jt_cmp oEq ov_eqI (jn_of (jr_ix oIxL iv_lstO (jr_var (R := (lstO (fun x => sh (intS x)))) (a := a263.1) 3) (jn_var (E := intS) (a := a279) 9))) (jn_of (jr_ix oIxL iv_lstO (jr_var (R := (lstO (fun x => sh (intS x)))) (a := a263.1) 3) (jn_var (E := intS) (a := a280) 10)))) (jw_or1 (jt_val (jn_of (jr_ix oIxL iv_lst (jr_of (jn_of (jr_ix oIxL iv_lst (jr_of (jn_var (E := (lstS (lstS boolS))) (a := a.1) 1)) (jn_of (jr_ix oIxL iv_lstO (jr_var (R := (lstO (fun x => sh (intS x)))) (a := a263.1) 3) (jn_var (E := intS) (a := a279) 9)))))) (jn_of (jr_ix oIxL iv_lstO (jr_var (R := (lstO (fun x => sh (intS x)))) (a := a263.1) 3) (jn_var (E := intS) (a := a280) 10)))))))))) fun s289 => (jwe_and1 (jte_cmp oEq ov_eqI (je_callS (O := h0O) 0 (fun s => s) (fun s u => u) (ok_law_draw T) T.g__law_draw T.F__law_draw.kp T.b__law_draw (Nat.le_of_ble_eq_true rfl) (jea_of (ja_cons (jn_var (E := intS) (a := a271.1) 5) ja_nil))) fun s291 => (je_of jn_int))))) (D := fun v => Kd.nx ((fun v296 : ((List Int) × Int × Int × Int × Int × Int × Int) × (List (Int × Int)) => [some (h0O v296.1), some (sh ((lstS (lstS boolS)) a.1)), some (sh (intS a.2.1)), some ((lstO (fun x => sh (intS x))) a263.1), some ((lstO (fun x => sh (intS x))) a266.1), some (sh (intS a271.1)), some ((lstO (fun x => sh ((prS intS intS) x))) v296.2), some (sh (intS x274)), some (sh (intS x277)), some (sh (intS a279)), some (sh (intS a280))]) v)) (fun s294 => jb_cons (js_app (E := (fun x => sh ((prS intS intS) x))) 6 (jn_tupG (P := (prS intS intS)) (g := fun z => (z.1, z.2.1)) (ja_cons (jn_var (E := intS) (a := a279) 9) (ja_cons (jn_var (E := intS) (a := a280) 10) ja_nil)))) fun a297 =>
 jb_nil (x := (s294, a297)) rfl (weak_mask [true, true, true, true, true, true, true, true, true, true, true] _)) fun s294 => jb_nil (x := (s294, s278.2)) rfl (weak_mask [true, true, true, true, true, true, true, true, true, true, true] _)) fun a299 =>
 jb_nil (x := (a299.1, a299.2)) rfl (weak_mask [true, true, true, true, true, true, true, true, false, false, false] _)) fun a301 =>
 jb_nil (x := (a301.1, a301.2)) rfl (weak_mask [true, true, true, true, true, true, true, false, false, false, false] _)) fun a303 =>
 JB.frz (i := 6) (o := (lstO (fun x => sh ((prS intS intS) x))) a303.2) (p := (lstS (prS intS intS)) a303.2) rfl ((fz_lst (fun _ => fz_sh)) _) (jb_retS (R := h2O) (Δ := fun s => some (h0O s) :: nonC 10) (s := a303.1) (weak_mask [true, false, false, false, false, false, false, false, false, false, false] _) (jn_hl (T := h2O) (g := fun z => (z.1, z.2.1)) (ja_cons (JN.frz (fz_lst (fz_lst (fun _ => fz_sh))) (jn_call (ok_law_closed T) T.g__law_closed T.F__law_closed.kp T.b__law_closed (Nat.le_of_ble_eq_true rfl) (ja_cons (jn_var (E := intS) (a := a.2.1) 2) (ja_cons (jn_var (E := (lstS (prS intS intS))) (a := a303.2) 6) ja_nil)))) (ja_cons (tup_own T.m_tuple (jr_var (R := (lstO (fun x => sh (intS x)))) (a := a263.1) 3)) ja_nil))))) (by unfold M_law_over; first | (dsimp only [CC.sb]; done) | (dsimp only [CC.sb]; rfl) | rfl)
def M_law_case (a : Unit) (s : ((List Int) × Int × Int × Int × Int × Int × Int)) : Option (((List (List Bool)) × (List (List Bool)) × (List Int)) × ((List Int) × Int × Int × Int × Int × Int × Int)) :=
 (((M_law_draw ((12 : Int), ()) s).bind fun r51 => some (r51.1, r51.2)).bind fun q53 => some (decide (q53.1 = (0 : Int)), q53.2)).bind fun q310 => bif q310.1 then (M_law_great () q310.2).bind fun r146 => some (r146.1, r146.2) else (((((M_law_draw ((6 : Int), ()) q310.2).bind fun r149 => some (r149.1, r149.2)).bind fun q150 => some ((1 : Int) + q150.1, q150.2)).bind fun q157 => ((((M_law_draw ((3 : Int), ()) q157.2).bind fun r153 => some (r153.1, r153.2)).bind fun q154 => some ((1 : Int) + q154.1, q154.2)).bind fun q156 => some ((q156.1, ()), q156.2)).bind fun q158 => some ((q157.1, q158.1), q158.2)).bind fun q246 => (M_law_drawn q246.1 q246.2).bind fun r247 => some (r247.1, r247.2)).bind fun a248 => (((((M_law_draw ((9 : Int), ()) a248.2).bind fun r252 => some (r252.1, r252.2)).bind fun q254 => some ((q254.1, ()), q254.2)).bind fun q255 => some ((a248.1, q255.1), q255.2)).bind fun q307 => (M_law_over q307.1 q307.2).bind fun r308 => some (r308.1, r308.2)).bind fun a309 => some ((a309.1.1, a248.1, a309.1.2), a309.2)
theorem ok_law_case (T : Tx K mg) : FnOk P w K mg base CX0 5 T.a__law_case T.d__law_case ["reader"] (spS h0O (fun a : Unit => []) M_law_case h1O) :=
 fnd_state T.F__law_case sc__law_case (fun _ => rfl) (by decide) fun a s => JB.cong (
 jb_ifrE (Γ := fun s11 : ((List Int) × Int × Int × Int × Int × Int × Int) => [some (h0O s11), none, none]) (s := s) (jte_cmp oEq ov_eqI (je_callS (O := h0O) 0 (fun s => s) (fun s u => u) (ok_law_draw T) T.g__law_draw T.F__law_draw.kp T.b__law_draw (Nat.le_of_ble_eq_true rfl) (jea_of (ja_cons jn_int ja_nil))) fun s52 => (je_of jn_int)) (fun s54 => jb_retE (R := h1O) (Γ := fun s55 : ((List Int) × Int × Int × Int × Int × Int × Int) => [some (h0O s55), none, none]) (s := s54) (Δ := fun s => some (h0O s) :: nonC 2) (fun _ => (weak_mask [true, false, false] _)) (je_callS (O := h0O) 0 (fun s => s) (fun s u => u) (ok_law_great T) T.g__law_great T.F__law_great.kp T.b__law_great (Nat.le_of_ble_eq_true rfl) jea_nil)) (fun _ => trivial) fun s54 =>
 jb_cons (js_setE (Γ := fun s147 : ((List Int) × Int × Int × Int × Int × Int × Int) => [some (h0O s147), none, none]) (s := s54) 1 sc__law_case.nd (je_callS (O := h0O) 0 (fun s => s) (fun s u => u) (ok_law_drawn T) T.g__law_drawn T.F__law_drawn.kp T.b__law_drawn (Nat.le_of_ble_eq_true rfl) (jea_cons (je_bin oAdd ov_add (je_of jn_int) fun s148 => (je_callS (O := h0O) 0 (fun s => s) (fun s u => u) (ok_law_draw T) T.g__law_draw T.F__law_draw.kp T.b__law_draw (Nat.le_of_ble_eq_true rfl) (jea_of (ja_cons jn_int ja_nil)))) fun s151 => (jea_cons (je_bin oAdd ov_add (je_of jn_int) fun s152 => (je_callS (O := h0O) 0 (fun s => s) (fun s u => u) (ok_law_draw T) T.g__law_draw T.F__law_draw.kp T.b__law_draw (Nat.le_of_ble_eq_true rfl) (jea_of (ja_cons jn_int ja_nil)))) fun s155 => jea_nil)))) fun a248 =>
 JB.frz (i := 1) (o := (lstO (lstO (fun x => sh (boolS x)))) a248.1) (p := (lstS (lstS boolS)) a248.1) rfl ((fz_lst (fz_lst (fun _ => fz_sh))) _) (jb_cons (js_setE (Γ := fun s250 : ((List Int) × Int × Int × Int × Int × Int × Int) => [some (h0O s250), some (sh ((lstS (lstS boolS)) a248.1)), none]) (s := a248.2) 2 sc__law_case.nd (je_callS (O := h0O) 0 (fun s => s) (fun s u => u) (ok_law_over T) T.g__law_over T.F__law_over.kp T.b__law_over (Nat.le_of_ble_eq_true rfl) (jea_cons (je_of (jn_var (E := (lstS (lstS boolS))) (a := a248.1) 1)) fun s251 => (jea_cons (je_callS (O := h0O) 0 (fun s => s) (fun s u => u) (ok_law_draw T) T.g__law_draw T.F__law_draw.kp T.b__law_draw (Nat.le_of_ble_eq_true rfl) (jea_of (ja_cons jn_int ja_nil))) fun s253 => jea_nil)))) fun a309 =>
 jb_retS (R := h1O) (Δ := fun s => some (h0O s) :: nonC 2) (s := a309.2) (weak_mask [true, false, false] _) (jn_hl (T := h1O) (g := fun z => (z.1, z.2.1, z.2.2.1)) (ja_cons (jn_of (jr_ixO (R := (fun x => sh ((lstS (lstS boolS)) x))) (g := fun z => z.1) 0 (jr_var (R := h2O) (a := a309.1) 2))) (ja_cons (jn_var (E := (lstS (lstS boolS))) (a := a248.1) 1) (ja_cons (jn_of (jr_ixO (R := (fun x => sh ((tupS intS) x))) (g := fun z => z.2) 1 (jr_var (R := h2O) (a := a309.1) 2))) ja_nil)))))) (by unfold M_law_case; first | (dsimp only [CC.sb]; done) | (dsimp only [CC.sb]; rfl) | rfl)
def M_law_told (a : (List (List Bool)) × Unit) : Option (Int × (List (Int × Int))) :=
 ((rng 0 (a.1.length : Int)).bind fun x331 => foldGo (fun x324 s325 => (((rng 0 (a.1.length : Int)).bind fun x328 => compM (fun x326 => (atI a.1 x324).bind fun x327 => atI x327 x326) (fun x326 => some (x324, x326)) x328).bind fun x329 => catM s325 x329).bind fun a330 => some a330) x331 []).bind fun a332 => some ((a.1.length : Int), a332)
theorem ok_law_told (T : Tx K mg) : FnOk P w K mg base CX0 1 T.a__law_told T.d__law_told ["rel"] (spP (fun a : (List (List Bool)) × Unit => [(lstS (lstS boolS)) a.1]) M_law_told (fun x => sh ((prS intS (tupS (prS intS intS))) x))) :=
 fnd_pure (Δ := nonC 4) T.F__law_told sc__law_told (fun _ => rfl) (by decide) fun a => JB.cong (
 jb_cons (js_set 1 sc__law_told.nd (jn_nilLO (E := (fun x => sh ((prS intS intS) x))))) fun a316 =>
 JB.frz (i := 1) (o := (lstO (fun x => sh ((prS intS intS) x))) a316) (p := (lstS (prS intS intS)) a316) rfl ((fz_lst (fun _ => fz_sh)) _) (jb_cons (js_forS (Γl := fun s323 : (List (Int × Int)) => [some (sh ((lstS (lstS boolS)) a.1)), some (sh ((lstS (prS intS intS)) s323)), none, none]) a316 (ji_rng1 T.m_range (len_lst T.m_len (jn_var (E := (lstS (lstS boolS))) (a := a.1) 0))) (jg_name (E := intS) 2 sc__law_told.nd) (weak_mask [true, true, false, false] _) (fun _ => all_lt rfl) fun x324 s325 =>
 jb_cons (js_set 1 sc__law_told.nd (jn_bin oCat ov_cat (jn_var (E := (lstS (prS intS intS))) (a := s325) 1) (JN.frz (fz_lst (fun _ => fz_sh)) (jn_lc sc__law_told.nd (jc_of [("y", 3)] (jic_of (ji_rng1 T.m_range (len_lst T.m_len (jn_var (E := (lstS (lstS boolS))) (a := a.1) 0)))) (show blkC ["rel", "found", "x", "y"] (defScope s__law_told) _ [("y", 3)] = true by decide +kernel) (jg_name (E := intS) 3 sc__law_told.nd) (by decide) (all_lt rfl) (fun x326 => jts_one (jt_val (jn_of (jr_ix oIxL iv_lst (jr_of (jn_of (jr_ix oIxL iv_lst (jr_of (jn_var (E := (lstS (lstS boolS))) (a := a.1) 0)) (jn_var (E := intS) (a := x324) 2)))) (jn_var (E := intS) (a := x326) 3))))) fun x326 => (jn_tupG (P := (prS intS intS)) (g := fun z => (z.1, z.2.1)) (ja_cons (jn_var (E := intS) (a := x324) 2) (ja_cons (jn_var (E := intS) (a := x326) 3) ja_nil)))))))) fun a330 =>
 JB.frz (i := 1) (o := (lstO (fun x => sh ((prS intS intS) x))) a330) (p := (lstS (prS intS intS)) a330) rfl ((fz_lst (fun _ => fz_sh)) _) (jb_nil (x := a330) rfl (weak_mask [true, true, false, false] _))) fun a332 =>
 jb_ret (weak_none _) (jn_tupG (P := (prS intS (tupS (prS intS intS)))) (g := fun z => (z.1, z.2.1)) (ja_cons (len_lst T.m_len (jn_var (E := (lstS (lstS boolS))) (a := a.1) 0)) (ja_cons (tup_lst T.m_tuple (jn_var (E := (lstS (prS intS intS))) (a := a332) 1)) ja_nil))))) (by unfold M_law_told; first | (dsimp only [CC.sb]; done) | (dsimp only [CC.sb]; rfl) | rfl)
def M_at_most_table (a : (Int × (List (Int × Int))) × Unit) : Option (List (List Bool)) :=
 ((rng 0 a.1.1).bind fun x379 => mapM (fun x376 => (rng 0 a.1.1).bind fun x378 => mapM (fun x377 => some (decide (x376 = x377))) x378) x379).bind fun a380 => (foldGo (fun x382 s383 => (setAt2 s383 x382.1 x382.2 true).bind fun a384 => some a384) a.1.2 a380).bind fun a385 => some a385
theorem ok_at_most_table (T : Tx K mg) : FnOk P w K mg base CX0 1 T.a_at_most_table T.d_at_most_table ["order"] (spP (fun a : (Int × (List (Int × Int))) × Unit => [(prS intS (tupS (prS intS intS))) a.1]) M_at_most_table (lstO (lstO (fun x => sh (boolS x))))) :=
 fnd_pure (Δ := nonC 6) T.F_at_most_table sc_at_most_table (fun _ => rfl) (by decide) fun a => JB.cong (
 jb_cons (js_asg (jn_var (E := (prS intS (tupS (prS intS intS)))) (a := a.1) 0) (jg_pair (E := intS) (G := (tupS (prS intS intS))) 2 3 sc_at_most_table.nd) (all_lt rfl)) fun a375 =>
 jb_cons (js_setLc 1 sc_at_most_table.nd (jc_map [("x", 4)] (jic_of (ji_rng1 T.m_range (jn_var (E := intS) (a := a375.1) 2))) (show blkC ["order", "table", "n", "pairs", "x", "y"] (defScope s_at_most_table) _ [("x", 4)] = true by decide +kernel) (jg_name (E := intS) 4 sc_at_most_table.nd) (by decide) (all_lt rfl) fun x376 => (jn_lc sc_at_most_table.nd (jc_map [("y", 5)] (jic_of (ji_rng1 T.m_range (jn_var (E := intS) (a := a375.1) 2))) (show blkC ["order", "table", "n", "pairs", "x", "y"] (relS _ (defScope s_at_most_table)) _ [("y", 5)] = true by decide +kernel) (jg_name (E := intS) 5 sc_at_most_table.nd) (by decide) (all_lt rfl) fun x377 => (jn_cmp oEq ov_eqI (jn_var (E := intS) (a := x376) 4) (jn_var (E := intS) (a := x377) 5)))))) fun a380 =>
 jb_cons (js_forS (Γl := fun s381 : (List (List Bool)) => [some (sh ((prS intS (tupS (prS intS intS))) a.1)), some ((lstO (lstO (fun x => sh (boolS x)))) s381), some (sh (intS a375.1)), some (sh ((tupS (prS intS intS)) a375.2)), none, none]) a380 (ji_tup (jn_var (E := (tupS (prS intS intS))) (a := a375.2) 3)) (jg_pair (E := intS) (G := intS) 4 5 sc_at_most_table.nd) (weak_mask [true, true, true, true, false, false] _) (fun _ => all_lt rfl) fun x382 s383 =>
 jb_cons (js_setI2 (E := boolS) 1 jn_bl (jn_var (E := intS) (a := x382.1) 4) (jn_var (E := intS) (a := x382.2) 5)) fun a384 =>
 jb_nil (x := a384) rfl (weak_mask [true, true, true, true, false, false] _)) fun a385 =>
 jb_retO (R := (lstO (lstO (fun x => sh (boolS x))))) 1 (weak_none _)) (by unfold M_at_most_table; first | (dsimp only [CC.sb]; done) | (dsimp only [CC.sb]; rfl) | rfl)
def M_fibre (a : (Int × (List (Int × Int))) × ((Int × (List (Int × Int))) × ((List Int) × (Int × (Str × Unit))))) : Option (List Int) :=
 (M_at_most_table (a.2.1, ())).bind fun a386 => bif decide (a.2.2.2.2.1 = (Str.ofString "below")) then ((rng 0 a.1.1).bind fun x390 => compM (fun x387 => ((atI a.2.2.1 x387).bind fun x388 => atI a386 x388).bind fun x389 => atI x389 a.2.2.2.1) (fun x387 => some x387) x390).bind fun x => some x else ((rng 0 a.1.1).bind fun x394 => compM (fun x391 => (atI a386 a.2.2.2.1).bind fun x392 => (atI a.2.2.1 x391).bind fun x393 => atI x392 x393) (fun x391 => some x391) x394).bind fun x => some x
theorem ok_fibre (T : Tx K mg) : FnOk P w K mg base CX0 2 T.a_fibre T.d_fibre ["first", "second", "row", "q", "side"] (spP (fun a : (Int × (List (Int × Int))) × ((Int × (List (Int × Int))) × ((List Int) × (Int × (Str × Unit)))) => [(prS intS (tupS (prS intS intS))) a.1, (prS intS (tupS (prS intS intS))) a.2.1, (tupS intS) a.2.2.1, intS a.2.2.2.1, strS a.2.2.2.2.1]) M_fibre (fun x => sh ((tupS intS) x))) :=
 fnd_pure (Δ := nonC 7) T.F_fibre sc_fibre (fun _ => rfl) (by decide) fun a => JB.cong (
 jb_cons (js_set 5 sc_fibre.nd (jn_call (ok_at_most_table T) T.g_at_most_table T.F_at_most_table.kp T.b_at_most_table (Nat.le_of_ble_eq_true rfl) (ja_cons (jn_var (E := (prS intS (tupS (prS intS intS)))) (a := a.2.1) 1) ja_nil))) fun a386 =>
 jb_ifr (jt_cmp oEq ov_eqS (jn_var (E := strS) (a := a.2.2.2.2.1) 4) jn_str) (jb_ret (weak_none _) (tup_lst T.m_tuple (JN.frz (fz_lst (fun _ => fz_sh)) (jn_lc sc_fibre.nd (jc_of [("x", 6)] (jic_of (ji_rng1 T.m_range (jn_ixT (E := intS) (g := fun z => z.1) 0 (jn_var (E := (prS intS (tupS (prS intS intS)))) (a := a.1) 0)))) (show blkC ["first", "second", "row", "q", "side", "table", "x"] (defScope s_fibre) _ [("x", 6)] = true by decide +kernel) (jg_name (E := intS) 6 sc_fibre.nd) (by decide) (all_lt rfl) (fun x387 => jts_one (jt_val (jn_of (jr_ix oIxL iv_lstO (jr_ix oIxL iv_lstO (jr_var (R := (lstO (lstO (fun x => sh (boolS x))))) (a := a386) 5) (jn_of (jr_ix oIxT iv_tup (jr_of (jn_var (E := (tupS intS)) (a := a.2.2.1) 2)) (jn_var (E := intS) (a := x387) 6)))) (jn_var (E := intS) (a := a.2.2.2.1) 3))))) fun x387 => (jn_var (E := intS) (a := x387) 6)))))) (fun _ => trivial)
 (jb_ret (weak_none _) (tup_lst T.m_tuple (JN.frz (fz_lst (fun _ => fz_sh)) (jn_lc sc_fibre.nd (jc_of [("x", 6)] (jic_of (ji_rng1 T.m_range (jn_ixT (E := intS) (g := fun z => z.1) 0 (jn_var (E := (prS intS (tupS (prS intS intS)))) (a := a.1) 0)))) (show blkC ["first", "second", "row", "q", "side", "table", "x"] (defScope s_fibre) _ [("x", 6)] = true by decide +kernel) (jg_name (E := intS) 6 sc_fibre.nd) (by decide) (all_lt rfl) (fun x391 => jts_one (jt_val (jn_of (jr_ix oIxL iv_lstO (jr_ix oIxL iv_lstO (jr_var (R := (lstO (lstO (fun x => sh (boolS x))))) (a := a386) 5) (jn_var (E := intS) (a := a.2.2.2.1) 3)) (jn_of (jr_ix oIxT iv_tup (jr_of (jn_var (E := (tupS intS)) (a := a.2.2.1) 2)) (jn_var (E := intS) (a := x391) 6))))))) fun x391 => (jn_var (E := intS) (a := x391) 6))))))) (by unfold M_fibre; first | (dsimp only [CC.sb]; done) | (dsimp only [CC.sb]; rfl) | rfl)
def M_law_same_1 (a : Int × (Int × Unit)) : Option Bool :=
 bif !false then some (decide (a.1 = a.2.1)) else some false
theorem ok_law_same_1 (T : Tx K mg) : FnOk P w K mg base CX0 1 T.a__law_same T.d__law_same ["actual", "due"] (spP (fun a : Int × (Int × Unit) => [intS a.1, intS a.2.1]) M_law_same_1 (fun x => sh (boolS x))) :=
 fnd_pure (Δ := nonC 3) T.F__law_same sc__law_same (fun _ => rfl) (by decide) fun a => JB.cong (
 jb_ifF (jt_cmp oIsN ov_isN0 (jn_var (E := intS) (a := a.2.1) 1) jn_non)
 (jb_ifF (jt_val (jn_isi (E := intS) (n := "int") (cn := "str") false T.m_isinstance T.m_str (jn_var (E := intS) (a := a.2.1) 1)))
 (jb_ifT (jt_not (jt_val (jn_isi (E := intS) (n := "int") (cn := "tuple") false T.m_isinstance T.m_tuple (jn_var (E := intS) (a := a.2.1) 1))))
 (jb_ret (weak_none _) (jn_and (jn_isi (E := intS) (n := "int") (cn := "int") true T.m_isinstance T.m_int (jn_var (E := intS) (a := a.1) 0)) (jn_and (jn_notV (jn_isi (E := intS) (n := "int") (cn := "bool") false T.m_isinstance T.m_bool (jn_var (E := intS) (a := a.1) 0))) (jn_one (jn_cmp oEq ov_eqI (jn_var (E := intS) (a := a.1) 0) (jn_var (E := intS) (a := a.2.1) 1)))))) (fun _ => trivial)))) (by unfold M_law_same_1; first | (dsimp only [CC.sb]; done) | (dsimp only [CC.sb]; rfl) | rfl)
def M_law_same (a : (List Int) × ((List Int) × Unit)) : Option Bool :=
 bif !decide ((a.1.length : Int) = (a.2.1.length : Int)) then some false else ((rng 0 (a.2.1.length : Int)).bind fun x400 => mapM (fun x395 => ((atI a.1 x395).bind fun x396 => ((atI a.2.1 x395).bind fun x397 => some (x397, ())).bind fun y398 => some (x396, y398)).bind fun z399 => M_law_same_1 z399) x400).bind fun x401 => some (x401.all id)
theorem ok_law_same (T : Tx K mg) : FnOk P w K mg base CX0 2 T.a__law_same T.d__law_same ["actual", "due"] (spP (fun a : (List Int) × ((List Int) × Unit) => [(tupS intS) a.1, (tupS intS) a.2.1]) M_law_same (fun x => sh (boolS x))) :=
 fnd_pure (Δ := nonC 3) T.F__law_same sc__law_same (fun _ => rfl) (by decide) fun a => JB.cong (
 jb_ifF (jt_cmp oIsN ov_isN0 (jn_var (E := (tupS intS)) (a := a.2.1) 1) jn_non)
 (jb_ifF (jt_val (jn_isi (E := (tupS intS)) (n := "tuple") (cn := "str") false T.m_isinstance T.m_str (jn_var (E := (tupS intS)) (a := a.2.1) 1)))
 (jb_ifF (jt_not (jt_val (jn_isi (E := (tupS intS)) (n := "tuple") (cn := "tuple") true T.m_isinstance T.m_tuple (jn_var (E := (tupS intS)) (a := a.2.1) 1))))
 (jb_ifr (jt_w (jw_or (jt_not (jt_val (jn_isi (E := (tupS intS)) (n := "tuple") (cn := "tuple") true T.m_isinstance T.m_tuple (jn_var (E := (tupS intS)) (a := a.1) 0)))) (jw_or1 (jt_cmp oNe ov_neI (len_tup T.m_len (jn_var (E := (tupS intS)) (a := a.1) 0)) (len_tup T.m_len (jn_var (E := (tupS intS)) (a := a.2.1) 1)))))) (jb_ret (weak_none _) jn_bl) (fun _ => trivial)
 (jb_ret (weak_none _) (all_lst T.m_all (JN.frz (fz_lst (fun _ => fz_sh)) (jn_lc sc__law_same.nd (jc_map [("k", 2)] (jic_of (ji_rng1 T.m_range (len_tup T.m_len (jn_var (E := (tupS intS)) (a := a.2.1) 1)))) (show blkC ["actual", "due", "k"] (defScope s__law_same) _ [("k", 2)] = true by decide +kernel) (jg_name (E := intS) 2 sc__law_same.nd) (by decide) (all_lt rfl) fun x395 => (jn_call (ok_law_same_1 T) T.g__law_same T.F__law_same.kp T.b__law_same (Nat.le_of_ble_eq_true rfl) (ja_cons (jn_of (jr_ix oIxT iv_tup (jr_of (jn_var (E := (tupS intS)) (a := a.1) 0)) (jn_var (E := intS) (a := x395) 2))) (ja_cons (jn_of (jr_ix oIxT iv_tup (jr_of (jn_var (E := (tupS intS)) (a := a.2.1) 1)) (jn_var (E := intS) (a := x395) 2))) ja_nil)))))))))))) (by unfold M_law_same; first | (dsimp only [CC.sb]; done) | (dsimp only [CC.sb]; rfl) | rfl)
def M_law (a : (List Int) × Unit) : Option Bool :=
 (M_law_reader (a.1, ())).bind fun a9 => ((M_law_case () a9).bind fun r311 => some (r311.1, r311.2)).bind fun a312 => (((M_law_told (a312.1.1, ())).bind fun x333 => ((M_law_told (a312.1.2.1, ())).bind fun x334 => some (x334, ())).bind fun y335 => some (x333, y335)).bind fun z336 => some (z336.1, z336.2.1)).bind fun a337 => (rng 0 (a312.1.2.1.length : Int)).bind fun a338 => (bif decide ((6 : Int) < (a312.1.2.1.length : Int)) then (((rng 0 (5 : Int)).bind fun x349 => some (x349, a312.2)).bind fun q354 => mapME (fun x350 s351 => (M_law_draw ((a312.1.2.1.length : Int), ()) s351).bind fun r353 => some (r353.1, r353.2)) q354.1 q354.2).bind fun a355 => some (a355.2, a355.1) else some (a312.2, a338)).bind fun a356 => ((catM a356.2 a356.2.reverse).bind fun x427 => loopGo (fun x358 s359 => (((rng 0 (a312.1.2.2.length : Int)).bind fun x365 => compM (fun x360 => ((atI a312.1.2.2 x360).bind fun x361 => some (decide (x361 = x358))).bind fun x364 => bif x364 then some true else ((atI a312.1.2.2 x360).bind fun x362 => atI a312.1.2.1 x362).bind fun x363 => atI x363 x358) (fun x360 => some x360) x365).bind fun x => some x).bind fun a366 => (((rng 0 (a312.1.2.2.length : Int)).bind fun x372 => compM (fun x367 => ((atI a312.1.2.2 x367).bind fun x368 => some (decide (x368 = x358))).bind fun x371 => bif x371 then some true else (atI a312.1.2.1 x358).bind fun x369 => (atI a312.1.2.2 x367).bind fun x370 => atI x369 x370) (fun x367 => some x367) x372).bind fun x => some x).bind fun a373 => ((((M_fibre (a337.1, a337.2, a312.1.2.2, x358, (Str.ofString "below"), ())).bind fun x402 => some (x402, (a366, ()))).bind fun z403 => M_law_same z403).bind fun x404 => some (!x404)).bind fun x426 => bif x426 then (some false).bind fun y425 => some (Out.rt y425) else ((((M_fibre (a337.1, a337.2, a312.1.2.2, x358, (Str.ofString "above"), ())).bind fun x405 => some (x405, (a373, ()))).bind fun z406 => M_law_same z406).bind fun x407 => some (!x407)).bind fun x424 => bif x424 then (some false).bind fun y423 => some (Out.rt y423) else ((((M_fibre (a337.1, a337.2, a312.1.2.2, x358, (Str.ofString "below"), ())).bind fun x408 => some (x408, (a366, ()))).bind fun z409 => M_law_same z409).bind fun x410 => some (!x410)).bind fun x422 => bif x422 then (some false).bind fun y421 => some (Out.rt y421) else ((((M_fibre (a337.1, a337.2, a312.1.2.2, x358, (Str.ofString "above"), ())).bind fun x411 => some (x411, (a373, ()))).bind fun z412 => M_law_same z412).bind fun x413 => some (!x413)).bind fun x420 => bif x420 then (some false).bind fun y419 => some (Out.rt y419) else ((((M_fibre (a337.1, a337.2, a312.1.2.2, x358, (Str.ofString "below"), ())).bind fun x414 => some (x414, (a366, ()))).bind fun z415 => M_law_same z415).bind fun x416 => some (!x416)).bind fun x418 => bif x418 then (some false).bind fun y417 => some (Out.rt y417) else some (Out.nx ())) x427 ()).bind fun o434 => o434.k (fun a428 => (((M_fibre (((0 : Int), []), a337.2, [], (0 : Int), (Str.ofString "below"), ())).bind fun x429 => some (x429, ([], ()))).bind fun z430 => M_law_same z430).bind fun x433 => bif x433 then ((M_fibre (((0 : Int), []), a337.2, [], (0 : Int), (Str.ofString "above"), ())).bind fun x431 => some (x431, ([], ()))).bind fun z432 => M_law_same z432 else some false) fun r435 => some ((fun r => r) r435)
theorem ok_law (T : Tx K mg) : FnOk P w K mg base CX0 6 T.a_law T.d_law ["script"] (spP (fun a : (List Int) × Unit => [(scrS K) a.1]) M_law (fun x => sh (boolS x))) :=
 fnd_pure (Δ := nonC 13) T.F_law sc_law (fun _ => rfl) (by decide) fun a => JB.cong (
 jb_cons (js_set 1 sc_law.nd (jn_call (ok_law_reader T) T.g__law_reader T.F__law_reader.kp T.b__law_reader (Nat.le_of_ble_eq_true rfl) (ja_cons (jn_var (E := (scrS K)) (a := a.1) 0) ja_nil))) fun a9 =>
 jb_cons (js_setE (Γ := fun s10 : ((List Int) × Int × Int × Int × Int × Int × Int) => [some (sh ((scrS K) a.1)), some (h0O s10), none, none, none, none, none, none, none, none, none, none, none]) (s := a9) 2 sc_law.nd (je_callS (O := h0O) 1 (fun s => s) (fun s u => u) (ok_law_case T) T.g__law_case T.F__law_case.kp T.b__law_case (Nat.le_of_ble_eq_true rfl) jea_nil)) fun a312 =>
 jb_cons (js_set 3 sc_law.nd (jn_of (jr_ixO (R := (fun x => sh ((lstS (lstS boolS)) x))) (g := fun z => z.2.1) 1 (jr_var (R := h1O) (a := a312.1) 2)))) fun a313 =>
 jb_cons (js_set 4 sc_law.nd (jn_of (jr_ixO (R := (fun x => sh ((tupS intS) x))) (g := fun z => z.2.2) 2 (jr_var (R := h1O) (a := a312.1) 2)))) fun a314 =>
 jb_cons (js_set 5 sc_law.nd (len_lst T.m_len (jn_var (E := (lstS (lstS boolS))) (a := a313) 3))) fun a315 =>
 jb_cons (js_set 6 sc_law.nd (jn_tupG (P := (prS (prS intS (tupS (prS intS intS))) (prS intS (tupS (prS intS intS))))) (g := fun z => (z.1, z.2.1)) (ja_cons (jn_call (ok_law_told T) T.g__law_told T.F__law_told.kp T.b__law_told (Nat.le_of_ble_eq_true rfl) (ja_cons (jn_of (jr_ixO (R := (fun x => sh ((lstS (lstS boolS)) x))) (g := fun z => z.1) 0 (jr_var (R := h1O) (a := a312.1) 2))) ja_nil)) (ja_cons (jn_call (ok_law_told T) T.g__law_told T.F__law_told.kp T.b__law_told (Nat.le_of_ble_eq_true rfl) (ja_cons (jn_var (E := (lstS (lstS boolS))) (a := a313) 3) ja_nil)) ja_nil)))) fun a337 =>
 jb_cons (js_set 7 sc_law.nd (list_rng T.m_list T.m_range (jn_var (E := intS) (a := a315) 5))) fun a338 =>
 jb_cons (js_if (jt_cmp oGt ov_gt (jn_var (E := intS) (a := a315) 5) jn_int) (D := fun v => Kd.nx ((fun v347 : ((List Int) × Int × Int × Int × Int × Int × Int) × (List Int) => [some (sh ((scrS K) a.1)), some (h0O v347.1), some (h1O a312.1), some (sh ((lstS (lstS boolS)) a313)), some (sh ((tupS intS) a314)), some (sh (intS a315)), some (sh ((prS (prS intS (tupS (prS intS intS))) (prS intS (tupS (prS intS intS)))) a337)), some ((lstO (fun x => sh (intS x))) v347.2), none, none, none, none, none]) v)) (jb_cons (js_setLcE (Γ := fun s348 : ((List Int) × Int × Int × Int × Int × Int × Int) => [some (sh ((scrS K) a.1)), some (h0O s348), some (h1O a312.1), some (sh ((lstS (lstS boolS)) a313)), some (sh ((tupS intS) a314)), some (sh (intS a315)), some (sh ((prS (prS intS (tupS (prS intS intS))) (prS intS (tupS (prS intS intS)))) a337)), some ((lstO (fun x => sh (intS x))) a338), none, none, none, none, none]) (s := a312.2) 7 sc_law.nd (jce_map [("k", 11)] (jie_of (ji_rng1 T.m_range jn_int)) (show blkC ["script", "reader", "case", "second", "row", "m", "told", "points", "q", "low", "high", "k", "x"] (defScope s_law) _ [("k", 11)] = true by decide +kernel) (jg_name (E := intS) 11 sc_law.nd) (by decide) (fun _ => all_lt rfl) (up1 11) (up1l 11) (fun _ => all_non rfl) fun x350 s351 => (je_callS (O := h0O) 1 (fun s => s) (fun s u => u) (ok_law_draw T) T.g__law_draw T.F__law_draw.kp T.b__law_draw (Nat.le_of_ble_eq_true rfl) (jea_of (ja_cons (jn_var (E := intS) (a := a315) 5) ja_nil))))) fun a355 =>
 jb_nil (x := (a355.2, a355.1)) rfl (weak_mask [true, true, true, true, true, true, true, true, false, false, false, false, false] _)) (jb_nil (x := (a312.2, a338)) rfl (weak_mask [true, true, true, true, true, true, true, true, false, false, false, false, false] _))) fun a356 =>
 JB.frz (i := 7) (o := (lstO (fun x => sh (intS x))) a356.2) (p := (lstS intS) a356.2) rfl ((fz_lst (fun _ => fz_sh)) _) (jb_consO (Γl := fun s357 : Unit => [some (sh ((scrS K) a.1)), some (h0O a356.1), some (h1O a312.1), some (sh ((lstS (lstS boolS)) a313)), some (sh ((tupS intS) a314)), some (sh (intS a315)), some (sh ((prS (prS intS (tupS (prS intS intS))) (prS intS (tupS (prS intS intS)))) a337)), some (sh ((lstS intS) a356.2)), none, none, none, none, none]) (T := fun r => Kd.rt (nonC 13) ((fun x => sh (boolS x)) r)) (fun r => r) (js_for (Γl := fun s357 : Unit => [some (sh ((scrS K) a.1)), some (h0O a356.1), some (h1O a312.1), some (sh ((lstS (lstS boolS)) a313)), some (sh ((tupS intS) a314)), some (sh (intS a315)), some (sh ((prS (prS intS (tupS (prS intS intS))) (prS intS (tupS (prS intS intS)))) a337)), some (sh ((lstS intS) a356.2)), none, none, none, none, none]) (T := fun r => Kd.rt (nonC 13) ((fun x => sh (boolS x)) r)) () (ji_lst (JN.frz (fz_lst (fun _ => fz_sh)) (jn_bin oCat ov_cat (jn_var (E := (lstS intS)) (a := a356.2) 7) (JN.frz (fz_lst (fun _ => fz_sh)) (jn_revS (jn_var (E := (lstS intS)) (a := a356.2) 7)))))) (jg_name (E := intS) 8 sc_law.nd) (weak_mask [true, true, true, true, true, true, true, true, false, false, false, false, false] _) (fun _ => all_lt rfl) (fun _ => ⟨trivial, nofun, nofun⟩) fun x358 s359 =>
 jb_cons (js_set 9 sc_law.nd (tup_lst T.m_tuple (JN.frz (fz_lst (fun _ => fz_sh)) (jn_lc sc_law.nd (jc_of [("x", 12)] (jic_of (ji_rng1 T.m_range (len_tup T.m_len (jn_var (E := (tupS intS)) (a := a314) 4)))) (show blkC ["script", "reader", "case", "second", "row", "m", "told", "points", "q", "low", "high", "k", "x"] (defScope s_law) _ [("x", 12)] = true by decide +kernel) (jg_name (E := intS) 12 sc_law.nd) (by decide) (all_lt rfl) (fun x360 => jts_one (jt_w (jw_or (jt_cmp oEq ov_eqI (jn_of (jr_ix oIxT iv_tup (jr_of (jn_var (E := (tupS intS)) (a := a314) 4)) (jn_var (E := intS) (a := x360) 12))) (jn_var (E := intS) (a := x358) 8)) (jw_or1 (jt_val (jn_of (jr_ix oIxL iv_lst (jr_of (jn_of (jr_ix oIxL iv_lst (jr_of (jn_var (E := (lstS (lstS boolS))) (a := a313) 3)) (jn_of (jr_ix oIxT iv_tup (jr_of (jn_var (E := (tupS intS)) (a := a314) 4)) (jn_var (E := intS) (a := x360) 12)))))) (jn_var (E := intS) (a := x358) 8)))))))) fun x360 => (jn_var (E := intS) (a := x360) 12)))))) fun a366 =>
 jb_cons (js_set 10 sc_law.nd (tup_lst T.m_tuple (JN.frz (fz_lst (fun _ => fz_sh)) (jn_lc sc_law.nd (jc_of [("x", 12)] (jic_of (ji_rng1 T.m_range (len_tup T.m_len (jn_var (E := (tupS intS)) (a := a314) 4)))) (show blkC ["script", "reader", "case", "second", "row", "m", "told", "points", "q", "low", "high", "k", "x"] (defScope s_law) _ [("x", 12)] = true by decide +kernel) (jg_name (E := intS) 12 sc_law.nd) (by decide) (all_lt rfl) (fun x367 => jts_one (jt_w (jw_or (jt_cmp oEq ov_eqI (jn_of (jr_ix oIxT iv_tup (jr_of (jn_var (E := (tupS intS)) (a := a314) 4)) (jn_var (E := intS) (a := x367) 12))) (jn_var (E := intS) (a := x358) 8)) (jw_or1 (jt_val (jn_of (jr_ix oIxL iv_lst (jr_of (jn_of (jr_ix oIxL iv_lst (jr_of (jn_var (E := (lstS (lstS boolS))) (a := a313) 3)) (jn_var (E := intS) (a := x358) 8)))) (jn_of (jr_ix oIxT iv_tup (jr_of (jn_var (E := (tupS intS)) (a := a314) 4)) (jn_var (E := intS) (a := x367) 12)))))))))) fun x367 => (jn_var (E := intS) (a := x367) 12)))))) fun a373 =>
 jb_ifx (D' := (fun r => Kd.rt (nonC 13) ((fun x => sh (boolS x)) r))) Out.rt (jt_not (jt_val (jn_call (ok_law_same T) T.g__law_same T.F__law_same.kp T.b__law_same (Nat.le_of_ble_eq_true rfl) (ja_cons (jn_callD [.str "below"] (fun y => (y.1, y.2.1, y.2.2.1, y.2.2.2.1, (Str.ofString "below"), ())) (ok_fibre T) T.g_fibre T.F_fibre.kp T.v_fibre T.b_fibre (by intro x B vs h; exact hets_d (qs := [strS (Str.ofString "below")]) h ⟨rfl, trivial⟩ rfl) (Nat.le_of_ble_eq_true rfl) (ja_cons (jn_ixT (E := (prS intS (tupS (prS intS intS)))) (g := fun z => z.1) 0 (jn_var (E := (prS (prS intS (tupS (prS intS intS))) (prS intS (tupS (prS intS intS))))) (a := a337) 6)) (ja_cons (jn_ixT (E := (prS intS (tupS (prS intS intS)))) (g := fun z => z.2) 1 (jn_var (E := (prS (prS intS (tupS (prS intS intS))) (prS intS (tupS (prS intS intS))))) (a := a337) 6)) (ja_cons (jn_var (E := (tupS intS)) (a := a314) 4) (ja_cons (jn_var (E := intS) (a := x358) 8) ja_nil))))) (ja_cons (jn_var (E := (tupS intS)) (a := a366) 9) ja_nil))))) (jb_ret (weak_none _) jn_bl) (fun _ => rfl) (fun _ => trivial)
 (jb_ifx (D' := (fun r => Kd.rt (nonC 13) ((fun x => sh (boolS x)) r))) Out.rt (jt_not (jt_val (jn_call (ok_law_same T) T.g__law_same T.F__law_same.kp T.b__law_same (Nat.le_of_ble_eq_true rfl) (ja_cons (jn_callN (fun y z => (y.1, y.2.1, y.2.2.1, y.2.2.2.1, z.1, ())) (ok_fibre T) T.g_fibre T.F_fibre.kp T.k4_fibre (by intro x z B vs zs h k; exact hets_d h k rfl) (by intro _; rfl) (by intro _; rfl) (Nat.le_of_ble_eq_true rfl) (ja_cons (jn_ixT (E := (prS intS (tupS (prS intS intS)))) (g := fun z => z.1) 0 (jn_var (E := (prS (prS intS (tupS (prS intS intS))) (prS intS (tupS (prS intS intS))))) (a := a337) 6)) (ja_cons (jn_ixT (E := (prS intS (tupS (prS intS intS)))) (g := fun z => z.2) 1 (jn_var (E := (prS (prS intS (tupS (prS intS intS))) (prS intS (tupS (prS intS intS))))) (a := a337) 6)) (ja_cons (jn_var (E := (tupS intS)) (a := a314) 4) (ja_cons (jn_var (E := intS) (a := x358) 8) ja_nil)))) (jk_cons jn_str jk_nil)) (ja_cons (jn_var (E := (tupS intS)) (a := a373) 10) ja_nil))))) (jb_ret (weak_none _) jn_bl) (fun _ => rfl) (fun _ => trivial)
 (jb_ifx (D' := (fun r => Kd.rt (nonC 13) ((fun x => sh (boolS x)) r))) Out.rt (jt_not (jt_val (jn_call (ok_law_same T) T.g__law_same T.F__law_same.kp T.b__law_same (Nat.le_of_ble_eq_true rfl) (ja_cons (jn_call0N (fun z => z) (ok_fibre T) T.g_fibre T.F_fibre.kp T.k0_fibre (by intro z B zs h; exact h) (by intro _; rfl) (Nat.le_of_ble_eq_true rfl) (jk_cons (jn_ixT (E := (prS intS (tupS (prS intS intS)))) (g := fun z => z.1) 0 (jn_var (E := (prS (prS intS (tupS (prS intS intS))) (prS intS (tupS (prS intS intS))))) (a := a337) 6)) (jk_cons (jn_ixT (E := (prS intS (tupS (prS intS intS)))) (g := fun z => z.2) 1 (jn_var (E := (prS (prS intS (tupS (prS intS intS))) (prS intS (tupS (prS intS intS))))) (a := a337) 6)) (jk_cons (jn_var (E := (tupS intS)) (a := a314) 4) (jk_cons (jn_var (E := intS) (a := x358) 8) (jk_cons jn_str jk_nil)))))) (ja_cons (jn_var (E := (tupS intS)) (a := a366) 9) ja_nil))))) (jb_ret (weak_none _) jn_bl) (fun _ => rfl) (fun _ => trivial)
 (jb_ifx (D' := (fun r => Kd.rt (nonC 13) ((fun x => sh (boolS x)) r))) Out.rt (jt_not (jt_val (jn_call (ok_law_same T) T.g__law_same T.F__law_same.kp T.b__law_same (Nat.le_of_ble_eq_true rfl) (ja_cons (jn_call0N (fun z => z) (ok_fibre T) T.g_fibre T.F_fibre.kp T.k0_fibre (by intro z B zs h; exact h) (by intro _; rfl) (Nat.le_of_ble_eq_true rfl) (jk_cons (jn_ixT (E := (prS intS (tupS (prS intS intS)))) (g := fun z => z.1) 0 (jn_var (E := (prS (prS intS (tupS (prS intS intS))) (prS intS (tupS (prS intS intS))))) (a := a337) 6)) (jk_cons (jn_ixT (E := (prS intS (tupS (prS intS intS)))) (g := fun z => z.2) 1 (jn_var (E := (prS (prS intS (tupS (prS intS intS))) (prS intS (tupS (prS intS intS))))) (a := a337) 6)) (jk_cons (jn_var (E := (tupS intS)) (a := a314) 4) (jk_cons (jn_var (E := intS) (a := x358) 8) (jk_cons jn_str jk_nil)))))) (ja_cons (jn_var (E := (tupS intS)) (a := a373) 10) ja_nil))))) (jb_ret (weak_none _) jn_bl) (fun _ => rfl) (fun _ => trivial)
 (jb_ifx (D' := (fun r => Kd.rt (nonC 13) ((fun x => sh (boolS x)) r))) Out.rt (jt_not (jt_val (jn_call (ok_law_same T) T.g__law_same T.F__law_same.kp T.b__law_same (Nat.le_of_ble_eq_true rfl) (ja_cons (jn_callN (fun y z => (y.1, y.2.1, y.2.2.1, y.2.2.2.1, z.1, ())) (ok_fibre T) T.g_fibre T.F_fibre.kp T.k4_fibre (by intro x z B vs zs h k; exact hets_d h k rfl) (by intro _; rfl) (by intro _; rfl) (Nat.le_of_ble_eq_true rfl) (ja_cons (jn_ixT (E := (prS intS (tupS (prS intS intS)))) (g := fun z => z.1) 0 (jn_var (E := (prS (prS intS (tupS (prS intS intS))) (prS intS (tupS (prS intS intS))))) (a := a337) 6)) (ja_cons (jn_ixT (E := (prS intS (tupS (prS intS intS)))) (g := fun z => z.2) 1 (jn_var (E := (prS (prS intS (tupS (prS intS intS))) (prS intS (tupS (prS intS intS))))) (a := a337) 6)) (ja_cons (jn_var (E := (tupS intS)) (a := a314) 4) (ja_cons (jn_var (E := intS) (a := x358) 8) ja_nil)))) (jk_cons jn_str jk_nil)) (ja_cons (jn_var (E := (tupS intS)) (a := a366) 9) ja_nil))))) (jb_ret (weak_none _) jn_bl) (fun _ => rfl) (fun _ => trivial)
 (jb_nil (x := Out.nx ()) rfl (weak_mask [true, true, true, true, true, true, true, true, false, false, false, false, false] _))))))) (fun _ => rfl) (fun _ => trivial) fun a428 =>
 jb_ret (weak_none _) (jn_and (jn_call (ok_law_same T) T.g__law_same T.F__law_same.kp T.b__law_same (Nat.le_of_ble_eq_true rfl) (ja_cons (jn_callD [.str "below"] (fun y => (y.1, y.2.1, y.2.2.1, y.2.2.2.1, (Str.ofString "below"), ())) (ok_fibre T) T.g_fibre T.F_fibre.kp T.v_fibre T.b_fibre (by intro x B vs h; exact hets_d (qs := [strS (Str.ofString "below")]) h ⟨rfl, trivial⟩ rfl) (Nat.le_of_ble_eq_true rfl) (ja_cons (jn_tupG (P := (prS intS (tupS (prS intS intS)))) (g := fun z => (z.1, z.2.1)) (ja_cons jn_int (ja_cons (jn_nilT (E := (prS intS intS))) ja_nil))) (ja_cons (jn_ixT (E := (prS intS (tupS (prS intS intS)))) (g := fun z => z.2) 1 (jn_var (E := (prS (prS intS (tupS (prS intS intS))) (prS intS (tupS (prS intS intS))))) (a := a337) 6)) (ja_cons (jn_nilT (E := intS)) (ja_cons jn_int ja_nil))))) (ja_cons (jn_nilT (E := intS)) ja_nil))) (jn_one (jn_call (ok_law_same T) T.g__law_same T.F__law_same.kp T.b__law_same (Nat.le_of_ble_eq_true rfl) (ja_cons (jn_callN (fun y z => (y.1, y.2.1, y.2.2.1, y.2.2.2.1, z.1, ())) (ok_fibre T) T.g_fibre T.F_fibre.kp T.k4_fibre (by intro x z B vs zs h k; exact hets_d h k rfl) (by intro _; rfl) (by intro _; rfl) (Nat.le_of_ble_eq_true rfl) (ja_cons (jn_tupG (P := (prS intS (tupS (prS intS intS)))) (g := fun z => (z.1, z.2.1)) (ja_cons jn_int (ja_cons (jn_nilT (E := (prS intS intS))) ja_nil))) (ja_cons (jn_ixT (E := (prS intS (tupS (prS intS intS)))) (g := fun z => z.2) 1 (jn_var (E := (prS (prS intS (tupS (prS intS intS))) (prS intS (tupS (prS intS intS))))) (a := a337) 6)) (ja_cons (jn_nilT (E := intS)) (ja_cons jn_int ja_nil)))) (jk_cons jn_str jk_nil)) (ja_cons (jn_nilT (E := intS)) ja_nil))))))) (by unfold M_law; first | (dsimp only [CC.sb]; done) | (dsimp only [CC.sb]; rfl) | rfl)
end
def dd__law_reader : He.DefD := ⟨("_law_reader", none), "_law_reader", "_law_reader", defArgs s__law_reader, defBody s__law_reader, defScope s__law_reader, [], []⟩
def dd__law_mixed : He.DefD := ⟨("_law_mixed", none), "_law_mixed", "_law_mixed", defArgs s__law_mixed, defBody s__law_mixed, defScope s__law_mixed, [], []⟩
def dd__law_draw : He.DefD := ⟨("_law_draw", none), "_law_draw", "_law_draw", defArgs s__law_draw, defBody s__law_draw, defScope s__law_draw, [], []⟩
def dd__law_below_by : He.DefD := ⟨("_law_below_by", none), "_law_below_by", "_law_below_by", defArgs s__law_below_by, defBody s__law_below_by, defScope s__law_below_by, [], []⟩
def dd__law_great : He.DefD := ⟨("_law_great", none), "_law_great", "_law_great", defArgs s__law_great, defBody s__law_great, defScope s__law_great, [], []⟩
def dd__law_shuffled : He.DefD := ⟨("_law_shuffled", none), "_law_shuffled", "_law_shuffled", defArgs s__law_shuffled, defBody s__law_shuffled, defScope s__law_shuffled, [], []⟩
def dd__law_closed : He.DefD := ⟨("_law_closed", none), "_law_closed", "_law_closed", defArgs s__law_closed, defBody s__law_closed, defScope s__law_closed, [], []⟩
def dd__law_drawn : He.DefD := ⟨("_law_drawn", none), "_law_drawn", "_law_drawn", defArgs s__law_drawn, defBody s__law_drawn, defScope s__law_drawn, [], []⟩
def dd__law_over : He.DefD := ⟨("_law_over", none), "_law_over", "_law_over", defArgs s__law_over, defBody s__law_over, defScope s__law_over, [], []⟩
def dd__law_case : He.DefD := ⟨("_law_case", none), "_law_case", "_law_case", defArgs s__law_case, defBody s__law_case, defScope s__law_case, [], []⟩
def dd__law_told : He.DefD := ⟨("_law_told", none), "_law_told", "_law_told", defArgs s__law_told, defBody s__law_told, defScope s__law_told, [], []⟩
def dd_at_most_table : He.DefD := ⟨("at_most_table", none), "at_most_table", "at_most_table", defArgs s_at_most_table, defBody s_at_most_table, defScope s_at_most_table, [], []⟩
def dd_fibre : He.DefD := ⟨("fibre", none), "fibre", "fibre", defArgs s_fibre, defBody s_fibre, defScope s_fibre, [], [("side", .str "below")]⟩
def dd__law_same : He.DefD := ⟨("_law_same", none), "_law_same", "_law_same", defArgs s__law_same, defBody s__law_same, defScope s__law_same, [], []⟩
def dd_law : He.DefD := ⟨("law", none), "law", "law", defArgs s_law, defBody s_law, defScope s_law, [], []⟩
def fn : List He.DefD := [dd__law_reader, dd__law_mixed, dd__law_draw, dd__law_below_by, dd__law_great, dd__law_shuffled, dd__law_closed, dd__law_drawn, dd__law_over, dd__law_case, dd__law_told, dd_at_most_table, dd_fibre, dd__law_same, dd_law]
def fa : List He.Fa := [.glo "_law_reader", .glo "_law_mixed", .glo "_law_draw", .glo "_law_below_by", .glo "_law_great", .glo "_law_shuffled", .glo "_law_closed", .glo "_law_drawn", .glo "_law_over", .glo "_law_case", .glo "_law_told", .glo "at_most_table", .glo "fibre", .glo "_law_same", .glo "law", .free "list", .free "int", .free "sum", .free "len", .free "abs", .free "range", .free "sorted", .free "tuple", .free "isinstance", .free "str", .free "all", .free "bool"]
abbrev rw_ : PySem.W.OpenRow := PySem.W.OpenLaw.row PySem.Challenge.rw_chaincore_k76_fibre
abbrev hk : PySem.W.Hook := He.hookD 4 fa fn
def ob (s : PySem.W.SharedT) : He.AlD := He.obsDG 4 fa fn (HandSHeadRun.getT s)
theorem ob_eq (s : PySem.W.SharedT) : ob s = hk.obs s.abs := He.obsDG_eq (HandSHeadRun.getT_eq s)
def loose : List Str := ["_law_reader", "_law_mixed", "_law_draw", "_law_below_by", "_law_great", "_law_shuffled", "_law_closed", "_law_drawn", "_law_over", "_law_case", "_law_told", "at_most_table", "fibre", "_law_same"]
theorem run (w : World) : HandSHeadRun.RunEq rw_ (PySem.W.view rw_.prog [16]) hk ob 1080 loose w := by
  intro os
  kernel_rfl
theorem facts {P : Program} {w : World} {K : PySem.W.Frag} {h : Heap} {mg : Str → Option Value} {f : Addr} (X : K.In h) (G : h.Ns mainGlobals mg) (hfa : mg ("law" : Str) = some (.ref f)) (c : He.SaysD fa fn K) :
    ∃ fd : FuncData, (∀ (s : Shared) (v : Value), BindsTo s fd ⟨[v], []⟩ [("script", v)]) ∧ ∀ base : Heap, K.In base → base.Ns mainGlobals mg → FnOk P w K mg base CX0 6 f fd ["script"] (spP (fun a : List Int × Unit => [scrS K a.1]) M_law fun b => sh (boolS b)) := by
  obtain ⟨fd__law_reader, F__law_reader⟩ := c.def_ 0 (d := dd__law_reader) rfl
  obtain ⟨fd__law_mixed, F__law_mixed⟩ := c.def_ 1 (d := dd__law_mixed) rfl
  obtain ⟨fd__law_draw, F__law_draw⟩ := c.def_ 2 (d := dd__law_draw) rfl
  obtain ⟨fd__law_below_by, F__law_below_by⟩ := c.def_ 3 (d := dd__law_below_by) rfl
  obtain ⟨fd__law_great, F__law_great⟩ := c.def_ 4 (d := dd__law_great) rfl
  obtain ⟨fd__law_shuffled, F__law_shuffled⟩ := c.def_ 5 (d := dd__law_shuffled) rfl
  obtain ⟨fd__law_closed, F__law_closed⟩ := c.def_ 6 (d := dd__law_closed) rfl
  obtain ⟨fd__law_drawn, F__law_drawn⟩ := c.def_ 7 (d := dd__law_drawn) rfl
  obtain ⟨fd__law_over, F__law_over⟩ := c.def_ 8 (d := dd__law_over) rfl
  obtain ⟨fd__law_case, F__law_case⟩ := c.def_ 9 (d := dd__law_case) rfl
  obtain ⟨fd__law_told, F__law_told⟩ := c.def_ 10 (d := dd__law_told) rfl
  obtain ⟨fd_at_most_table, F_at_most_table⟩ := c.def_ 11 (d := dd_at_most_table) rfl
  obtain ⟨fd_fibre, F_fibre⟩ := c.def_ 12 (d := dd_fibre) rfl
  obtain ⟨w_fibre, v_fibre, b_fibre⟩ := FunD.binds0 (ps := ["first", "second", "row", "q", "side"]) F_fibre 4 (List.cons_ne_nil _ _) rfl fun D doc pm an cdv ct us ks l1 l2 => match us, l1, ks, l2 with | [_, _, _, _], _, [_], _ => ⟨_, _, _, _, _, _, rfl, rfl, rfl⟩
  obtain ⟨_, k4_fibre⟩ := FunD.kbinds0 (ps := ["first", "second", "row", "q", "side"]) F_fibre 4 ["side"] [] (fun us _ ws => us ++ ws) (List.cons_ne_nil _ _) (fun _ h => nomatch h) (fun r _ q => r.append q) fun D doc pm an cdv ct us mv ws l1 l2 l3 => match us, l1, mv, l2, ws, l3 with | [_, _, _, _], _, [], _, [_], _ => rfl
  obtain ⟨_, k0_fibre⟩ := FunD.kbinds0 (ps := ["first", "second", "row", "q", "side"]) F_fibre 0 ["first", "second", "row", "q", "side"] [] (fun us _ ws => us ++ ws) (List.cons_ne_nil _ _) (fun _ h => nomatch h) (fun r _ q => r.append q) fun D doc pm an cdv ct us mv ws l1 l2 l3 => match us, l1, mv, l2, ws, l3 with | [], _, [], _, [_, _, _, _, _], _ => rfl
  obtain ⟨fd__law_same, F__law_same⟩ := c.def_ 13 (d := dd__law_same) rfl
  obtain ⟨fd_law, F_law⟩ := c.def_ 14 (d := dd_law) rfl
  have T : Tx K mg := { a__law_reader := _, d__law_reader := fd__law_reader, F__law_reader := F__law_reader, b__law_reader := FunD.bindsN F__law_reader (fun _ _ _ _ _ _ us hl => match us, hl with | [_], _ => rfl), g__law_reader := He.glo_ok X G (c.fact 0 (f := .glo "_law_reader") rfl), a__law_mixed := _, d__law_mixed := fd__law_mixed, F__law_mixed := F__law_mixed, b__law_mixed := FunD.bindsN F__law_mixed (fun _ _ _ _ _ _ us hl => match us, hl with | [_, _, _], _ => rfl), g__law_mixed := He.glo_ok X G (c.fact 1 (f := .glo "_law_mixed") rfl), a__law_draw := _, d__law_draw := fd__law_draw, F__law_draw := F__law_draw, b__law_draw := FunD.bindsN F__law_draw (fun _ _ _ _ _ _ us hl => match us, hl with | [_, _], _ => rfl), g__law_draw := He.glo_ok X G (c.fact 2 (f := .glo "_law_draw") rfl), a__law_below_by := _, d__law_below_by := fd__law_below_by, F__law_below_by := F__law_below_by, b__law_below_by := FunD.bindsN F__law_below_by (fun _ _ _ _ _ _ us hl => match us, hl with | [_], _ => rfl), g__law_below_by := He.glo_ok X G (c.fact 3 (f := .glo "_law_below_by") rfl), a__law_great := _, d__law_great := fd__law_great, F__law_great := F__law_great, b__law_great := FunD.bindsN F__law_great (fun _ _ _ _ _ _ us hl => match us, hl with | [_], _ => rfl), g__law_great := He.glo_ok X G (c.fact 4 (f := .glo "_law_great") rfl), a__law_shuffled := _, d__law_shuffled := fd__law_shuffled, F__law_shuffled := F__law_shuffled, b__law_shuffled := FunD.bindsN F__law_shuffled (fun _ _ _ _ _ _ us hl => match us, hl with | [_, _], _ => rfl), g__law_shuffled := He.glo_ok X G (c.fact 5 (f := .glo "_law_shuffled") rfl), a__law_closed := _, d__law_closed := fd__law_closed, F__law_closed := F__law_closed, b__law_closed := FunD.bindsN F__law_closed (fun _ _ _ _ _ _ us hl => match us, hl with | [_, _], _ => rfl), g__law_closed := He.glo_ok X G (c.fact 6 (f := .glo "_law_closed") rfl), a__law_drawn := _, d__law_drawn := fd__law_drawn, F__law_drawn := F__law_drawn, b__law_drawn := FunD.bindsN F__law_drawn (fun _ _ _ _ _ _ us hl => match us, hl with | [_, _, _], _ => rfl), g__law_drawn := He.glo_ok X G (c.fact 7 (f := .glo "_law_drawn") rfl), a__law_over := _, d__law_over := fd__law_over, F__law_over := F__law_over, b__law_over := FunD.bindsN F__law_over (fun _ _ _ _ _ _ us hl => match us, hl with | [_, _, _], _ => rfl), g__law_over := He.glo_ok X G (c.fact 8 (f := .glo "_law_over") rfl), a__law_case := _, d__law_case := fd__law_case, F__law_case := F__law_case, b__law_case := FunD.bindsN F__law_case (fun _ _ _ _ _ _ us hl => match us, hl with | [_], _ => rfl), g__law_case := He.glo_ok X G (c.fact 9 (f := .glo "_law_case") rfl), a__law_told := _, d__law_told := fd__law_told, F__law_told := F__law_told, b__law_told := FunD.bindsN F__law_told (fun _ _ _ _ _ _ us hl => match us, hl with | [_], _ => rfl), g__law_told := He.glo_ok X G (c.fact 10 (f := .glo "_law_told") rfl), a_at_most_table := _, d_at_most_table := fd_at_most_table, F_at_most_table := F_at_most_table, b_at_most_table := FunD.bindsN F_at_most_table (fun _ _ _ _ _ _ us hl => match us, hl with | [_], _ => rfl), g_at_most_table := He.glo_ok X G (c.fact 11 (f := .glo "at_most_table") rfl), a_fibre := _, d_fibre := fd_fibre, F_fibre := F_fibre, w_fibre := w_fibre, v_fibre := v_fibre, b_fibre := b_fibre, k4_fibre := k4_fibre, k0_fibre := k0_fibre, g_fibre := He.glo_ok X G (c.fact 12 (f := .glo "fibre") rfl), a__law_same := _, d__law_same := fd__law_same, F__law_same := F__law_same, b__law_same := FunD.bindsN F__law_same (fun _ _ _ _ _ _ us hl => match us, hl with | [_, _], _ => rfl), g__law_same := He.glo_ok X G (c.fact 13 (f := .glo "_law_same") rfl), a_law := _, d_law := fd_law, F_law := F_law, b_law := FunD.bindsN F_law (fun _ _ _ _ _ _ us hl => match us, hl with | [_], _ => rfl), g_law := He.glo_ok X G (c.fact 14 (f := .glo "law") rfl), m_list := He.free_ok X G (c.fact 15 (f := .free "list") rfl), m_int := He.free_ok X G (c.fact 16 (f := .free "int") rfl), m_sum := He.free_ok X G (c.fact 17 (f := .free "sum") rfl), m_len := He.free_ok X G (c.fact 18 (f := .free "len") rfl), m_abs := He.free_ok X G (c.fact 19 (f := .free "abs") rfl), m_range := He.free_ok X G (c.fact 20 (f := .free "range") rfl), m_sorted := He.free_ok X G (c.fact 21 (f := .free "sorted") rfl), m_tuple := He.free_ok X G (c.fact 22 (f := .free "tuple") rfl), m_isinstance := He.free_ok X G (c.fact 23 (f := .free "isinstance") rfl), m_str := He.free_ok X G (c.fact 24 (f := .free "str") rfl), m_all := He.free_ok X G (c.fact 25 (f := .free "all") rfl), m_bool := He.free_ok X G (c.fact 26 (f := .free "bool") rfl) }
  have e := hfa.symm.trans T.g_law
  cases e
  have b := FunD.bindsA (ps := ["script"]) T.F_law fun _ _ _ _ _ _ us hl => match us, hl with | [_], _ => rfl
  exact ⟨T.d_law, fun s v => b s [v] rfl, fun base _ _ => ok_law T⟩
end K76
set_option maxHeartbeats 1000000
namespace K76
open PySem PySem.Spec L2 CC
open PyProof.Rows hiding St
abbrev Rd := (List Int) × Int × Int × Int × Int × Int × Int
/-- the reader may still be asked n times -/
def RI (n : Nat) (s : Rd) : Prop := 0 ≤ s.2.1 ∧ 0 ≤ s.2.2.2.2.1 ∧ s.2.2.2.2.1 + (n : Int) ≤ 1000000000000
theorem RI.less {n m : Nat} {s : Rd} (h : RI n s) (e : m ≤ n) : RI m s := ⟨h.1, h.2.1, by have := h.2.2; omega⟩
theorem mixed_ok {x t m : Int} (hm : 0 < m) (ht : 0 ≤ t) (h2 : t ≤ 1000000000000) : Ok (M_law_mixed (x, t, m, ())) fun r => 0 ≤ r ∧ r < m := by
  unfold M_law_mixed
  simp (disch := omega) only [bassoc, sb, modO_eq, divO_eq, mulO_r, mulO_l]
  exact .one ⟨mod_lo _ hm, mod_hi _ hm⟩
theorem draw_ok {m : Int} {n : Nat} {s : Rd} (hm : 0 < m) (h2 : m < 1073741824) (h : RI (n + 1) s) : Ok (M_law_draw (m, ()) s) fun r => (0 ≤ r.1 ∧ r.1 < m) ∧ RI n r.2 := by
  obtain ⟨i1, i2, i3⟩ := h
  unfold M_law_draw
  refine Ok.bind (P := fun a => RI n a ∧ 0 ≤ a.2.2.2.2.1 ∧ a.2.2.2.2.1 ≤ 1000000000000) ?_ fun a ⟨⟨j1, j2, j3⟩, j4, j5⟩ => ?_
  · refine Ok.bind (P := fun b => b = true → s.2.1 < s.1.length) (.bif (fun _ => .one fun q => of_decide_eq_true q) fun _ => .one fun q => nomatch q) fun b hb => .bif (fun e => ?_) fun e => .one ?_
    · rw [bassoc]
      refine Ok.bind (atI_mem i1 (hb e)) fun c _ => ?_
      have h1 := mod_lo (absI c) (y := 2) (by decide)
      have h2 := mod_hi (absI c) (y := 2) (by decide)
      simp (disch := omega) only [bassoc, sb, modO_eq, divO_eq, mulO_r, mulO_l]
      refine .one ⟨⟨?_, ?_, ?_⟩, ?_, ?_⟩ <;> simp only <;> omega
    · refine ⟨⟨?_, ?_, ?_⟩, ?_, ?_⟩ <;> simp only <;> omega
  · refine .bif (fun _ => .bind (mixed_ok hm j4 j5) fun r hr => .one ⟨hr, j1, j2, j3⟩) fun _ => .bif (fun _ => .bind (mixed_ok hm j4 j5) fun r hr => .one ⟨hr, j1, j2, j3⟩) fun _ => ?_
    have e : ∀ b : Bool, -(2 ^ 64) < CC.b2i b ∧ CC.b2i b < 2 ^ 64 := fun b => by cases b <;> decide
    simp (disch := first | omega | exact (e _).1 | exact (e _).2) only [bassoc, sb, modO_eq, divO_eq, mulO_r]
    exact .one ⟨⟨mod_lo _ hm, mod_hi _ hm⟩, j1, j2, j3⟩
theorem reader_ok (ns : List Int) : Ok (M_law_reader (ns, ())) (RI 1000000) := by
  unfold M_law_reader
  simp (disch := omega) only [bassoc, sb, modO_eq]
  refine .one ⟨?_, ?_, ?_⟩ <;> simp only <;> omega
theorem shuffled_ok {n N : Nat} {s : Rd} (hn : n ≤ 1000) (h : RI (N + n) s) : Ok (M_law_shuffled ((n : Int), ()) s) fun r => r.1.Perm (rl n) ∧ RI N r.2 := by
  have hr := rng_nat (n := n) (show n ≤ 1000000 by omega)
  unfold M_law_shuffled
  simp only [bassoc, sb, bind_id, hr]
  refine .bind (foldR_ok (fun k s => RI (N + n - k) s.1 ∧ s.2.1.length + k = n ∧ (s.2.2 ++ s.2.1).Perm (rl n)) ⟨h, by rw [rl_len]; rfl, .refl _⟩ fun k s hk ⟨h1, h2, h3⟩ => ?_) fun s hs => .one ⟨?_, hs.1.less (by omega)⟩
  · refine .bind (draw_ok (n := N + n - (k + 1)) (by omega) (by omega) (h1.less (by omega))) fun r hr => ?_
    refine .bind (popAt_ok hr.1.1 hr.1.2 (by omega)) fun q hq => ?_
    have hl : s.2.2.length + s.2.1.length = n := by rw [← List.length_append, h3.length_eq, rl_len]
    rw [appM_eq (by omega)]
    refine .one ⟨hr.2, by show q.2.length + (k + 1) = n; omega, ?_⟩
    refine List.Perm.trans ?_ h3
    rw [List.append_assoc]
    exact List.Perm.append_left _ hq.1.symm
  · have : s.2.1 = [] := List.eq_nil_of_length_eq_zero (by have := hs.2.1; omega)
    have h4 := hs.2.2
    rwa [this, List.append_nil] at h4
theorem closed_ok {n : Nat} {ls : List (Int × Int)} (hn : n ≤ 1000) (hl : ∀ p ∈ ls, (0 ≤ p.1 ∧ p.1 < (n : Int)) ∧ (0 ≤ p.2 ∧ p.2 < (n : Int))) : Ok (M_law_closed ((n : Int), ls, ())) (Sq n) := by
  have hr := rng_nat (n := n) (show n ≤ 1000000 by omega)
  unfold M_law_closed
  simp only [bassoc, sb, bind_id, hr]
  refine .bind (tab_mk (g := fun _ _ => false) (by omega) fun _ _ _ _ => rfl) fun t ht => ?_
  refine .bind (fold_ok (fun _ t => Sq n t) ht.1 fun pre p s hp hs => ?_) fun t ht => ?_
  · obtain ⟨⟨a1, a2⟩, a3, a4⟩ := hl p hp
    obtain ⟨x, e1⟩ := Int.eq_ofNat_of_zero_le a1
    obtain ⟨y, e2⟩ := Int.eq_ofNat_of_zero_le a3
    obtain ⟨t', b1, b2, _⟩ := hs.set2 (x := x) (y := y) true (by omega) (by omega)
    rw [e1, e2]
    exact .of_eq b1 b2
  · refine foldR_ok (fun _ t => Sq n t) ht fun z s hz hs => foldR_ok (fun _ t => Sq n t) hs fun x s hx hs => ?_
    obtain ⟨r, r1, _, r2⟩ := hs.look hx
    obtain ⟨u, u1, _, u2⟩ := hs.look hz
    simp only [r1, u1, sb, r2 z hz]
    refine .bif (fun _ => ?_) fun _ => .one hs
    refine .bind (mapR_ok (P := fun _ _ => True) (by omega) fun y hy => ?_) fun q hq => ?_
    · rw [r2 y hy, sb, u2 y hy]
      exact .bif (fun _ => .one trivial) fun _ => .one trivial
    · obtain ⟨c1, c2⟩ := hs.setRow hx hq.1
      exact .of_eq c1 c2
theorem drawn_ok {n N : Nat} {c : Int} {s : Rd} (hn : n ≤ 60) (hc : 0 < c) (hc2 : c < 100) (h : RI (N + 10000) s) : Ok (M_law_drawn ((n : Int), c, ()) s) fun r => Sq n r.1 ∧ RI N r.2 := by
  have hr := fun (k : Nat) (hk : k ≤ 60) => rng_nat (n := k) (show k ≤ 1000000 by omega)
  unfold M_law_drawn
  simp only [bassoc, sb, bind_id, bind_eta, hr n hn]
  refine .bind (shuffled_ok (N := N + 9000) (by omega) (h.less (by omega))) fun p hp => ?_
  have rw1 := Rw.perm hp.1
  refine .bind (foldR_ok (fun k s => RI (N + 9000 - 100 * k) s.1 ∧ s.2.length ≤ 100 * k ∧ ∀ q ∈ s.2, (0 ≤ q.1 ∧ q.1 < (n : Int)) ∧ (0 ≤ q.2 ∧ q.2 < (n : Int))) ⟨hp.2, Nat.zero_le _, by simp⟩ fun k s hk hs => ?_) fun s hs => ?_
  · simp only [hr k (Nat.le_trans (Nat.le_of_lt hk) hn), sb]
    refine (foldR_ok (fun j t => RI (N + 9000 - 100 * k - j) t.1 ∧ t.2.length ≤ 100 * k + j ∧ ∀ q ∈ t.2, (0 ≤ q.1 ∧ q.1 < (n : Int)) ∧ (0 ≤ q.2 ∧ q.2 < (n : Int))) hs fun j t hj ht => ?_).mono fun t ht => ⟨ht.1.less (by omega), by have := ht.2.1; omega, ht.2.2⟩
    refine .bind (draw_ok (n := N + 9000 - 100 * k - (j + 1)) hc (by omega) (ht.1.less (by omega))) fun r hr => .bif (fun _ => ?_) fun _ => .one ⟨hr.2, by have := ht.2.1; simp only; omega, ht.2.2⟩
    obtain ⟨a1, a2⟩ := rw1.at (x := j) (by omega)
    obtain ⟨b1, b2⟩ := rw1.at (x := k) hk
    simp only [a1, b1, sb]
    rw [appM_eq (by have := ht.2.1; omega)]
    refine .one ⟨hr.2, by rw [List.length_append]; have := ht.2.1; simp only [List.length_singleton]; omega, fun q hq => ?_⟩
    rcases List.mem_append.mp hq with hq | hq
    · exact ht.2.2 q hq
    · rw [List.mem_singleton.mp hq]
      simp only
      omega
  · exact .bind (closed_ok (by omega) hs.2.2) fun t ht => .one ⟨ht, hs.1.less (by omega)⟩
theorem over_ok {n m N : Nat} {sec : List (List Bool)} {s : Rd} (hn : n ≤ 60) (hm : 0 < m) (hm2 : m ≤ 1000) (hS : Sq m sec) (h : RI (N + 10000) s) : Ok (M_law_over (sec, (n : Int), ()) s) fun r => (Sq n r.1.1 ∧ Rw n m r.1.2) ∧ RI N r.2 := by
  have hr := fun (k : Nat) (hk : k ≤ 60) => rng_nat (n := k) (show k ≤ 1000000 by omega)
  unfold M_law_over
  simp only [bassoc, sb, bind_id, bind_eta, hr n hn, hS.len]
  refine .bind (mapRE_ok (fun k s => RI (N + 10000 - k) s) (fun _ y => 0 ≤ y ∧ y < (m : Int)) (by omega) h fun k s hk hs => ?_) fun p hp => ?_
  · refine (draw_ok (n := N + 10000 - (k + 1)) (by omega) (by omega) (hs.less (by omega))).mono fun r hr => hr
  have rw0 : Rw n m p.1 := Rw.of_get hp.1 hp.2.1
  refine .bind (shuffled_ok (N := N + 9800) (by omega) (hp.2.2.less (by omega))) fun p' hp' => ?_
  have rw1 := Rw.perm hp'.1
  refine .bind (draw_ok (n := N + 9799) (by omega) (by omega) (hp'.2.less (by omega))) fun c hc => ?_
  have hc1 := hc.1
  refine .bind (foldR_ok (fun k s => RI (N + 9000 - 100 * k) s.1 ∧ s.2.length ≤ 100 * k ∧ ∀ q ∈ s.2, (0 ≤ q.1 ∧ q.1 < (n : Int)) ∧ (0 ≤ q.2 ∧ q.2 < (n : Int))) ⟨hc.2.less (by omega), Nat.zero_le _, by simp⟩ fun k s hk hs => ?_) fun s hs => ?_
  · simp only [hr k (Nat.le_trans (Nat.le_of_lt hk) hn), sb]
    refine (foldR_ok (fun j t => RI (N + 9000 - 100 * k - j) t.1 ∧ t.2.length ≤ 100 * k + j ∧ ∀ q ∈ t.2, (0 ≤ q.1 ∧ q.1 < (n : Int)) ∧ (0 ≤ q.2 ∧ q.2 < (n : Int))) hs fun j t hj ht => ?_).mono fun t ht => ⟨ht.1.less (by omega), by have := ht.2.1; omega, ht.2.2⟩
    obtain ⟨a1, a2⟩ := rw1.at (x := j) (by omega)
    obtain ⟨b1, b2⟩ := rw1.at (x := k) hk
    obtain ⟨c1, c2⟩ := rw0.at (x := rwv p'.1 j) a2
    obtain ⟨d1, d2⟩ := rw0.at (x := rwv p'.1 k) b2
    obtain ⟨e1, e2, _, e3⟩ := hS.look c2
    simp only [a1, b1, c1, d1, e2, e3 _ d2, sb]
    refine .bind (P := fun _ => True) (.bif (fun _ => .one trivial) fun _ => .one trivial) fun b _ => ?_
    refine .bind (P := fun q => RI (N + 9000 - 100 * k - (j + 1)) q.2) (.bif (fun _ => ?_) fun _ => .one (ht.1.less (by omega))) fun q hq => .bif (fun _ => ?_) fun _ => .one ⟨hq, by have := ht.2.1; simp only; omega, ht.2.2⟩
    · exact .bind (draw_ok (n := N + 9000 - 100 * k - (j + 1)) (by omega) (by omega) (ht.1.less (by omega))) fun r hr => .one hr.2
    · rw [appM_eq (by have := ht.2.1; omega)]
      refine .one ⟨hq, by rw [List.length_append]; have := ht.2.1; simp only [List.length_singleton]; omega, fun q hq => ?_⟩
      rcases List.mem_append.mp hq with hq | hq
      · exact ht.2.2 q hq
      · rw [List.mem_singleton.mp hq]
        simp only
        omega
  · exact .bind (closed_ok (by omega) hs.2.2) fun t ht => .one ⟨⟨ht, rw0⟩, hs.1.less (by omega)⟩
theorem below_ok (xs : List Int) (hl : xs.length ≤ 1000) : Ok (M_law_below_by (xs, ())) (Sq xs.length) := by
  unfold M_law_below_by
  rw [mapM_is (g := fun x => xs.map fun y => decide (x < y)) (show xs.length ≤ 1000000 by omega) fun x _ => mapM_is (show xs.length ≤ 1000000 by omega) fun y _ => rfl]
  refine .one ⟨by rw [List.length_map], fun r hr => ?_⟩
  obtain ⟨x, _, rfl⟩ := List.mem_map.mp hr
  rw [List.length_map]
def CaseOk (r : (List (List Bool)) × (List (List Bool)) × (List Int)) : Prop := ∃ n m : Nat, n ≤ 64 ∧ 0 < m ∧ m ≤ 64 ∧ Sq n r.1 ∧ Sq m r.2.1 ∧ Rw n m r.2.2
theorem great_ok {N : Nat} {s : Rd} (h : RI (N + 10) s) : Ok (M_law_great () s) fun r => CaseOk r.1 ∧ RI N r.2 := by
  unfold M_law_great
  simp only [bassoc, sb, bind_id, bind_eta]
  refine .bind (draw_ok (n := N + 9) (by omega) (by omega) (h.less (by omega))) fun n0 hn0 => ?_
  refine .bind (draw_ok (n := N + 8) (by omega) (by omega) (hn0.2.less (by omega))) fun m0 hm0 => ?_
  refine .bind (draw_ok (n := N + 7) (by omega) (by omega) (hm0.2.less (by omega))) fun a ha => ?_
  obtain ⟨n, en⟩ := Int.eq_ofNat_of_zero_le (a := 1 + n0.1) (by have := hn0.1.1; omega)
  obtain ⟨m, em⟩ := Int.eq_ofNat_of_zero_le (a := 1 + m0.1) (by have := hm0.1.1; omega)
  have hn : n ≤ 64 := by have := hn0.1.2; omega
  have hm : m ≤ 64 := by have := hm0.1.2; omega
  have hm1 : 0 < m := by have := hm0.1.1; omega
  simp only [en, em, rng_nat (n := n) (show n ≤ 1000000 by omega), rng_nat (n := m) (show m ≤ 1000000 by omega), sb]
  have ha1 := ha.1
  refine .bind (mapR_ok (P := fun _ _ => True) (by omega) fun k hk => ?_) fun xs hxs => ?_
  · simp (disch := omega) only [mulO_r, modO_eq, sb]
    exact .one trivial
  refine .bind (below_ok xs (by omega)) fun sec hsec => ?_
  rw [hxs.1] at hsec
  refine .bind (mapR_ok (P := fun _ (y : Int × Int) => 0 ≤ y.2 ∧ y.2 < (m : Int)) (by omega) fun k hk => ?_) fun prs hprs => ?_
  · simp (disch := omega) only [mulO_r, modO_eq, sb]
    refine .one ?_
    simp only
    omega
  have pperm : (sortP prs).Perm prs := isort_perm leP prs
  have plen : (sortP prs).length = m := by rw [pperm.length_eq, hprs.1]
  have pmem : ∀ y ∈ sortP prs, 0 ≤ y.2 ∧ y.2 < (m : Int) := fun y hy => by
    obtain ⟨k, hk⟩ := List.mem_iff_getElem?.mp (pperm.mem_iff.mp hy)
    exact hprs.2 k y hk
  refine .bind (draw_ok (n := N + 6) (by omega) (by omega) (ha.2.less (by omega))) fun d hd => .bif (fun _ => ?_) fun _ => ?_
  · refine .bind (mapR_ok (P := fun _ (y : Int) => 0 ≤ y ∧ y < (71 : Int)) (by omega) fun k hk => ?_) fun st hst => ?_
    · simp (disch := omega) only [mulO_r, modO_eq, sb]
      exact .one ⟨mod_lo _ (by omega), mod_hi _ (by omega)⟩
    have rst : Rw n 71 st := Rw.of_get hst.1 hst.2
    refine .bind (mapR_ok (P := fun _ (y : Int) => 0 ≤ y ∧ y < (m : Int)) (by omega) fun k hk => ?_) fun row hrow => ?_
    · obtain ⟨a1, a2⟩ := rst.at hk
      rw [a1, sb]
      have h70 : (rwv st k : Int) * m ≤ 70 * m := Int.mul_le_mul_of_nonneg_right (by omega) (by omega)
      have h0 : 0 ≤ (rwv st k : Int) * m := Int.mul_nonneg (by omega) (by omega)
      rw [mulO_r (by omega) (by omega), sb, divO_eq (by omega) (by omega), sb]
      refine .bind (atI_mem (Int.ediv_nonneg h0 (by omega)) ?_) fun y hy => .one (pmem y hy)
      rw [plen]
      exact Int.ediv_lt_of_lt_mul (by omega) (by omega)
    refine .bind (below_ok st (by have := hst.1; omega)) fun t ht => .one ⟨⟨n, m, hn, hm1, hm, ?_, hsec, Rw.of_get hrow.1 hrow.2⟩, hd.2.less (by omega)⟩
    rw [hst.1] at ht
    exact ht
  · refine .bind (draw_ok (n := N) (by omega) (by omega) (hd.2.less (by omega))) fun b hb => ?_
    have hb1 := hb.1
    refine .bind (tab_mk (g := fun _ _ => false) (by omega) fun _ _ _ _ => rfl) fun t ht => ?_
    refine .bind (mapR_ok (P := fun _ (y : Int) => 0 ≤ y ∧ y < (m : Int)) (by omega) fun k hk => ?_) fun row hrow => .one ⟨⟨n, m, hn, hm1, hm, ht.1, hsec, Rw.of_get hrow.1 hrow.2⟩, hb.2⟩
    simp (disch := omega) only [mulO_r, modO_eq, sb]
    exact .one ⟨mod_lo _ (by omega), mod_hi _ (by omega)⟩
theorem case_ok {N : Nat} {s : Rd} (h : RI (N + 100000) s) : Ok (M_law_case () s) fun r => CaseOk r.1 ∧ RI N r.2 := by
  unfold M_law_case
  simp only [bassoc, sb, bind_id, bind_eta]
  refine .bind (draw_ok (n := N + 90000) (by omega) (by omega) (h.less (by omega))) fun d hd => .bif (fun _ => (great_ok (hd.2.less (by omega))).mono fun r hr => ⟨hr.1, hr.2⟩) fun _ => ?_
  refine .bind (draw_ok (n := N + 80000) (by omega) (by omega) (hd.2.less (by omega))) fun m0 hm0 => ?_
  refine .bind (draw_ok (n := N + 70000) (by omega) (by omega) (hm0.2.less (by omega))) fun c hc => ?_
  obtain ⟨m, em⟩ := Int.eq_ofNat_of_zero_le (a := 1 + m0.1) (by have := hm0.1.1; omega)
  have hm : m ≤ 6 := by have := hm0.1.2; omega
  have hm1 : 0 < m := by have := hm0.1.1; omega
  have hc1 := hc.1
  simp only [em]
  refine .bind (drawn_ok (N := N + 50000) (by omega) (by omega) (by omega) (hc.2.less (by omega))) fun sec hsec => ?_
  refine .bind (draw_ok (n := N + 40000) (by omega) (by omega) (hsec.2.less (by omega))) fun n0 hn0 => ?_
  obtain ⟨n, en⟩ := Int.eq_ofNat_of_zero_le hn0.1.1
  have hn : n ≤ 9 := by have := hn0.1.2; omega
  rw [en]
  exact .bind (over_ok (N := N) (by omega) hm1 (by omega) hsec.1 (hn0.2.less (by omega))) fun r hr => .one ⟨⟨n, m, by omega, hm1, by omega, hr.1.1, hsec.1, hr.1.2⟩, hr.2⟩
/-- what is told of a table -/
theorem told_ok {n : Nat} {t : List (List Bool)} (hn : n ≤ 64) (h : Sq n t) : Ok (M_law_told (t, ())) fun r => r.1 = (n : Int) ∧ r.2.length ≤ 10000 ∧ (∀ p ∈ r.2, (0 ≤ p.1 ∧ p.1 < (n : Int)) ∧ (0 ≤ p.2 ∧ p.2 < (n : Int))) ∧ ∀ x y : Nat, x < n → y < n → (((x : Int), (y : Int)) ∈ r.2 ↔ gt t x y = true) := by
  have hr := rng_nat (n := n) (show n ≤ 1000000 by omega)
  unfold M_law_told
  simp only [bassoc, sb, bind_id, h.len, hr]
  refine .bind (foldR_ok (fun k (s : List (Int × Int)) => s.length ≤ 100 * k ∧ (∀ p ∈ s, (0 ≤ p.1 ∧ p.1 < (n : Int)) ∧ (0 ≤ p.2 ∧ p.2 < (n : Int))) ∧ ∀ x y : Nat, x < n → y < n → (((x : Int), (y : Int)) ∈ s ↔ (x < k ∧ gt t x y = true))) ⟨Nat.zero_le _, by simp, by simp⟩ fun k s hk hs => ?_) fun s hs => .one ⟨rfl, by have := hs.1; simp only; omega, hs.2.1, fun x y hx hy => by rw [hs.2.2 x y hx hy]; exact ⟨fun q => q.2, fun q => ⟨hx, q⟩⟩⟩
  obtain ⟨r, r1, _, r2⟩ := h.look hk
  rw [compM_eq (p := fun y => gt t k y.toNat) (g := fun y => ((k : Int), y)) (by rw [rl_len]; omega) (fun x hx => by
    obtain ⟨j, hj, rfl⟩ := rl_mem.mp hx
    rw [r1, sb, r2 j hj, Int.toNat_natCast]) fun x hx _ => rfl]
  have hl : ((List.filter (fun y => gt t k y.toNat) (rl n)).map fun y => ((k : Int), y)).length ≤ n := by
    rw [List.length_map]
    have := List.length_filter_le (fun y => gt t k y.toNat) (rl n)
    rw [rl_len] at this
    exact this
  have hs1 := hs.1
  rw [sb, catM_eq (by omega)]
  refine .one ⟨by rw [List.length_append]; omega, fun p hp => ?_, fun x y hx hy => ?_⟩
  · rcases List.mem_append.mp hp with hp | hp
    · exact hs.2.1 p hp
    · obtain ⟨j, hj, rfl⟩ := List.mem_map.mp hp
      obtain ⟨j, hj, rfl⟩ := rl_mem.mp (List.mem_filter.mp hj).1
      simp only
      omega
  · rw [List.mem_append, hs.2.2 x y hx hy]
    constructor
    · rintro (⟨q1, q2⟩ | q)
      · exact ⟨by omega, q2⟩
      · obtain ⟨j, hj, e⟩ := List.mem_map.mp q
        obtain ⟨hj1, hj2⟩ := List.mem_filter.mp hj
        obtain ⟨e1, e2⟩ := Prod.mk.inj e
        rw [e2, Int.toNat_natCast] at hj2
        have : k = x := by omega
        rw [this] at hj2
        exact ⟨by omega, hj2⟩
    · rintro ⟨q1, q2⟩
      by_cases e : x < k
      · exact .inl ⟨e, q2⟩
      · have ek : x = k := by omega
        refine .inr (List.mem_map.mpr ⟨(y : Int), List.mem_filter.mpr ⟨rl_mem.mpr ⟨y, hy, rfl⟩, ?_⟩, by rw [ek]⟩)
        rw [Int.toNat_natCast, ← ek]
        exact q2
/-- the table of such an order -/
theorem table_ok {m : Nat} {t : List (List Bool)} {ps : List (Int × Int)} (hm : m ≤ 64) (h1 : ∀ p ∈ ps, (0 ≤ p.1 ∧ p.1 < (m : Int)) ∧ (0 ≤ p.2 ∧ p.2 < (m : Int))) (h2 : ∀ x y : Nat, x < m → y < m → (((x : Int), (y : Int)) ∈ ps ↔ gt t x y = true)) :
    Ok (M_at_most_table (((m : Int), ps), ())) fun u => Sq m u ∧ ∀ x y : Nat, x < m → y < m → gt u x y = (decide ((x : Int) = y) || gt t x y) := by
  have hr := rng_nat (n := m) (show m ≤ 1000000 by omega)
  unfold M_at_most_table
  simp only [bassoc, sb, bind_id, hr]
  refine .bind (tab_mk (g := fun x y => decide ((x : Int) = y)) (by omega) fun _ _ _ _ => rfl) fun u hu => ?_
  refine (fold_ok (fun pre u => Sq m u ∧ ∀ x y : Nat, x < m → y < m → gt u x y = (decide ((x : Int) = y) || decide (((x : Int), (y : Int)) ∈ pre))) ⟨hu.1, fun x y hx hy => by rw [hu.2 x y hx hy]; simp⟩ fun pre p s hp hs => ?_).mono fun u hu => ⟨hu.1, fun x y hx hy => ?_⟩
  · obtain ⟨⟨a1, a2⟩, a3, a4⟩ := h1 p hp
    obtain ⟨p1, p2⟩ := p
    obtain ⟨i, rfl⟩ := Int.eq_ofNat_of_zero_le a1
    obtain ⟨j, rfl⟩ := Int.eq_ofNat_of_zero_le a3
    simp only at a2 a4
    obtain ⟨t', b1, b2, b3⟩ := hs.1.set2 (x := i) (y := j) true (by omega) (by omega)
    refine .of_eq b1 ⟨b2, fun x y hx hy => ?_⟩
    rw [b3]
    by_cases e : x = i ∧ y = j
    · rw [if_pos e, e.1, e.2]
      simp
    · rw [if_neg e, hs.2 x y hx hy]
      have : ¬ (((x : Int), (y : Int)) = ((i : Int), (j : Int))) := fun q => e ⟨by have := (Prod.mk.inj q).1; omega, by have := (Prod.mk.inj q).2; omega⟩
      simp only [List.mem_append, List.mem_singleton, this, or_false]
  · rw [hu.2 x y hx hy]
    congr 1
    have := h2 x y hx hy
    cases hg : gt t x y with
    | true => rw [hg] at this; exact decide_eq_true (this.mpr rfl)
    | false => rw [hg] at this; exact decide_eq_false fun q => nomatch this.mp q
def low (n : Nat) (t : List (List Bool)) (row : List Int) (q : Nat) : List Int := (rl n).filter fun x => decide ((rwv row x.toNat : Int) = q) || gt t (rwv row x.toNat) q
def high (n : Nat) (t : List (List Bool)) (row : List Int) (q : Nat) : List Int := (rl n).filter fun x => decide ((rwv row x.toNat : Int) = q) || gt t q (rwv row x.toNat)
structure Tl (m : Nat) (t : List (List Bool)) (ps : List (Int × Int)) : Prop where
  lo : ∀ p ∈ ps, (0 ≤ p.1 ∧ p.1 < (m : Int)) ∧ (0 ≤ p.2 ∧ p.2 < (m : Int))
  iff : ∀ x y : Nat, x < m → y < m → (((x : Int), (y : Int)) ∈ ps ↔ gt t x y = true)
theorem fibre_low {n m q : Nat} {p1 p2 : List (Int × Int)} {t : List (List Bool)} {row : List Int} (hn : n ≤ 64) (hm : m ≤ 64) (h : Tl m t p2) (hr : Rw n m row) (hq : q < m) : M_fibre (((n : Int), p1), ((m : Int), p2), row, (q : Int), Str.ofString "below", ()) = some (low n t row q) := by
  obtain ⟨u, e, hu⟩ := table_ok hm h.lo h.iff
  unfold M_fibre
  simp only [e, sb, bind_id, rng_nat (n := n) (show n ≤ 1000000 by omega), decide_true, cond_true]
  rw [compM_eq (p := fun x => decide ((rwv row x.toNat : Int) = q) || gt t (rwv row x.toNat) q) (g := fun x => x) (by rw [rl_len]; omega) (fun x hx => by
    obtain ⟨j, hj, rfl⟩ := rl_mem.mp hx
    obtain ⟨a1, a2⟩ := hr.at hj
    obtain ⟨r, r1, _, r2⟩ := hu.1.look a2
    rw [a1, sb, r1, sb, r2 q hq, Int.toNat_natCast, hu.2 _ _ a2 hq]) fun x _ _ => rfl, List.map_id']
  rfl
theorem fibre_high {n m q : Nat} {p1 p2 : List (Int × Int)} {t : List (List Bool)} {row : List Int} (hn : n ≤ 64) (hm : m ≤ 64) (h : Tl m t p2) (hr : Rw n m row) (hq : q < m) : M_fibre (((n : Int), p1), ((m : Int), p2), row, (q : Int), Str.ofString "above", ()) = some (high n t row q) := by
  obtain ⟨u, e, hu⟩ := table_ok hm h.lo h.iff
  unfold M_fibre
  simp only [e, sb, bind_id, rng_nat (n := n) (show n ≤ 1000000 by omega), show decide (Str.ofString "above" = Str.ofString "below") = false by decide +kernel, cond_false]
  obtain ⟨r, r1, _, r2⟩ := hu.1.look hq
  rw [compM_eq (p := fun x => decide ((rwv row x.toNat : Int) = q) || gt t q (rwv row x.toNat)) (g := fun x => x) (by rw [rl_len]; omega) (fun x hx => by
    obtain ⟨j, hj, rfl⟩ := rl_mem.mp hx
    obtain ⟨a1, a2⟩ := hr.at hj
    rw [r1, sb, a1, sb, r2 _ a2, Int.toNat_natCast, hu.2 _ _ hq a2]
    congr 2
    exact decide_eq_decide.mpr eq_comm) fun x _ _ => rfl, List.map_id']
  rfl
theorem same_ok {xs : List Int} (h : xs.length ≤ 1000000) : M_law_same (xs, xs, ()) = some true := by
  unfold M_law_same
  simp only [bassoc, sb, decide_true, Bool.not_true, cond_false, rng_nat (n := xs.length) h]
  rw [mapM_is (g := fun _ => true) (by rw [rl_len]; exact h) fun x hx => ?_]
  · rw [sb]
    congr 1
    rw [List.all_map]
    exact List.all_eq_true.mpr fun _ _ => rfl
  · obtain ⟨j, hj, rfl⟩ := rl_mem.mp hx
    rw [atI_nat hj, sb, sb]
    unfold M_law_same_1
    simp
theorem low_len {n : Nat} {t : List (List Bool)} {row : List Int} {q : Nat} (hn : n ≤ 64) : (low n t row q).length ≤ 1000000 := by
  have := List.length_filter_le (fun x : Int => decide ((rwv row x.toNat : Int) = q) || gt t (rwv row x.toNat) q) (rl n)
  rw [rl_len] at this
  show (List.filter _ _).length ≤ _
  omega
theorem high_len {n : Nat} {t : List (List Bool)} {row : List Int} {q : Nat} (hn : n ≤ 64) : (high n t row q).length ≤ 1000000 := by
  have := List.length_filter_le (fun x : Int => decide ((rwv row x.toNat : Int) = q) || gt t q (rwv row x.toNat)) (rl n)
  rw [rl_len] at this
  show (List.filter _ _).length ≤ _
  omega
theorem law_ok (ns : List Int) (h : ns.length ≤ 63) : M_law (ns, ()) = some true := by
  refine Ok.eq_some ?_
  unfold M_law
  simp only [bassoc, sb, bind_id, bind_eta]
  refine .bind (reader_ok ns) fun s hs => ?_
  refine .bind (case_ok (N := 1000) (hs.less (by omega))) fun c hc => ?_
  obtain ⟨⟨n, m, hn, hm0, hm, hA, hB, hR⟩, hI⟩ := hc
  refine .bind (told_ok hn hA) fun ta hta => .bind (told_ok hm hB) fun tb htb => ?_
  obtain ⟨ta1, ta2⟩ := ta
  obtain ⟨tb1, tb2⟩ := tb
  obtain ⟨e1, _⟩ := hta
  obtain ⟨e2, _, l1, l2⟩ := htb
  simp only at e1 e2 l1 l2
  subst e1 e2
  have tl : Tl m c.1.2.1 tb2 := ⟨l1, l2⟩
  simp only [hB.len, hR.len, rng_nat (n := n) (show n ≤ 1000000 by omega), rng_nat (n := m) (show m ≤ 1000000 by omega), sb]
  refine .bind (P := fun a => a.2.length ≤ 1000 ∧ ∀ x ∈ a.2, 0 ≤ x ∧ x < (m : Int)) (.bif (fun _ => ?_) fun _ => .one ⟨by show (rl m).length ≤ 1000; rw [rl_len]; omega, fun x hx => ?_⟩) fun a ha => ?_
  · rw [show rng 0 5 = some (rl 5) from rng_nat (n := 5) (by decide), sb]
    refine .bind (mapRE_ok (fun k s => RI (1000 - k) s) (fun _ y => 0 ≤ y ∧ y < (m : Int)) (by omega) hI fun k s hk hs => (draw_ok (n := 1000 - (k + 1)) (by omega) (by omega) (hs.less (by omega))).mono fun r hr => hr) fun p hp => .one ⟨by simp only; omega, fun x hx => ?_⟩
    obtain ⟨k, hk⟩ := List.mem_iff_getElem?.mp hx
    exact hp.2.1 k x hk
  · obtain ⟨k, hk, rfl⟩ := rl_mem.mp hx
    omega
  rw [catM_eq (by rw [List.length_reverse]; have := ha.1; omega), sb]
  have hpt : ∀ x ∈ a.2 ++ a.2.reverse, ∃ q : Nat, q < m ∧ x = (q : Int) := fun x hx => by
    have hx' : x ∈ a.2 := by
      rcases List.mem_append.mp hx with z | z
      · exact z
      · exact List.mem_reverse.mp z
    obtain ⟨h1, h2⟩ := ha.2 x hx'
    obtain ⟨q, rfl⟩ := Int.eq_ofNat_of_zero_le h1
    exact ⟨q, by omega, rfl⟩
  have bor : ∀ b c : Bool, (bif b then some true else some c) = some (b || c) := fun b c => by cases b <;> rfl
  rw [loop_unit fun x hx => ?_]
  · have r0 : Rw 0 m [] := ⟨rfl, by simp⟩
    have f0 : M_fibre (((0 : Int), []), ((m : Int), tb2), [], (0 : Int), Str.ofString "below", ()) = some [] := fibre_low (n := 0) (q := 0) (by omega) hm tl r0 hm0
    have f1 : M_fibre (((0 : Int), []), ((m : Int), tb2), [], (0 : Int), Str.ofString "above", ()) = some [] := fibre_high (n := 0) (q := 0) (by omega) hm tl r0 hm0
    have s0 : M_law_same ([], [], ()) = some true := same_ok (by decide)
    simp only [sb, Out.k, f0, f1, s0, cond_true]
    exact .one rfl
  · obtain ⟨q, hq, rfl⟩ := hpt x hx
    rw [compM_eq (p := fun x => decide ((rwv c.1.2.2 x.toNat : Int) = q) || gt c.1.2.1 (rwv c.1.2.2 x.toNat) q) (g := fun x => x) (by rw [rl_len]; omega) (fun x hx => by
      obtain ⟨j, hj, rfl⟩ := rl_mem.mp hx
      obtain ⟨a1, a2⟩ := hR.at hj
      obtain ⟨r, r1, _, r2⟩ := hB.look a2
      simp only [a1, sb, r1, r2 q hq, Int.toNat_natCast]
      exact bor _ _) fun x _ _ => rfl, List.map_id', sb]
    rw [compM_eq (p := fun x => decide ((rwv c.1.2.2 x.toNat : Int) = q) || gt c.1.2.1 q (rwv c.1.2.2 x.toNat)) (g := fun x => x) (by rw [rl_len]; omega) (fun x hx => by
      obtain ⟨j, hj, rfl⟩ := rl_mem.mp hx
      obtain ⟨a1, a2⟩ := hR.at hj
      obtain ⟨r, r1, _, r2⟩ := hB.look hq
      simp only [a1, sb, r1, r2 _ a2, Int.toNat_natCast]
      exact bor _ _) fun x _ _ => rfl, List.map_id', sb]
    have f0 := fibre_low (p1 := ta2) hn hm tl hR hq
    have f1 := fibre_high (p1 := ta2) hn hm tl hR hq
    have s0 := same_ok (low_len (n := n) (t := c.1.2.1) (row := c.1.2.2) (q := q) hn)
    have s1 := same_ok (high_len (n := n) (t := c.1.2.1) (row := c.1.2.2) (q := q) hn)
    unfold low at f0 s0
    unfold high at f1 s1
    simp only [f0, f1, sb, s0, s1, Bool.not_true, cond_false]
end K76
open PySem PySem.W PySem.Calls PyProof.Rows in
set_option maxHeartbeats 0 in
theorem PySem.Challenge.cw_chaincore_k76_fibre_holds : PySem.Challenge.rw_chaincore_k76_fibre.Holds := by
  w_on; o_law
  refine HandSHeadRun.head_any (r := OpenLaw.row PySem.Challenge.rw_chaincore_k76_fibre) (q := view (OpenLaw.row PySem.Challenge.rw_chaincore_k76_fibre).prog [16]) (H := K76.hk) (ob := K76.ob) (M := 1080) (loose := K76.loose) (d := HandSHeadRun.topDef (OpenLaw.row PySem.Challenge.rw_chaincore_k76_fibre).prog 16) (kwd := []) K76.ob_eq
    (by kernel_rfl) (fun s => by kernel_rfl) K76.run (by kernel_rfl) (by kernel_rfl) (by kernel_rfl) (by rfl) (by first | assumption | decide +kernel) (by decide +kernel) ⟨rfl, rfl, rfl, rfl, rfl, by decide +kernel⟩ ?hw ?hc
  case hw => w_witness2
  case hc =>
    refine L2.walk_ofE (l := PySem.Challenge.rw_chaincore_k76_fibre) (n := 63) (k := 6) (x := "script") (CX := L2.CX0) rfl (by decide) (by kernel_rfl) ⟨rfl, by decide, by decide⟩ ?F (fun _ _ _ _ z => z)
    intro w mg fa h Y G hmg0
    obtain ⟨K, KX, c⟩ := Y
    have hmg : mg ("law" : PySem.Str) = some (.ref fa) := by
      have e : (HandSHeadRun.topDef (OpenLaw.row PySem.Challenge.rw_chaincore_k76_fibre).prog 16).name = ("law" : PySem.Str) := by kernel_rfl
      rw [← e]
      exact hmg0
    obtain ⟨fd, hb, hF⟩ := K76.facts (P := (PySem.Challenge.rw_chaincore_k76_fibre).prog) (w := w) KX G hmg c
    exact ⟨K, fd, _, KX, hb, fun H a ns hl _ hS => CC.law_in hS (K76.law_ok ns hl), hF⟩
