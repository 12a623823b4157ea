import PyProof.Rows.All
import Wide.All
import OpenK.AllK
import Wide.FinOn
import HandS.ForMost
import HandS.Wide
import HandS.Exc
import HandS.ExcOwn
import HandS.TryOnly
import HandS.Dict
import HandS.IsInst
import HandS.SortRule
import HandS.Conv
import HandS.Style
import HandS.Defaults
import HandS.Small
import HandS.HeadHook1
import HandS.TupAny
import HandS.WordsDict
import HandS.MakeKwOnly
import HandS.SortInts
import HandS.HeadHook2
import HandS.Head2
import HandS.HeadEnd
import HandS.ExcIs
import KE.KExcIs
import KE.GoesMore
import KE.GoesEnum
import HandS.Iter
import HandS.WideBits
import HandS.More
import HandS.TupLe
import HandS.SetFor
import PyProof.AutoSeq1
import KE.KRevSl
import HandS.ExcInit
import HandS.Nested
import KE.KExcSuper
import KE.KSuper
import HandS.ExcField
import KE.KTupSum
import HandS.DictComp
import KE.KBits
import PySem.Challenge.RW_chaincore_k59_whole_lefschetz_of_led_map
set_option Elab.async false
set_option linter.all false
set_option maxRecDepth 100000
set_option maxHeartbeats 4000000
/-! A logic over the hand layer: worlds, what is shared, what is owned, and how a piece of Python follows its mirror. -/
namespace CC
open PySem PySem.Spec L2
open PyProof.Rows hiding St
/-! ### worlds -/
/-- the tracked heap, and the part of it that nobody changes any more -/
structure Wd where
  H : Hp
  B : Hp
def Ex (H H' : Hp) : Prop := ∀ a o, H a = some o → H' a = some o
theorem Ex.refl (H : Hp) : Ex H H := fun _ _ h => h
theorem Ex.trans {H H1 H2 : Hp} (a : Ex H H1) (b : Ex H1 H2) : Ex H H2 := fun x o h => b x o (a x o h)
theorem Ex.new {H : Hp} {p : Addr} {o : HO} (h : H p = none) : Ex H (upd H p o) := fun a u e => by
  rw [upd_ne (ne_of_none e h)]
  exact e
theorem Ex.ne {H H' : Hp} {a : Addr} (e : Ex H H') (h : H a ≠ none) : H' a ≠ none := by
  cases q : H a with
  | none => exact absurd q h
  | some o =>
    rw [e a o q]
    exact fun z => nomatch z
theorem Ex.eq {H H' : Hp} {a : Addr} (e : Ex H H') (h : H a ≠ none) : H' a = H a := by
  cases q : H a with
  | none => exact absurd q h
  | some o => exact e a o q
theorem Ex.back {H H' : Hp} {p : Addr} (e : Ex H H') (h : H' p = none) : H p = none := by
  cases h1 : H p with
  | none => rfl
  | some o =>
    rw [e p o h1] at h
    cases h
/-- things are added, nothing changes -/
structure Ext (W W' : Wd) : Prop where
  ok : Ex W'.B W'.H
  h : Ex W.H W'.H
  b : Ex W.B W'.B
  fr : ∀ a, W.H a ≠ none → W.B a = none → W'.B a = none
theorem Ext.refl {W : Wd} (ok : Ex W.B W.H) : Ext W W := ⟨ok, Ex.refl _, Ex.refl _, fun _ _ h => h⟩
theorem Ext.trans {W W1 W2 : Wd} (a : Ext W W1) (b : Ext W1 W2) : Ext W W2 :=
  ⟨b.ok, a.h.trans b.h, a.b.trans b.b, fun x h1 h2 => b.fr x (a.h.ne h1) (a.fr x h1 h2)⟩
/-- a new object, owned -/
theorem Ext.new {W : Wd} (ok : Ex W.B W.H) {p : Addr} {o : HO} (h : W.H p = none) : Ext W ⟨upd W.H p o, W.B⟩ :=
  ⟨ok.trans (Ex.new h), Ex.new h, Ex.refl _, fun _ _ h => h⟩
/-- a new object, shared -/
theorem Ext.newB {W : Wd} (ok : Ex W.B W.H) {p : Addr} {o : HO} (h : W.H p = none) : Ext W ⟨upd W.H p o, upd W.B p o⟩ := by
  refine ⟨fun a u e => ?_, Ex.new h, Ex.new (ok.back h), fun a h1 h2 => ?_⟩
  · by_cases z : a = p
    · subst z
      have e1 : upd W.B a o a = some u := e
      show upd W.H a o a = some u
      rw [upd_same] at e1 ⊢
      exact e1
    · have e' : W.B a = some u := by rw [← e]; exact (upd_ne z).symm
      show upd W.H p o a = some u
      rw [upd_ne z]
      exact ok a u e'
  · have z : a ≠ p := fun z => h1 (z ▸ h)
    show upd W.B p o a = none
    rw [upd_ne z]
    exact h2
/-- what is owned at F may change; F' is owned behind -/
structure Stp (W : Wd) (F : List Addr) (W' : Wd) (F' : List Addr) : Prop where
  ok : Ex W'.B W'.H
  b : Ex W.B W'.B
  h : ∀ a o, W.H a = some o → a ∉ F → W'.H a = some o
  al : ∀ a, W.H a ≠ none → W'.H a ≠ none
  fr : ∀ a, W.H a ≠ none → W.B a = none → a ∉ F → W'.B a = none
  fp : ∀ a ∈ F', a ∈ F ∨ W.H a = none
theorem Stp.refl {W : Wd} {F : List Addr} (ok : Ex W.B W.H) : Stp W F W F :=
  ⟨ok, Ex.refl _, fun _ _ h _ => h, fun _ h => h, fun _ _ h _ => h, fun _ h => .inl h⟩
theorem Stp.trans {W W1 W2 : Wd} {F F1 F2 : List Addr} (a : Stp W F W1 F1) (b : Stp W1 F1 W2 F2) : Stp W F W2 F2 where
  ok := b.ok
  b := a.b.trans b.b
  h := fun x o h n => b.h x o (a.h x o h n) fun z => by
    rcases a.fp x z with z | z
    · exact n z
    · rw [h] at z; cases z
  al := fun x h => b.al x (a.al x h)
  fr := fun x h1 h2 n => b.fr x (a.al x h1) (a.fr x h1 h2 n) fun z => by
    rcases a.fp x z with z | z
    · exact n z
    · exact h1 z
  fp := fun x hx => by
    rcases b.fp x hx with z | z
    · exact a.fp x z
    · refine .inr ?_
      cases q : W.H x with
      | none => rfl
      | some o => exact absurd z (a.al x (by rw [q]; exact fun z => nomatch z))
theorem Stp.perm {W W1 : Wd} {F F1 F2 : List Addr} (a : Stp W F W1 F1) (p : ∀ x ∈ F2, x ∈ F1) : Stp W F W1 F2 :=
  ⟨a.ok, a.b, a.h, a.al, a.fr, fun x h => a.fp x (p x h)⟩
theorem Stp.permL {W W1 : Wd} {F F0 F1 : List Addr} (a : Stp W F W1 F1) (p : ∀ x ∈ F, x ∈ F0) : Stp W F0 W1 F1 :=
  ⟨a.ok, a.b, fun x o h n => a.h x o h fun z => n (p x z), a.al, fun x h1 h2 n => a.fr x h1 h2 fun z => n (p x z), fun x h => (a.fp x h).imp (p x) id⟩
theorem Ext.stp {W W' : Wd} {F Fv : List Addr} (e : Ext W W') (fresh : ∀ a ∈ Fv, W.H a = none) : Stp W F W' (F ++ Fv) :=
  ⟨e.ok, e.b, fun x o h _ => e.h x o h, fun x h => e.h.ne h, fun x h1 h2 _ => e.fr x h1 h2, fun x hx => (List.mem_append.mp hx).imp id (fresh x)⟩
/-- with nothing owned a step only adds -/
theorem Stp.ext {W W' : Wd} {F' : List Addr} (s : Stp W [] W' F') : Ext W W' ∧ ∀ a ∈ F', W.H a = none :=
  ⟨⟨s.ok, fun a o h => s.h a o h (by simp), s.b, fun a h1 h2 => s.fr a h1 h2 (by simp)⟩, fun a ha => (s.fp a ha).resolve_left (by simp)⟩
/-! ### footprints -/
structure FpOk (W : Wd) (F : List Addr) : Prop where
  nd : F.Nodup
  al : ∀ a ∈ F, W.H a ≠ none
  fr : ∀ a ∈ F, W.B a = none
theorem FpOk.nil {W : Wd} : FpOk W [] := ⟨List.nodup_nil, fun _ h => (List.not_mem_nil h).elim, fun _ h => (List.not_mem_nil h).elim⟩
theorem FpOk.perm {W : Wd} {F F' : List Addr} (f : FpOk W F) (p : F.Perm F') : FpOk W F' :=
  ⟨p.nodup_iff.mp f.nd, fun a h => f.al a (p.mem_iff.mpr h), fun a h => f.fr a (p.mem_iff.mpr h)⟩
theorem FpOk.ext {W W' : Wd} {F : List Addr} (f : FpOk W F) (e : Ext W W') : FpOk W' F :=
  ⟨f.nd, fun a h => e.h.ne (f.al a h), fun a h => e.fr a (f.al a h) (f.fr a h)⟩
theorem FpOk.left {W : Wd} {F F' : List Addr} (f : FpOk W (F ++ F')) : FpOk W F :=
  ⟨(List.nodup_append.mp f.nd).1, fun a h => f.al a (List.mem_append_left _ h), fun a h => f.fr a (List.mem_append_left _ h)⟩
theorem FpOk.right {W : Wd} {F F' : List Addr} (f : FpOk W (F ++ F')) : FpOk W F' :=
  ⟨(List.nodup_append.mp f.nd).2.1, fun a h => f.al a (List.mem_append_right _ h), fun a h => f.fr a (List.mem_append_right _ h)⟩
theorem FpOk.disj {W : Wd} {F F' : List Addr} (f : FpOk W (F ++ F')) : ∀ a ∈ F, a ∉ F' := fun a h h' =>
  (List.nodup_append.mp f.nd).2.2 a h a h' rfl
theorem FpOk.app {W : Wd} {F F' : List Addr} (f : FpOk W F) (f' : FpOk W F') (d : ∀ a ∈ F, a ∉ F') : FpOk W (F ++ F') :=
  ⟨List.nodup_append.mpr ⟨f.nd, f'.nd, fun a h b h' e => d a h (e ▸ h')⟩, fun a h => (List.mem_append.mp h).elim (f.al a) (f'.al a), fun a h => (List.mem_append.mp h).elim (f.fr a) (f'.fr a)⟩
/-- an extension's new owned things stand apart from the old -/
theorem FpOk.fresh {W W' : Wd} {F Fv : List Addr} (f : FpOk W F) (e : Ext W W') (fv : FpOk W' Fv) (n : ∀ a ∈ Fv, W.H a = none) : FpOk W' (F ++ Fv) :=
  (f.ext e).app fv fun a h h' => f.al a h (n a h')
/-! ### descriptions -/
/-- a shared thing, described over the part that stands still -/
structure SP where
  P : Hp → V → Prop
  mono : ∀ {B B' v}, P B v → Ex B B' → P B' v
/-- a thing with what is owned of it -/
structure OP where
  C : Wd → V → List Addr → Prop
  loc : ∀ {W W' v F}, C W v F → Ex W.B W'.B → (∀ a ∈ F, W'.H a = W.H a) → C W' v F
def sh (p : SP) : OP := ⟨fun W v F => F = [] ∧ p.P W.B v, fun h e _ => ⟨h.1, p.mono h.2 e⟩⟩
theorem OP.ext (o : OP) {W W' : Wd} {v : V} {F : List Addr} (h : o.C W v F) (e : Ext W W') (f : FpOk W F) : o.C W' v F := o.loc h e.b fun a ha => e.h.eq (f.al a ha)
def intS (i : Int) : SP := ⟨fun _ v => v = .int i, fun h _ => h⟩
def boolS (b : Bool) : SP := ⟨fun _ v => v = .bl b, fun h _ => h⟩
def strS (z : Str) : SP := ⟨fun _ v => v = .str z, fun h _ => h⟩
def nonS : SP := ⟨fun _ v => v = .non, fun h _ => h⟩
def valS (x : V) : SP := ⟨fun _ v => v = x, fun h _ => h⟩
def optS {α : Type} (E : α → SP) : Option α → SP
  | none => nonS
  | some x => E x
/-- values one by one -/
def Each {α : Type} (E : α → SP) (B : Hp) : List V → List α → Prop
  | [], [] => True
  | v :: vs, x :: xs => (E x).P B v ∧ Each E B vs xs
  | _, _ => False
theorem Each.mono {α : Type} {E : α → SP} {B B' : Hp} (e : Ex B B') : ∀ {vs : List V} {xs : List α}, Each E B vs xs → Each E B' vs xs
  | [], [], _ => trivial
  | _ :: _, _ :: _, h => ⟨SP.mono _ h.1 e, Each.mono e h.2⟩
  | [], _ :: _, h => h.elim
  | _ :: _, [], h => h.elim
theorem Each.len {α : Type} {E : α → SP} {B : Hp} : ∀ {vs : List V} {xs : List α}, Each E B vs xs → vs.length = xs.length
  | [], [], _ => rfl
  | _ :: _, _ :: _, h => by rw [List.length_cons, List.length_cons, Each.len h.2]
  | [], _ :: _, h => h.elim
  | _ :: _, [], h => h.elim
theorem Each.get {α : Type} {E : α → SP} {B : Hp} : ∀ {vs : List V} {xs : List α} {i : Nat} {x : α}, Each E B vs xs → xs[i]? = some x → ∃ v, vs[i]? = some v ∧ (E x).P B v
  | [], [], i, x, _, e => by simp at e
  | v :: vs, y :: xs, 0, x, h, e => by
    have : y = x := by simpa using e
    subst this
    exact ⟨v, rfl, h.1⟩
  | v :: vs, y :: xs, i + 1, x, h, e => by
    obtain ⟨u, h1, h2⟩ := Each.get (i := i) h.2 (by simpa using e)
    exact ⟨u, by simpa using h1, h2⟩
  | [], _ :: _, _, _, h, _ => h.elim
  | _ :: _, [], _, _, h, _ => h.elim
theorem Each.app {α : Type} {E : α → SP} {B : Hp} : ∀ {vs us : List V} {xs ys : List α}, Each E B vs xs → Each E B us ys → Each E B (vs ++ us) (xs ++ ys)
  | [], _, [], _, _, k => k
  | _ :: _, _, _ :: _, _, h, k => ⟨h.1, Each.app h.2 k⟩
  | [], _, _ :: _, _, h, _ => h.elim
  | _ :: _, _, [], _, h, _ => h.elim
theorem Each.take {α : Type} {E : α → SP} {B : Hp} : ∀ {vs : List V} {xs : List α} (n : Nat), Each E B vs xs → Each E B (vs.take n) (xs.take n)
  | [], [], _, _ => by simp [Each]
  | _ :: _, _ :: _, 0, _ => trivial
  | _ :: _, _ :: _, n + 1, h => ⟨h.1, Each.take n h.2⟩
  | [], _ :: _, _, h => h.elim
  | _ :: _, [], _, h => h.elim
theorem Each.drop {α : Type} {E : α → SP} {B : Hp} : ∀ {vs : List V} {xs : List α} (n : Nat), Each E B vs xs → Each E B (vs.drop n) (xs.drop n)
  | [], [], _, _ => by simp [Each]
  | _ :: _, _ :: _, 0, h => h
  | _ :: _, _ :: _, n + 1, h => Each.drop n h.2
  | [], _ :: _, _, h => h.elim
  | _ :: _, [], _, h => h.elim
theorem Each.set {α : Type} {E : α → SP} {B : Hp} {v : V} {x : α} (hv : (E x).P B v) : ∀ {vs : List V} {xs : List α} (i : Nat), Each E B vs xs → Each E B (vs.set i v) (xs.set i x)
  | [], [], _, _ => by simp [Each]
  | _ :: _, _ :: _, 0, h => ⟨hv, h.2⟩
  | _ :: _, _ :: _, n + 1, h => ⟨h.1, Each.set hv n h.2⟩
  | [], _ :: _, _, h => h.elim
  | _ :: _, [], _, h => h.elim
theorem Each.eraseIdx {α : Type} {E : α → SP} {B : Hp} : ∀ {vs : List V} {xs : List α} (i : Nat), Each E B vs xs → Each E B (vs.eraseIdx i) (xs.eraseIdx i)
  | [], [], _, _ => by simp [Each]
  | _ :: _, _ :: _, 0, h => h.2
  | _ :: _, _ :: _, n + 1, h => ⟨h.1, Each.eraseIdx n h.2⟩
  | [], _ :: _, _, h => h.elim
  | _ :: _, [], _, h => h.elim
theorem Each.rev {α : Type} {E : α → SP} {B : Hp} : ∀ {vs : List V} {xs : List α}, Each E B vs xs → Each E B vs.reverse xs.reverse
  | [], [], _ => by simp [Each]
  | v :: vs, x :: xs, h => by
    rw [List.reverse_cons, List.reverse_cons]
    exact Each.app (Each.rev h.2) ⟨h.1, trivial⟩
  | [], _ :: _, h => h.elim
  | _ :: _, [], h => h.elim
theorem Each.imp {α β : Type} {E : α → SP} {G : β → SP} {B : Hp} (f : α → β) (hf : ∀ x v, (E x).P B v → (G (f x)).P B v) : ∀ {vs : List V} {xs : List α}, Each E B vs xs → Each G B vs (xs.map f)
  | [], [], _ => trivial
  | _ :: _, _ :: _, h => ⟨hf _ _ h.1, Each.imp f hf h.2⟩
  | [], _ :: _, h => h.elim
  | _ :: _, [], h => h.elim
/-- a list, a tuple that stand still -/
def lstS {α : Type} (E : α → SP) (xs : List α) : SP := ⟨fun B v => ∃ a vs, v = .ref a ∧ B a = some (.lst vs) ∧ Each E B vs xs, fun h e => by
  obtain ⟨a, vs, h1, h2, h3⟩ := h
  exact ⟨a, vs, h1, e a _ h2, h3.mono e⟩⟩
def tupS {α : Type} (E : α → SP) (xs : List α) : SP := ⟨fun B v => ∃ a vs, v = .ref a ∧ B a = some (.tup vs) ∧ Each E B vs xs, fun h e => by
  obtain ⟨a, vs, h1, h2, h3⟩ := h
  exact ⟨a, vs, h1, e a _ h2, h3.mono e⟩⟩
/-- the script -/
def scrS (K : PySem.W.Frag) (ns : List Int) : SP := ⟨fun B v => ∃ a, v = .ref a ∧ SqL K B a (ns.map V.int), fun h e => by
  obtain ⟨a, h1, h2⟩ := h
  refine ⟨a, h1, ?_⟩
  rcases h2 with (h | ⟨o, h⟩) | h
  · exact .inl (.inl (e _ _ h))
  · exact .inl (.inr ⟨o, e _ _ h⟩)
  · exact .inr h⟩
/-- things of several kinds, one by one -/
def Hets (B : Hp) : List V → List SP → Prop
  | [], [] => True
  | v :: vs, p :: ps => p.P B v ∧ Hets B vs ps
  | _, _ => False
theorem Hets.mono {B B' : Hp} (e : Ex B B') : ∀ {vs : List V} {ps : List SP}, Hets B vs ps → Hets B' vs ps
  | [], [], _ => trivial
  | _ :: _, _ :: _, h => ⟨SP.mono _ h.1 e, Hets.mono e h.2⟩
  | [], _ :: _, h => h.elim
  | _ :: _, [], h => h.elim
theorem Hets.len {B : Hp} : ∀ {vs : List V} {ps : List SP}, Hets B vs ps → vs.length = ps.length
  | [], [], _ => rfl
  | _ :: _, _ :: _, h => by rw [List.length_cons, List.length_cons, Hets.len h.2]
  | [], _ :: _, h => h.elim
  | _ :: _, [], h => h.elim
theorem Hets.get {B : Hp} : ∀ {vs : List V} {ps : List SP} {i : Nat} {p : SP}, Hets B vs ps → ps[i]? = some p → ∃ v, vs[i]? = some v ∧ p.P B v
  | [], [], i, x, _, e => by simp at e
  | v :: vs, y :: xs, 0, x, h, e => by
    have : y = x := by simpa using e
    subst this
    exact ⟨v, rfl, h.1⟩
  | v :: vs, y :: xs, i + 1, x, h, e => by
    obtain ⟨u, h1, h2⟩ := Hets.get (i := i) h.2 (by simpa using e)
    exact ⟨u, by simpa using h1, h2⟩
  | [], _ :: _, _, _, h, _ => h.elim
  | _ :: _, [], _, _, h, _ => h.elim
theorem Hets.set {B : Hp} {v : V} {p : SP} (hv : p.P B v) : ∀ {vs : List V} {ps : List SP} (i : Nat), Hets B vs ps → Hets B (vs.set i v) (ps.set i p)
  | [], [], _, _ => by simp [Hets]
  | _ :: _, _ :: _, 0, h => ⟨hv, h.2⟩
  | _ :: _, _ :: _, n + 1, h => ⟨h.1, Hets.set hv n h.2⟩
  | [], _ :: _, _, h => h.elim
  | _ :: _, [], _, h => h.elim
def htupS (ps : List SP) : SP := ⟨fun B v => ∃ a vs, v = .ref a ∧ B a = some (.tup vs) ∧ Hets B vs ps, fun h e => by
  obtain ⟨a, vs, h1, h2, h3⟩ := h
  exact ⟨a, vs, h1, e a _ h2, h3.mono e⟩⟩
def hlstS (ps : List SP) : SP := ⟨fun B v => ∃ a vs, v = .ref a ∧ B a = some (.lst vs) ∧ Hets B vs ps, fun h e => by
  obtain ⟨a, vs, h1, h2, h3⟩ := h
  exact ⟨a, vs, h1, e a _ h2, h3.mono e⟩⟩
/-- a pair -/
def prS {α β : Type} (E : α → SP) (G : β → SP) (p : α × β) : SP := htupS [E p.1, G p.2]
/-! ### owned things, one by one -/
def Owns {α : Type} (E : α → OP) (W : Wd) : List V → List α → List Addr → Prop
  | [], [], F => F = []
  | v :: vs, x :: xs, F => ∃ F1 F2, F = F1 ++ F2 ∧ (E x).C W v F1 ∧ Owns E W vs xs F2
  | _, _, _ => False
theorem Owns.loc {α : Type} {E : α → OP} {W W' : Wd} (e : Ex W.B W'.B) : ∀ {vs : List V} {xs : List α} {F : List Addr}, Owns E W vs xs F → (∀ a ∈ F, W'.H a = W.H a) → Owns E W' vs xs F
  | [], [], _, h, _ => h
  | _ :: _, _ :: _, _, ⟨F1, F2, h1, h2, h3⟩, k => by
    subst h1
    exact ⟨F1, F2, rfl, OP.loc _ h2 e fun a ha => k a (List.mem_append_left _ ha), Owns.loc e h3 fun a ha => k a (List.mem_append_right _ ha)⟩
  | [], _ :: _, _, h, _ => h.elim
  | _ :: _, [], _, h, _ => h.elim
theorem Owns.len {α : Type} {E : α → OP} {W : Wd} : ∀ {vs : List V} {xs : List α} {F : List Addr}, Owns E W vs xs F → vs.length = xs.length
  | [], [], _, _ => rfl
  | _ :: _, _ :: _, _, ⟨_, _, _, _, h⟩ => by rw [List.length_cons, List.length_cons, Owns.len h]
  | [], _ :: _, _, h => h.elim
  | _ :: _, [], _, h => h.elim
theorem Owns.app {α : Type} {E : α → OP} {W : Wd} : ∀ {vs us : List V} {xs ys : List α} {F G : List Addr}, Owns E W vs xs F → Owns E W us ys G → Owns E W (vs ++ us) (xs ++ ys) (F ++ G)
  | [], _, [], _, _, _, h, k => by
    subst h
    exact k
  | _ :: _, _, _ :: _, _, _, _, ⟨F1, F2, h1, h2, h3⟩, k => by
    subst h1
    exact ⟨F1, F2 ++ _, List.append_assoc _ _ _, h2, Owns.app h3 k⟩
  | [], _, _ :: _, _, _, _, h, _ => h.elim
  | _ :: _, _, [], _, _, _, h, _ => h.elim
/-- the item at a place, and what may stand there instead -/
theorem Owns.at {α : Type} {E : α → OP} {W : Wd} : ∀ {vs : List V} {xs : List α} {F : List Addr} {i : Nat} {x : α}, Owns E W vs xs F → xs[i]? = some x →
    ∃ v F1 F2, vs[i]? = some v ∧ (E x).C W v F1 ∧ F.Perm (F1 ++ F2) ∧ ∀ (W' : Wd) (x' : α) (v' : V) (F1' : List Addr), Ex W.B W'.B → (∀ a ∈ F2, W'.H a = W.H a) → (E x').C W' v' F1' →
      ∃ F', Owns E W' (vs.set i v') (xs.set i x') F' ∧ F'.Perm (F1' ++ F2)
  | [], [], _, _, _, _, e => by simp at e
  | v :: vs, y :: xs, _, 0, x, ⟨F1, F2, h1, h2, h3⟩, e => by
    have : y = x := by simpa using e
    subst this h1
    refine ⟨v, F1, F2, rfl, h2, .refl _, fun W' x' v' F1' eb hk hc => ⟨F1' ++ F2, ⟨F1', F2, rfl, hc, h3.loc eb hk⟩, .refl _⟩⟩
  | v :: vs, y :: xs, _, i + 1, x, ⟨F1, F2, h1, h2, h3⟩, e => by
    subst h1
    obtain ⟨u, G1, G2, a1, a2, a3, a4⟩ := Owns.at (i := i) h3 (by simpa using e)
    refine ⟨u, G1, F1 ++ G2, by simpa using a1, a2, ?_, fun W' x' v' F1' eb hk hc => ?_⟩
    · refine (List.Perm.append_left F1 a3).trans ?_
      rw [← List.append_assoc, ← List.append_assoc]
      exact List.Perm.append_right G2 List.perm_append_comm
    · obtain ⟨F', b1, b2⟩ := a4 W' x' v' F1' eb (fun a ha => hk a (List.mem_append_right _ ha)) hc
      refine ⟨F1 ++ F', ⟨F1, F', rfl, OP.loc _ h2 eb fun a ha => hk a (List.mem_append_left _ ha), b1⟩, ?_⟩
      refine (List.Perm.append_left F1 b2).trans ?_
      rw [← List.append_assoc, ← List.append_assoc]
      exact List.Perm.append_right G2 List.perm_append_comm
  | [], _ :: _, _, _, _, h, _ => h.elim
  | _ :: _, [], _, _, _, h, _ => h.elim
theorem Owns.of_each {α : Type} {E : α → SP} {W : Wd} : ∀ {vs : List V} {xs : List α}, Each E W.B vs xs → Owns (fun x => sh (E x)) W vs xs []
  | [], [], _ => rfl
  | _ :: _, _ :: _, h => ⟨[], [], rfl, ⟨rfl, h.1⟩, Owns.of_each h.2⟩
  | [], _ :: _, h => h.elim
  | _ :: _, [], h => h.elim
theorem Owns.each {α : Type} {E : α → SP} {W : Wd} : ∀ {vs : List V} {xs : List α} {F : List Addr}, Owns (fun x => sh (E x)) W vs xs F → F = [] ∧ Each E W.B vs xs
  | [], [], _, h => ⟨h, trivial⟩
  | _ :: _, _ :: _, _, ⟨F1, F2, h1, ⟨h2, h2'⟩, h3⟩ => by
    obtain ⟨e, h4⟩ := Owns.each h3
    subst e h2
    exact ⟨h1, h2', h4⟩
  | [], _ :: _, _, h => h.elim
  | _ :: _, [], _, h => h.elim
/-- a list of one's own -/
def lstO {α : Type} (E : α → OP) (xs : List α) : OP := ⟨fun W v F => ∃ a vs F2, v = .ref a ∧ W.H a = some (.lst vs) ∧ F = a :: F2 ∧ Owns E W vs xs F2, fun h e k => by
  obtain ⟨a, vs, F2, h1, h2, h3, h4⟩ := h
  subst h3
  exact ⟨a, vs, F2, h1, (k a List.mem_cons_self).trans h2, rfl, h4.loc e fun b hb => k b (List.mem_cons_of_mem _ hb)⟩⟩
/-- owned things of several kinds -/
def HetO (W : Wd) : List V → List OP → List Addr → Prop
  | [], [], F => F = []
  | v :: vs, p :: ps, F => ∃ F1 F2, F = F1 ++ F2 ∧ p.C W v F1 ∧ HetO W vs ps F2
  | _, _, _ => False
theorem HetO.loc {W W' : Wd} (e : Ex W.B W'.B) : ∀ {vs : List V} {xs : List OP} {F : List Addr}, HetO W vs xs F → (∀ a ∈ F, W'.H a = W.H a) → HetO W' vs xs F
  | [], [], _, h, _ => h
  | _ :: _, _ :: _, _, ⟨F1, F2, h1, h2, h3⟩, k => by
    subst h1
    exact ⟨F1, F2, rfl, OP.loc _ h2 e fun a ha => k a (List.mem_append_left _ ha), HetO.loc e h3 fun a ha => k a (List.mem_append_right _ ha)⟩
  | [], _ :: _, _, h, _ => h.elim
  | _ :: _, [], _, h, _ => h.elim
theorem HetO.len {W : Wd} : ∀ {vs : List V} {xs : List OP} {F : List Addr}, HetO W vs xs F → vs.length = xs.length
  | [], [], _, _ => rfl
  | _ :: _, _ :: _, _, ⟨_, _, _, _, h⟩ => by rw [List.length_cons, List.length_cons, HetO.len h]
  | [], _ :: _, _, h => h.elim
  | _ :: _, [], _, h => h.elim
theorem HetO.at {W : Wd} : ∀ {vs : List V} {xs : List OP} {F : List Addr} {i : Nat} {x : OP}, HetO W vs xs F → xs[i]? = some x →
    ∃ v F1 F2, vs[i]? = some v ∧ x.C W v F1 ∧ F.Perm (F1 ++ F2) ∧ ∀ (W' : Wd) (x' : OP) (v' : V) (F1' : List Addr), Ex W.B W'.B → (∀ a ∈ F2, W'.H a = W.H a) → x'.C W' v' F1' →
      ∃ F', HetO W' (vs.set i v') (xs.set i x') F' ∧ F'.Perm (F1' ++ F2)
  | [], [], _, _, _, _, e => by simp at e
  | v :: vs, y :: xs, _, 0, x, ⟨F1, F2, h1, h2, h3⟩, e => by
    have : y = x := by simpa using e
    subst this h1
    refine ⟨v, F1, F2, rfl, h2, .refl _, fun W' x' v' F1' eb hk hc => ⟨F1' ++ F2, ⟨F1', F2, rfl, hc, h3.loc eb hk⟩, .refl _⟩⟩
  | v :: vs, y :: xs, _, i + 1, x, ⟨F1, F2, h1, h2, h3⟩, e => by
    subst h1
    obtain ⟨u, G1, G2, a1, a2, a3, a4⟩ := HetO.at (i := i) h3 (by simpa using e)
    refine ⟨u, G1, F1 ++ G2, by simpa using a1, a2, ?_, fun W' x' v' F1' eb hk hc => ?_⟩
    · refine (List.Perm.append_left F1 a3).trans ?_
      rw [← List.append_assoc, ← List.append_assoc]
      exact List.Perm.append_right G2 List.perm_append_comm
    · obtain ⟨F', b1, b2⟩ := a4 W' x' v' F1' eb (fun a ha => hk a (List.mem_append_right _ ha)) hc
      refine ⟨F1 ++ F', ⟨F1, F', rfl, OP.loc _ h2 eb fun a ha => hk a (List.mem_append_left _ ha), b1⟩, ?_⟩
      refine (List.Perm.append_left F1 b2).trans ?_
      rw [← List.append_assoc, ← List.append_assoc]
      exact List.Perm.append_right G2 List.perm_append_comm
  | [], _ :: _, _, _, _, h, _ => h.elim
  | _ :: _, [], _, _, _, h, _ => h.elim
def hetO (ps : List OP) : OP := ⟨fun W v F => ∃ a vs F2, v = .ref a ∧ W.H a = some (.lst vs) ∧ F = a :: F2 ∧ HetO W vs ps F2, fun h e k => by
  obtain ⟨a, vs, F2, h1, h2, h3, h4⟩ := h
  subst h3
  exact ⟨a, vs, F2, h1, (k a List.mem_cons_self).trans h2, rfl, h4.loc e fun b hb => k b (List.mem_cons_of_mem _ hb)⟩⟩
/-! ### the slots -/
abbrev Ctx := List (Option OP)
def Holds : Ctx → St → Wd → List Addr → Prop
  | [], _, _, F => F = []
  | none :: Γ, σ, W, F => Holds Γ σ.tail W F
  | some o :: Γ, σ, W, F => ∃ v F1 F2, σ.head? = some (some v) ∧ F = F1 ++ F2 ∧ o.C W v F1 ∧ Holds Γ σ.tail W F2
theorem Holds.loc {W W' : Wd} (e : Ex W.B W'.B) : ∀ {Γ : Ctx} {σ : St} {F : List Addr}, Holds Γ σ W F → (∀ a ∈ F, W'.H a = W.H a) → Holds Γ σ W' F
  | [], _, _, h, _ => h
  | none :: Γ, σ, F, h, k => Holds.loc e (Γ := Γ) (σ := σ.tail) (F := F) h k
  | some o :: Γ, σ, _, ⟨v, F1, F2, h1, h2, h3, h4⟩, k => by
    subst h2
    exact ⟨v, F1, F2, h1, rfl, o.loc h3 e fun a ha => k a (List.mem_append_left _ ha), Holds.loc e (Γ := Γ) h4 fun a ha => k a (List.mem_append_right _ ha)⟩
/-- the entry at a place, and what may stand there instead -/
theorem Holds.at {W : Wd} : ∀ {Γ : Ctx} {σ : St} {F : List Addr} {i : Nat} {o : OP}, Holds Γ σ W F → Γ[i]? = some (some o) →
    ∃ v F1 F2, σ[i]? = some (some v) ∧ o.C W v F1 ∧ F.Perm (F1 ++ F2) ∧ ∀ (W' : Wd) (o' : OP) (v' : V) (F1' : List Addr), Ex W.B W'.B → (∀ a ∈ F2, W'.H a = W.H a) → o'.C W' v' F1' →
      ∃ F', Holds (Γ.set i (some o')) (σ.set i (some v')) W' F' ∧ F'.Perm (F1' ++ F2)
  | [], _, _, _, _, _, e => by simp at e
  | none :: Γ, σ, F, 0, o, h, e => by simp at e
  | none :: Γ, [], F, i + 1, o, h, e => by
    obtain ⟨u, G1, G2, a1, _⟩ := Holds.at (i := i) (Γ := Γ) (σ := []) h (by simpa using e)
    simp at a1
  | none :: Γ, s :: σ, F, i + 1, o, h, e => by
    obtain ⟨u, G1, G2, a1, a2, a3, a4⟩ := Holds.at (i := i) (Γ := Γ) (σ := σ) h (by simpa using e)
    exact ⟨u, G1, G2, by simpa using a1, a2, a3, fun W' o' v' F1' eb hk hc => a4 W' o' v' F1' eb hk hc⟩
  | some p :: Γ, [], F, i, o, ⟨v, F1, F2, h1, h2, h3, h4⟩, e => by simp at h1
  | some p :: Γ, s :: σ, F, 0, o, ⟨v, F1, F2, h1, h2, h3, h4⟩, e => by
    have : p = o := by simpa using e
    subst this h2
    refine ⟨v, F1, F2, by simpa using h1, h3, .refl _, fun W' o' v' F1' eb hk hc => ⟨F1' ++ F2, ⟨v', F1', F2, rfl, rfl, hc, Holds.loc eb (Γ := Γ) h4 hk⟩, .refl _⟩⟩
  | some p :: Γ, s :: σ, F, i + 1, o, ⟨v, F1, F2, h1, h2, h3, h4⟩, e => by
    subst h2
    obtain ⟨u, G1, G2, a1, a2, a3, a4⟩ := Holds.at (i := i) (Γ := Γ) (σ := σ) h4 (by simpa using e)
    refine ⟨u, G1, F1 ++ G2, by simpa using a1, a2, ?_, fun W' x' v' F1' eb hk hc => ?_⟩
    · refine (List.Perm.append_left F1 a3).trans ?_
      rw [← List.append_assoc, ← List.append_assoc]
      exact List.Perm.append_right G2 List.perm_append_comm
    · obtain ⟨F', b1, b2⟩ := a4 W' x' v' F1' eb (fun a ha => hk a (List.mem_append_right _ ha)) hc
      refine ⟨F1 ++ F', ⟨v, F1, F', h1, rfl, OP.loc _ h3 eb fun a ha => hk a (List.mem_append_left _ ha), b1⟩, ?_⟩
      refine (List.Perm.append_left F1 b2).trans ?_
      rw [← List.append_assoc, ← List.append_assoc]
      exact List.Perm.append_right G2 List.perm_append_comm
/-- a slot is stored anew -/
theorem Holds.put {W : Wd} {o : OP} {v : V} {F1 : List Addr} (hc : o.C W v F1) : ∀ {Γ : Ctx} {σ : St} {F : List Addr} {i : Nat}, Holds Γ σ W F → i < Γ.length → i < σ.length →
    ∃ F' G, Holds (Γ.set i (some o)) (σ.set i (some v)) W F' ∧ F'.Perm (F1 ++ G) ∧ ∃ G', F.Perm (G ++ G')
  | [], _, _, _, _, h, _ => by simp at h
  | _ :: _, [], _, _, _, _, h => by simp at h
  | none :: Γ, s :: σ, F, 0, h, _, _ => ⟨F1 ++ F, F, ⟨v, F1, F, rfl, rfl, hc, h⟩, .refl _, [], by rw [List.append_nil]⟩
  | some p :: Γ, s :: σ, F, 0, ⟨u, G1, G2, h1, h2, h3, h4⟩, _, _ => ⟨F1 ++ G2, G2, ⟨v, F1, G2, rfl, rfl, hc, h4⟩, .refl _, G1, by subst h2; exact List.perm_append_comm⟩
  | none :: Γ, s :: σ, F, i + 1, h, l1, l2 => by
    obtain ⟨F', G, a1, a2, a3⟩ := Holds.put hc (i := i) (Γ := Γ) (σ := σ) h (by simpa using l1) (by simpa using l2)
    exact ⟨F', G, a1, a2, a3⟩
  | some p :: Γ, s :: σ, F, i + 1, ⟨u, G1, G2, h1, h2, h3, h4⟩, l1, l2 => by
    obtain ⟨F', G, a1, a2, G', a3⟩ := Holds.put hc (i := i) (Γ := Γ) (σ := σ) h4 (by simpa using l1) (by simpa using l2)
    subst h2
    refine ⟨G1 ++ F', G1 ++ G, ⟨u, G1, F', h1, rfl, h3, a1⟩, ?_, G', ?_⟩
    · refine (List.Perm.append_left G1 a2).trans ?_
      rw [← List.append_assoc, ← List.append_assoc]
      exact List.Perm.append_right G List.perm_append_comm
    · rw [List.append_assoc]
      exact List.Perm.append_left G1 a3
/-- less is known -/
inductive Weak : Ctx → Ctx → Prop
  | nil : Weak [] []
  | same {e Γ Δ} : Weak Γ Δ → Weak (e :: Γ) (e :: Δ)
  | drop {e Γ Δ} : Weak Γ Δ → Weak (e :: Γ) (none :: Δ)
theorem Weak.refl : ∀ Γ : Ctx, Weak Γ Γ
  | [] => .nil
  | _ :: Γ => .same (Weak.refl Γ)
theorem Weak.len {Γ Δ : Ctx} (w : Weak Γ Δ) : Γ.length = Δ.length := by induction w <;> simp_all
theorem Weak.holds {W : Wd} {Γ Δ : Ctx} (w : Weak Γ Δ) : ∀ {σ : St} {F : List Addr}, Holds Γ σ W F → ∃ F' G, Holds Δ σ W F' ∧ F.Perm (F' ++ G) := by
  induction w with
  | nil => exact fun {σ F} h => ⟨[], F, rfl, .refl _⟩
  | @same e Γ Δ w ih =>
    intro σ F h
    cases e with
    | none => exact ih (σ := σ.tail) h
    | some o =>
      obtain ⟨v, F1, F2, h1, h2, h3, h4⟩ := h
      obtain ⟨F', G, a1, a2⟩ := ih (σ := σ.tail) h4
      subst h2
      refine ⟨F1 ++ F', G, ⟨v, F1, F', h1, rfl, h3, a1⟩, ?_⟩
      rw [List.append_assoc]
      exact List.Perm.append_left F1 a2
  | @drop e Γ Δ w ih =>
    intro σ F h
    cases e with
    | none => exact ih (σ := σ.tail) h
    | some o =>
      obtain ⟨v, F1, F2, h1, h2, h3, h4⟩ := h
      obtain ⟨F', G, a1, a2⟩ := ih (σ := σ.tail) h4
      subst h2
      refine ⟨F', G ++ F1, a1, ?_⟩
      rw [← List.append_assoc]
      exact (List.Perm.append_left F1 a2).trans List.perm_append_comm
structure Sta (Γ : Ctx) (σ : St) (W : Wd) (F : List Addr) : Prop where
  ok : Ex W.B W.H
  fp : FpOk W F
  len : σ.length = Γ.length
  hold : Holds Γ σ W F
theorem Sta.ext {Γ : Ctx} {σ : St} {W W' : Wd} {F : List Addr} (s : Sta Γ σ W F) (e : Ext W W') : Sta Γ σ W' F :=
  ⟨e.ok, s.fp.ext e, s.len, s.hold.loc e.b fun a ha => e.h.eq (s.fp.al a ha)⟩
theorem Sta.weak {Γ Δ : Ctx} {σ : St} {W : Wd} {F : List Addr} (s : Sta Γ σ W F) (w : Weak Γ Δ) : ∃ F', Sta Δ σ W F' ∧ ∀ a ∈ F', a ∈ F := by
  obtain ⟨F', G, a1, a2⟩ := w.holds s.hold
  exact ⟨F', ⟨s.ok, (s.fp.perm a2).left, s.len.trans w.len, a1⟩, fun a h => a2.mem_iff.mpr (List.mem_append_left _ h)⟩
/-- a shared slot -/
theorem Sta.get {Γ : Ctx} {σ : St} {W : Wd} {F : List Addr} {i : Nat} {p : SP} (s : Sta Γ σ W F) (h : Γ[i]? = some (some (sh p))) : ∃ v, σ[i]? = some (some v) ∧ p.P W.B v := by
  obtain ⟨v, F1, F2, h1, h2, _⟩ := s.hold.at h
  exact ⟨v, h1, h2.2⟩
theorem Sta.put {Γ : Ctx} {σ : St} {W : Wd} {F F1 : List Addr} {i : Nat} {o : OP} {v : V} (s : Sta Γ σ W F) (hi : i < Γ.length) (hc : o.C W v F1) (f : FpOk W (F ++ F1)) :
    ∃ F', Sta (Γ.set i (some o)) (σ.set i (some v)) W F' ∧ ∀ a ∈ F', a ∈ F ++ F1 := by
  obtain ⟨F', G, a1, a2, G', a3⟩ := Holds.put hc (i := i) s.hold hi (by rw [s.len]; exact hi)
  have f2 : FpOk W ((F1 ++ G) ++ G') := f.perm (by
    refine List.perm_append_comm.trans ?_
    rw [List.append_assoc]
    exact List.Perm.append_left F1 a3)
  refine ⟨F', ⟨s.ok, f2.left.perm a2.symm, by rw [List.length_set, List.length_set]; exact s.len, a1⟩, fun a h => ?_⟩
  rcases List.mem_append.mp (a2.mem_iff.mp h) with z | z
  · exact List.mem_append_right _ z
  · exact List.mem_append_left _ (a3.mem_iff.mpr (List.mem_append_left _ z))
end CC
set_option maxHeartbeats 4000000
/-! Judgements: a piece of Python and its mirror. -/
namespace CC
open PySem PySem.Spec L2
open PyProof.Rows hiding St
/-- what does not change while a def's body (or a comprehension's block) runs -/
structure Stc where
  P : Program
  w : World
  K : PySem.W.Frag
  mg : Str → Option Value
  base : Heap
  N : List Str
  sc : Scope
  k : Nat
  fn : Str → Bool
  prot : List Nat
  W : WX := fun _ _ _ _ => False
  calm : Bool := true
  top : Bool := true
  ex : Option (Addr × Addr × Option Addr) := none
structure Stc.In (S : Stc) (X : Cx) : Prop where
  prog : X.prog = S.P
  w : X.w = S.w
  K : X.K = S.K
  mg : X.mg = S.mg
  base : X.base = S.base
  N : X.N = S.N
  sc : X.env.scope = S.sc
  fn : X.fn = S.fn
  calm : X.calm = S.calm
  room : S.calm = true → Room S.k X.A
  un : X.A.units + 64 < cLine
  pass : PassesOwn (model X.prog X.w) X.A X.env X.xe
  tk : Takes X S.W
  top : S.top = true → X.stack = X.env :: X.outer ∧ X.env.frame = some X.env.locals
  ex : ∀ a C d, S.ex = some (a, C, d) → ∃ X' oe pn, X = Cx.suite X' a ((a, oe) :: pn) ∧ Zc (.ref C) d oe ∧ ∃ vs, oe.data = .fields vs
theorem takes_none {X : Cx} : Takes X (fun _ _ _ _ => False) := fun _ _ ⟨_, _, _, _, _, _, _, _, _, _, _, _, _, _, _, _, z⟩ => z.elim
abbrev Stc.blk (S : Stc) (scope : Scope) : Stc := { S with sc := relS scope S.sc, fn := fun x => scope.names.lookup x == some .cell, W := fun _ _ _ _ => False, top := false, ex := none }
theorem Stc.In.blk {S : Stc} {X : Cx} (h : S.In X) (scope : Scope) (s : Shared) (H : Hp) (C : Addr) (cl : List (Str × Addr)) (fp : List Addr) : (S.blk scope).In (X.blk s H scope (compEnvC scope cl C X.env) fp) :=
  ⟨h.prog, h.w, h.K, h.mg, h.base, h.N, by
    show relabel scope X.env = relS scope S.sc
    rw [← h.sc]
    rfl, rfl, h.calm, h.room, h.un, PassesOwn.never, takes_none, nofun, nofun⟩
/-- what an exception is like -/
structure XP where
  P : Hp → Value → Option Addr → Prop
  mono : ∀ {B B' c d}, P B c d → Ex B B' → P B' c d
/-! ### readings for every context at once -/
def tOf (S : Stc) (e : Expr) : TE := fun σ H Q => ∃ t : TE, (∀ X, S.In X → PE X e t) ∧ t σ H Q
def ttOf (S : Stc) (e : Expr) : TT := fun σ H Q => ∃ t : TT, (∀ X, S.In X → PT X e t) ∧ t σ H Q
def twOf (S : Stc) (e : Expr) : TT := fun σ H Q => ∃ t : TT, (∀ X, S.In X → PW X e t) ∧ t σ H Q
def taOf (S : Stc) (es : List Expr) : TA := fun σ H Q => ∃ t : TA, (∀ X, S.In X → PA X es t) ∧ t σ H Q
def tsOf (S : Stc) (st : Stmt) : TS := fun D σ H => ∃ t : TS, (∀ X, S.In X → PS X st t) ∧ t D σ H
def tbOf (S : Stc) (sts : List Stmt) : TS := fun D σ H => ∃ t : TS, (∀ X, S.In X → PSs X sts t) ∧ t D σ H
section
variable {S : Stc} {X : Cx}
theorem peO {e : Expr} (h : S.In X) : PE X e (tOf S e) := ⟨fun pins s σ H Q I ⟨_, p, q⟩ => (p X h).run pins s σ H Q I q⟩
theorem ptO {e : Expr} (h : S.In X) : PT X e (ttOf S e) := ⟨fun pins s σ H Q I ⟨_, p, q⟩ => (p X h).run pins s σ H Q I q⟩
theorem pwO {e : Expr} (h : S.In X) : PW X e (twOf S e) := ⟨fun wh pins s σ H Q I ⟨_, p, q⟩ => (p X h).run wh pins s σ H Q I q⟩
theorem paO {es : List Expr} (h : S.In X) : PA X es (taOf S es) := ⟨fun pos pins s σ H Q I ⟨_, p, q⟩ => (p X h).run pos pins s σ H Q I q⟩
theorem psO {st : Stmt} (h : S.In X) : PS X st (tsOf S st) := ⟨fun pins s σ H D I ⟨_, p, q⟩ => (p X h).run pins s σ H D I q⟩
theorem pbO {sts : List Stmt} (h : S.In X) : PSs X sts (tbOf S sts) := ⟨fun pins s σ H D I ⟨_, p, q⟩ => (p X h).run pins s σ H D I q⟩
end
def GlS (S : Stc) (x : Str) : Prop := S.sc.names.lookup x = some .globalImplicit
theorem GlS.gl {S : Stc} {X : Cx} {x : Str} (g : GlS S x) (h : S.In X) : Gl X x := by
  show X.env.scope.names.lookup x = some .globalImplicit
  rw [h.sc]
  exact g
theorem visS {S : Stc} {X : Cx} {x : Str} (g : Vis S.sc x) (h : S.In X) : Vis X.env.scope x := by rw [h.sc]; exact g
theorem locS {S : Stc} {X : Cx} {x : Str} (g : Loc S.sc x) (h : S.In X) : Loc X.env.scope x := by rw [h.sc]; exact g
theorem mgS {S : Stc} {X : Cx} {x : Str} {u : Option Value} (g : S.mg x = u) (h : S.In X) : X.mg x = u := by rw [h.mg]; exact g
theorem fnokS {S : Stc} {X : Cx} {CX : CXT} {k : Nat} {f : Addr} {fd : FuncData} {ps : List Str} {sp : Sp} (F : FnOk S.P S.w S.K S.mg S.base CX k f fd ps sp) (h : S.In X) : FnOk X.prog X.w X.K X.mg X.base CX k f fd ps sp := by
  rw [h.prog, h.w, h.K, h.mg, h.base]
  exact F
/-! ### the judgements -/
variable {α β γ δ τ ω ρ : Type}
/-- a value has come, things were added -/
def Got (R : OP) (W : Wd) (Q : VK) : Prop := ∀ v W' Fv, Ext W W' → (∀ a ∈ Fv, W.H a = none) → FpOk W' Fv → R.C W' v Fv → Q v W'.H
/-- a pure expression: its mirror m (none: no claim), what its value is -/
def JN (S : Stc) (e : Expr) (Γ : Ctx) (m : Option α) (R : α → OP) : Prop :=
  ∀ σ W F, Sta Γ σ W F → ∀ x, m = some x → ∀ Q : VK, Got (R x) W Q → tOf S e σ W.H Q
/-- .. read where it stands: what is owned stays with its owner -/
def JR (S : Stc) (e : Expr) (Γ : Ctx) (m : Option α) (R : α → OP) : Prop :=
  ∀ σ W F, Sta Γ σ W F → ∀ x, m = some x → ∀ Q : VK, (∀ v W', Ext W W' → (∃ F1, (R x).C W' v F1 ∧ ∀ a ∈ F1, W'.H a ≠ none) → Q v W'.H) → tOf S e σ W.H Q
/-- a pure test -/
def JT (S : Stc) (e : Expr) (Γ : Ctx) (m : Option Bool) : Prop :=
  ∀ σ W F, Sta Γ σ W F → ∀ b, m = some b → ∀ Q : Bool → Hp → Prop, (∀ W', Ext W W' → Q b W'.H) → ttOf S e σ W.H Q
def JW (S : Stc) (e : Expr) (Γ : Ctx) (m : Option Bool) : Prop :=
  ∀ σ W F, Sta Γ σ W F → ∀ b, m = some b → ∀ Q : Bool → Hp → Prop, (∀ W', Ext W W' → Q b W'.H) → twOf S e σ W.H Q
/-- pure arguments, all shared -/
def JA (S : Stc) (es : List Expr) (Γ : Ctx) (m : Option α) (R : α → List SP) : Prop :=
  ∀ σ W F, Sta Γ σ W F → ∀ x, m = some x → ∀ Q : List V → Hp → Prop, (∀ vs W', Ext W W' → Hets W'.B vs (R x) → Q vs W'.H) → taOf S es σ W.H Q
/-- an expression that changes what is owned: Γ by the state s -/
def JE (S : Stc) (e : Expr) (Γ : τ → Ctx) (s : τ) (m : Option (α × τ)) (R : α → OP) : Prop :=
  ∀ σ W F, Sta (Γ s) σ W F → ∀ x, m = some x → ∀ Q : VK, (∀ v W' F' Fv, Stp W F W' (F' ++ Fv) → Sta (Γ x.2) σ W' F' → FpOk W' (F' ++ Fv) → (R x.1).C W' v Fv → Q v W'.H) → tOf S e σ W.H Q
/-- how a block may end -/
inductive Kd where
  | nx (Γ : Ctx)
  | rt (Γ : Ctx) (R : OP)
  | bk (Γ : Ctx)
  | ct (Γ : Ctx)
  | xc (Γ : Ctx) (R : XP)
/-- the slots that must stay -/
def Keep (prot : List Nat) (σ σ' : St) : Prop := ∀ p ∈ prot, σ'[p]? = σ[p]?
theorem Keep.refl {prot : List Nat} {σ : St} : Keep prot σ σ := fun _ _ => rfl
theorem Keep.trans {prot : List Nat} {σ σ1 σ2 : St} (a : Keep prot σ σ1) (b : Keep prot σ1 σ2) : Keep prot σ σ2 := fun p h => (b p h).trans (a p h)
theorem Keep.set {prot : List Nat} {σ : St} {i : Nat} {v : Option V} (h : i ∉ prot) : Keep prot σ (σ.set i v) := fun p hp => List.getElem?_set_ne fun e => h (by rw [e]; exact hp)
theorem ncon {prot : List Nat} {i : Nat} (h : prot.contains i = false) : i ∉ prot := fun z => by
  rw [List.contains_iff_mem.mpr z] at h
  cases h
def Post (wx : WX) (prot : List Nat) (σ : St) (W : Wd) (F : List Addr) (D : Ends) : Kd → Prop
  | .nx Γ => ∀ σ' W' F', Keep prot σ σ' → Stp W F W' F' → Sta Γ σ' W' F' → D.nx σ' W'.H
  | .bk Γ => ∀ σ' W' F', Keep prot σ σ' → Stp W F W' F' → Sta Γ σ' W' F' → D.bk σ' W'.H
  | .ct Γ => ∀ σ' W' F', Keep prot σ σ' → Stp W F W' F' → Sta Γ σ' W' F' → D.ct σ' W'.H
  | .rt Γ R => ∀ v σ' W' F' Fv, Keep prot σ σ' → Stp W F W' (F' ++ Fv) → Sta Γ σ' W' F' → FpOk W' (F' ++ Fv) → R.C W' v Fv → D.rt v W'.H
  | .xc Γ R => ∀ c d σ' W' F', Keep prot σ σ' → Stp W F W' F' → Sta Γ σ' W' F' → R.P W'.B c d → wx c d σ' W'.H
/-- a block: its mirror, and how each outcome ends -/
def JB (S : Stc) (sts : List Stmt) (Γ : Ctx) (m : Option ω) (D : ω → Kd) : Prop :=
  ∀ σ W F, Sta Γ σ W F → ∀ x, m = some x → ∀ E : Ends, Post S.W S.prot σ W F E (D x) → tbOf S sts E σ W.H
/-- one statement -/
def JS (S : Stc) (st : Stmt) (Γ : Ctx) (m : Option ω) (D : ω → Kd) : Prop :=
  ∀ σ W F, Sta Γ σ W F → ∀ x, m = some x → ∀ E : Ends, Post S.W S.prot σ W F E (D x) → tsOf S st E σ W.H
theorem Post.before {wx : WX} {prot : List Nat} {σ σ1 : St} {W W1 : Wd} {F F1 : List Addr} {D : Ends} {k : Kd} (p : Post wx prot σ W F D k) (hk : Keep prot σ σ1) (hs : Stp W F W1 F1) : Post wx prot σ1 W1 F1 D k := by
  cases k with
  | nx Γ => exact fun σ' W' F' a b c => p σ' W' F' (hk.trans a) (hs.trans b) c
  | bk Γ => exact fun σ' W' F' a b c => p σ' W' F' (hk.trans a) (hs.trans b) c
  | ct Γ => exact fun σ' W' F' a b c => p σ' W' F' (hk.trans a) (hs.trans b) c
  | rt Γ R => exact fun v σ' W' F' Fv a b c d e => p v σ' W' F' Fv (hk.trans a) (hs.trans b) c d e
  | xc Γ R => exact fun v d σ' W' F' a b c e => p v d σ' W' F' (hk.trans a) (hs.trans b) c e
section
variable {S : Stc} {Γ Δ : Ctx} {a b c e : Expr} {es : List Expr} {pos : Pos}
theorem JN.cong {m m' : Option α} {R : α → OP} (h : JN S e Γ m R) (q : m = m') : JN S e Γ m' R := q ▸ h
theorem JB.cong {sts : List Stmt} {m m' : Option ω} {D : ω → Kd} (h : JB S sts Γ m D) (q : m = m') : JB S sts Γ m' D := q ▸ h
theorem JN.weak {m : Option α} {R : α → OP} (w : Weak Γ Δ) (h : JN S e Δ m R) : JN S e Γ m R := fun σ W F st x hx Q k => by
  obtain ⟨F', st', _⟩ := st.weak w
  exact h σ W F' st' x hx Q k
theorem JB.weak {sts : List Stmt} {m : Option ω} {D : ω → Kd} (w : Weak Γ Δ) (h : JB S sts Δ m D) : JB S sts Γ m D := fun σ W F st x hx E k => by
  obtain ⟨F', st', sub⟩ := st.weak w
  exact h σ W F' st' x hx E (k.before Keep.refl ((Stp.refl st.ok).perm sub))
/-- mirrors of the value and of the description -/
theorem JN.map {m : Option α} {R : α → OP} {R' : β → OP} {f : α → β} (h : JN S e Γ m R) (hR : ∀ x W v F, (R x).C W v F → (R' (f x)).C W v F) : JN S e Γ (m.bind fun x => some (f x)) R' := fun σ W F st y hy Q k => by
  cases hm : m with
  | none => rw [hm] at hy; cases hy
  | some x =>
    rw [hm] at hy
    cases hy
    exact h σ W F st x hm Q fun v W' Fv e fr fp r => k v W' Fv e fr fp (hR x W' v Fv r)
/-! ### what is owned becomes shared -/
theorem FpOk.head {W : Wd} {a : Addr} {F : List Addr} (f : FpOk W (a :: F)) : a ∉ F := (List.nodup_cons.mp f.nd).1
/-- freezing with the footprint's own facts -/
structure FrzN (R : OP) (P : SP) : Prop where
  run : ∀ {W v F}, R.C W v F → F.Nodup → (∀ a ∈ F, W.B a = none) → Ex W.B W.H → ∃ B', Ex W.B B' ∧ Ex B' W.H ∧ (∀ a, W.B a = none → a ∉ F → B' a = none) ∧ P.P B' v
theorem fz_sh {p : SP} : FrzN (sh p) p := ⟨fun {W v F} h _ _ ok => ⟨W.B, Ex.refl _, ok, fun _ h _ => h, h.2⟩⟩
theorem fz_owns {E : α → OP} {G : α → SP} (f : ∀ x, FrzN (E x) (G x)) : ∀ {vs : List V} {xs : List α} {W : Wd} {F : List Addr}, Owns E W vs xs F → F.Nodup → (∀ a ∈ F, W.B a = none) → Ex W.B W.H →
    ∃ B', Ex W.B B' ∧ Ex B' W.H ∧ (∀ a, W.B a = none → a ∉ F → B' a = none) ∧ Each G B' vs xs
  | [], [], W, F, _, _, _, ok => ⟨W.B, Ex.refl _, ok, fun _ h _ => h, trivial⟩
  | v :: vs, x :: xs, W, F, ⟨F1, F2, h1, h2, h3⟩, nd, fr, ok => by
    subst h1
    have nd' := List.nodup_append.mp nd
    obtain ⟨B1, a1, a2, a3, a4⟩ := (f x).run h2 nd'.1 (fun a ha => fr a (List.mem_append_left _ ha)) ok
    obtain ⟨B2, b1, b2, b3, b4⟩ := fz_owns f (W := ⟨W.H, B1⟩) (h3.loc (W' := ⟨W.H, B1⟩) a1 fun _ _ => rfl) nd'.2.1 (fun a ha => a3 a (fr a (List.mem_append_right _ ha)) fun z => nd'.2.2 a z a ha rfl) a2
    exact ⟨B2, a1.trans b1, b2, fun a h n => b3 a (a3 a h fun z => n (List.mem_append_left _ z)) fun z => n (List.mem_append_right _ z), SP.mono _ a4 b1, b4⟩
  | [], _ :: _, _, _, h, _, _, _ => h.elim
  | _ :: _, [], _, _, h, _, _, _ => h.elim
theorem fz_lst {E : α → OP} {G : α → SP} (f : ∀ x, FrzN (E x) (G x)) (xs : List α) : FrzN (lstO E xs) (lstS G xs) := ⟨fun {W v F} h nd fr ok => by
  obtain ⟨a, vs, F2, rfl, h2, rfl, h4⟩ := h
  have nd' := List.nodup_cons.mp nd
  obtain ⟨B1, a1, a2, a3, a4⟩ := fz_owns f h4 nd'.2 (fun b hb => fr b (List.mem_cons_of_mem _ hb)) ok
  have na : B1 a = none := a3 a (fr a List.mem_cons_self) nd'.1
  refine ⟨upd B1 a (.lst vs), a1.trans (Ex.new na), fun b o e => ?_, fun b hb n => ?_, a, vs, rfl, upd_same, a4.mono (Ex.new na)⟩
  · by_cases z : b = a
    · subst z
      rw [upd_same] at e
      rw [h2]
      exact e
    · rw [upd_ne z] at e
      exact a2 b o e
  · have z : b ≠ a := fun z => n (z ▸ List.mem_cons_self)
    rw [upd_ne z]
    exact a3 b hb fun q => n (List.mem_cons_of_mem _ q)⟩
theorem fz_het {ps : List OP} {qs : List SP} : ∀ {vs : List V} {ps : List OP} {qs : List SP} {W : Wd} {F : List Addr}, HetO W vs ps F → Paired FrzN ps qs → F.Nodup → (∀ a ∈ F, W.B a = none) → Ex W.B W.H →
    ∃ B', Ex W.B B' ∧ Ex B' W.H ∧ (∀ a, W.B a = none → a ∉ F → B' a = none) ∧ Hets B' vs qs
  | [], [], _, W, F, _, .nil, _, _, ok => ⟨W.B, Ex.refl _, ok, fun _ h _ => h, trivial⟩
  | v :: vs, x :: xs, _, W, F, ⟨F1, F2, h1, h2, h3⟩, .cons f fs, nd, fr, ok => by
    subst h1
    have nd' := List.nodup_append.mp nd
    obtain ⟨B1, a1, a2, a3, a4⟩ := f.run h2 nd'.1 (fun a ha => fr a (List.mem_append_left _ ha)) ok
    obtain ⟨B2, b1, b2, b3, b4⟩ := fz_het (ps := ps) (qs := qs) (W := ⟨W.H, B1⟩) (h3.loc (W' := ⟨W.H, B1⟩) a1 fun _ _ => rfl) fs nd'.2.1 (fun a ha => a3 a (fr a (List.mem_append_right _ ha)) fun z => nd'.2.2 a z a ha rfl) a2
    exact ⟨B2, a1.trans b1, b2, fun a h n => b3 a (a3 a h fun z => n (List.mem_append_left _ z)) fun z => n (List.mem_append_right _ z), SP.mono _ a4 b1, b4⟩
  | [], _ :: _, _, _, _, h, _, _, _, _ => h.elim
  | _ :: _, [], _, _, _, h, _, _, _, _ => h.elim
/-- a fresh value frozen on the way -/
theorem JN.frz {m : Option α} {R : α → OP} {P : α → SP} (f : ∀ x, FrzN (R x) (P x)) (h : JN S e Γ m R) : JN S e Γ m fun x => sh (P x) := fun σ W F st x hx Q k =>
  h σ W F st x hx Q fun v W' Fv ext fresh fp r => by
    obtain ⟨B', b1, b2, b3, b4⟩ := (f x).run r fp.nd fp.fr ext.ok
    have e2 : Ext W ⟨W'.H, B'⟩ := ⟨b2, ext.h, ext.b.trans b1, fun a h1 h2 => b3 a (ext.fr a h1 h2) fun z => h1 (fresh a z)⟩
    exact k v ⟨W'.H, B'⟩ [] e2 (fun _ h => (List.not_mem_nil h).elim) FpOk.nil ⟨rfl, b4⟩
theorem FrzN.lst (E : α → SP) : ∀ xs : List α, FrzN (lstO (fun x => sh (E x)) xs) (lstS E xs) := fz_lst fun _ => fz_sh
theorem FrzN.lst2 (E : α → SP) : ∀ xs : List (List α), FrzN (lstO (fun ys => lstO (fun x => sh (E x)) ys) xs) (lstS (lstS E) xs) := fz_lst fun ys => fz_lst (fun _ => fz_sh) ys
/-- a slot frozen -/
theorem JB.frz {sts : List Stmt} {m : Option ω} {D : ω → Kd} {i : Nat} {o : OP} {p : SP} (hi : Γ[i]? = some (some o)) (f : FrzN o p) (h : JB S sts (Γ.set i (some (sh p))) m D) : JB S sts Γ m D := fun σ W F st x hx E k => by
  obtain ⟨v, F1, F2, a1, a2, a3, a4⟩ := st.hold.at hi
  have fp := st.fp.perm a3
  obtain ⟨B', b1, b2, b3, b4⟩ := f.run a2 fp.left.nd fp.left.fr st.ok
  obtain ⟨F', c1, c2⟩ := a4 ⟨W.H, B'⟩ (sh p) v [] b1 (fun _ _ => rfl) ⟨rfl, b4⟩
  have sub : ∀ a ∈ F', a ∈ F2 := fun a ha => by simpa using c2.mem_iff.mp ha
  have fp' : FpOk ⟨W.H, B'⟩ F' := by
    refine FpOk.perm (F := F2) ?_ (by simpa using c2.symm)
    exact ⟨fp.right.nd, fp.right.al, fun a ha => b3 a (fp.right.fr a ha) fun z => fp.disj a z ha⟩
  have hset : σ.set i (some v) = σ := by
    refine List.ext_getElem? fun j => ?_
    by_cases e : i = j
    · subst e
      rw [a1, List.getElem?_set_self (List.getElem?_eq_some_iff.mp a1).1]
    · rw [List.getElem?_set_ne e]
  rw [hset] at c1
  refine h σ ⟨W.H, B'⟩ F' ⟨b2, fp', by rw [List.length_set]; exact st.len, c1⟩ x hx E (k.before Keep.refl ?_)
  refine ⟨b2, b1, fun a o h _ => h, fun a h => h, fun a h1 h2 n => b3 a h2 fun z => n (a3.mem_iff.mpr (List.mem_append_left _ z)), fun a ha => .inl (a3.mem_iff.mpr (List.mem_append_right _ (sub a ha)))⟩
/-! ### names and constants -/
theorem jn_var {E : α → SP} {a : α} {x : Str} (i : Nat) (hi : Γ[i]? = some (some (sh (E a))) := by rfl) (hN : S.N[i]? = some x := by rfl) (hv : Vis S.sc x := by first | exact Or.inl rfl | exact Or.inr (Or.inl rfl) | exact Or.inr (Or.inr rfl))
    (hd : (x == ("__debug__" : Str)) = false := by decide) (hcd : (x == ("__classdict__" : Str)) = false := by decide) : JN S (.Name x pos) Γ (some a) fun a => sh (E a) := fun σ W F st y hy Q k => by
  cases hy
  obtain ⟨v, h1, h2⟩ := st.get hi
  exact ⟨tVar i, fun X hX => pe_var (by rw [hX.N]; exact hN) (visS hv hX) hd hcd, v, h1, k v W [] (Ext.refl st.ok) (fun _ h => (List.not_mem_nil h).elim) FpOk.nil ⟨rfl, h2⟩⟩
theorem jr_var {R : α → OP} {a : α} {x : Str} (i : Nat) (hi : Γ[i]? = some (some (R a)) := by rfl) (hN : S.N[i]? = some x := by rfl) (hv : Vis S.sc x := by first | exact Or.inl rfl | exact Or.inr (Or.inl rfl) | exact Or.inr (Or.inr rfl))
    (hd : (x == ("__debug__" : Str)) = false := by decide) (hcd : (x == ("__classdict__" : Str)) = false := by decide) : JR S (.Name x pos) Γ (some a) R := fun σ W F st y hy Q k => by
  cases hy
  obtain ⟨v, F1, F2, h1, h2, h3, _⟩ := st.hold.at hi
  exact ⟨tVar i, fun X hX => pe_var (by rw [hX.N]; exact hN) (visS hv hX) hd hcd, v, h1, k v W (Ext.refl st.ok) ⟨F1, h2, fun a ha => st.fp.al a (h3.mem_iff.mpr (List.mem_append_left _ ha))⟩⟩
theorem jr_of {m : Option α} {R : α → OP} (h : JN S e Γ m R) : JR S e Γ m R := fun σ W F st x hx Q k => h σ W F st x hx Q fun v W' Fv e _ fp r => k v W' e ⟨Fv, r, fp.al⟩
theorem jn_of {m : Option α} {P : α → SP} (h : JR S e Γ m fun x => sh (P x)) : JN S e Γ m fun x => sh (P x) := fun σ W F st x hx Q k => h σ W F st x hx Q fun v W' e r => by
  obtain ⟨F1, r, _⟩ := r
  exact k v W' [] e (fun _ h => (List.not_mem_nil h).elim) FpOk.nil ⟨rfl, r.2⟩
theorem jn_c {v : V} {E : α → SP} {a : α} (hp : ∀ X, S.In X → PE X e (tC v)) (hv : ∀ B, (E a).P B v) : JN S e Γ (some a) fun a => sh (E a) := fun σ W F st y hy Q k => by
  cases hy
  exact ⟨tC v, hp, k v W [] (Ext.refl st.ok) (fun _ h => (List.not_mem_nil h).elim) FpOk.nil ⟨rfl, hv _⟩⟩
theorem jn_int {i j} : JN S (.Constant (.int i) j pos) Γ (some i) fun a => sh (intS a) := jn_c (fun _ _ => pe_int) fun _ => rfl
theorem jn_bl {b j} : JN S (.Constant (.bool b) j pos) Γ (some b) fun a => sh (boolS a) := jn_c (fun _ _ => pe_bl) fun _ => rfl
theorem jn_str {x j} : JN S (.Constant (.str x) j pos) Γ (some x) fun a => sh (strS a) := jn_c (fun _ _ => pe_str) fun _ => rfl
theorem jn_non {j} : JN S (.Constant .none j pos) Γ (some ()) fun _ => sh nonS := jn_c (E := fun _ => nonS) (fun _ _ => pe_non) fun _ => rfl
/-! ### operators -/
/-- a two-place operation on shared values -/
def OpV (r : R2) (E : α → SP) (G : β → SP) (f : α → β → Option γ) (R : γ → OP) : Prop :=
  ∀ W x y v u z, Ex W.B W.H → (E x).P W.B v → (G y).P W.B u → f x y = some z → ∀ Q : VK, Got (R z) W Q → r v u W.H Q
theorem Got.val {p : SP} {W : Wd} {Q : VK} {v : V} (k : Got (sh p) W Q) (ok : Ex W.B W.H) (h : p.P W.B v) : Q v W.H := k v W [] (Ext.refl ok) (fun _ h => (List.not_mem_nil h).elim) FpOk.nil ⟨rfl, h⟩
theorem Got.ext {R : OP} {W W1 : Wd} {Q : VK} (k : Got R W Q) (e : Ext W W1) : Got R W1 Q := fun v W' Fv e1 fr fp r => k v W' Fv (e.trans e1) (fun a ha => e.h.back (fr a ha)) fp r
theorem run2 {ma : Option α} {mb : Option β} {f : α → β → Option γ} {z : γ} (h : (ma.bind fun x => mb.bind fun y => f x y) = some z) : ∃ x y, ma = some x ∧ mb = some y ∧ f x y = some z := by
  cases ma with
  | none => cases h
  | some x =>
    cases mb with
    | none => cases h
    | some y => exact ⟨x, y, rfl, rfl, h⟩
theorem run1 {ma : Option α} {f : α → Option γ} {z : γ} (h : (ma.bind fun x => f x) = some z) : ∃ x, ma = some x ∧ f x = some z := by
  cases ma with
  | none => cases h
  | some x => exact ⟨x, rfl, h⟩
theorem tOp_run {r : R2} {E : α → SP} {G : β → SP} {f : α → β → Option γ} {R : γ → OP} {ma : Option α} {mb : Option β} (ha : JN S a Γ ma fun x => sh (E x)) (hb : JN S b Γ mb fun y => sh (G y)) (hr : OpV r E G f R)
    {σ : L2.St} {W : Wd} {F : List Addr} (st : Sta Γ σ W F) {z : γ} (hz : (ma.bind fun x => mb.bind fun y => f x y) = some z) {Q : VK} (k : Got (R z) W Q) : tOp r (tOf S a) (tOf S b) σ W.H Q := by
  obtain ⟨x, y, h1, h2, h3⟩ := run2 hz
  refine ha σ W F st x h1 _ fun v W1 F1 e1 _ _ r1 => ?_
  refine hb σ W1 F (st.ext e1) y h2 _ fun u W2 F2 e2 _ _ r2 => ?_
  exact hr W2 x y v u z e2.ok (SP.mono _ r1.2 e2.b) r2.2 h3 Q (k.ext (e1.trans e2))
theorem jn_bin {op : Operator} {r : R2} {E : α → SP} {G : β → SP} {f : α → β → Option γ} {R : γ → OP} {ma : Option α} {mb : Option β} (ho : ∀ X, S.In X → OpR X (binaryOp op) r) (hr : OpV r E G f R)
    (ha : JN S a Γ ma fun x => sh (E x)) (hb : JN S b Γ mb fun y => sh (G y)) : JN S (.BinOp a op b pos) Γ (ma.bind fun x => mb.bind fun y => f x y) R := fun σ W F st z hz Q k =>
  ⟨tOp r (tOf S a) (tOf S b), fun X hX => pe_op (ho X hX) (peO hX) (peO hX), tOp_run ha hb hr st hz k⟩
theorem jn_cmp {op : CmpOp} {r : R2} {E : α → SP} {G : β → SP} {f : α → β → Option γ} {R : γ → OP} {ma : Option α} {mb : Option β} (ho : ∀ X, S.In X → OpR X (compareOp op) r) (hr : OpV r E G f R)
    (ha : JN S a Γ ma fun x => sh (E x)) (hb : JN S b Γ mb fun y => sh (G y)) (hm : behindInMarks op b = false := by first | exact nomark _ | rfl) : JN S (.Compare a [op] [b] pos) Γ (ma.bind fun x => mb.bind fun y => f x y) R := fun σ W F st z hz Q k =>
  ⟨tOp r (tOf S a) (tOf S b), fun X hX => pe_cmpR (ho X hX) (peO hX) (peO hX) hm, tOp_run ha hb hr st hz k⟩
theorem jt_cmp {op : CmpOp} {r : R2} {E : α → SP} {G : β → SP} {f : α → β → Option Bool} {ma : Option α} {mb : Option β} (ho : ∀ X, S.In X → OpR X (compareOp op) r) (hr : OpV r E G f fun z => sh (boolS z))
    (ha : JN S a Γ ma fun x => sh (E x)) (hb : JN S b Γ mb fun y => sh (G y)) (hm : behindInMarks op b = false := by first | exact nomark _ | rfl) : JT S (.Compare a [op] [b] pos) Γ (ma.bind fun x => mb.bind fun y => f x y) := fun σ W F st z hz Q k =>
  ⟨tTest (tOp r (tOf S a) (tOf S b)), fun X hX => pt_cmpR (ho X hX) (peO hX) (peO hX) hm, tOp_run ha hb hr st hz fun v W' Fv e _ _ h => ⟨z, h.2, k W' e⟩⟩
/-- a subscript of something read where it stands -/
def IxV (r : R2) (R0 : α → OP) (G : β → SP) (f : α → β → Option γ) (R : γ → OP) : Prop :=
  ∀ W x y v u z F1, Ex W.B W.H → (R0 x).C W v F1 → (G y).P W.B u → f x y = some z → ∀ Q : VK, (∀ t, (∃ F2, (R z).C W t F2 ∧ ∀ a ∈ F2, a ∈ F1) → Q t W.H) → r v u W.H Q
theorem jr_ix {r : R2} {R0 : α → OP} {G : β → SP} {f : α → β → Option γ} {R : γ → OP} {ma : Option α} {mb : Option β} (ho : ∀ X, S.In X → IxR X r) (hr : IxV r R0 G f R)
    (ha : JR S a Γ ma R0) (hb : JN S b Γ mb fun y => sh (G y)) (hs : PlainIx b := by exact fun _ _ => rfl) : JR S (.Subscript a b pos) Γ (ma.bind fun x => mb.bind fun y => f x y) R := fun σ W F st z hz Q k => by
  refine ⟨tOp r (tOf S a) (tOf S b), fun X hX => pe_ix (ho X hX) (peO hX) (peO hX) hs, ?_⟩
  obtain ⟨x, y, h1, h2, h3⟩ := run2 hz
  refine ha σ W F st x h1 _ fun v W1 e1 ⟨F1, r1, al1⟩ => ?_
  refine hb σ W1 F (st.ext e1) y h2 _ fun u W2 F2 e2 _ _ r2 => ?_
  have r1' : (R0 x).C W2 v F1 := OP.loc _ r1 e2.b fun a ha => e2.h.eq (al1 a ha)
  exact hr W2 x y v u z F1 e2.ok r1' r2.2 h3 _ fun t ⟨F3, q1, q2⟩ => k t W2 (e1.trans e2) ⟨F3, q1, fun a ha => e2.h.ne (al1 a (q2 a ha))⟩
theorem jn_un {op : UnaryOp} {r : V → Hp → VK → Prop} {E : α → SP} {f : α → Option γ} {R : γ → OP} {ma : Option α} (ho : ∀ X, S.In X → UnR X (unaryOp op) r)
    (hr : ∀ W x v z, Ex W.B W.H → (E x).P W.B v → f x = some z → ∀ Q : VK, Got (R z) W Q → r v W.H Q) (ha : JN S a Γ ma fun x => sh (E x)) : JN S (.UnaryOp op a pos) Γ (ma.bind fun x => f x) R := fun σ W F st z hz Q k => by
  refine ⟨tUn r (tOf S a), fun X hX => pe_un (ho X hX) (peO hX), ?_⟩
  obtain ⟨x, h1, h3⟩ := run1 hz
  exact ha σ W F st x h1 _ fun v W1 F1 e1 _ _ r1 => hr W1 x v z e1.ok r1.2 h3 Q (k.ext e1)
theorem jn_neg {ma : Option Int} (ha : JN S a Γ ma fun x => sh (intS x)) : JN S (.UnaryOp .USub a pos) Γ (ma.bind fun x => some (-x)) fun z => sh (intS z) :=
  jn_un (f := fun x : Int => some (-x)) (fun _ _ => un_neg) (fun W x v z ok h e Q k => by cases e; cases h; exact ⟨x, rfl, k.val ok rfl⟩) ha
/-! ### tests -/
theorem jt_val {m : Option Bool} (h : JN S e Γ m fun z => sh (boolS z)) (he : ∀ env whole, isTrue e env whole = (do let v ← whole; standAt e.pos; holding [v] (truthy v)) := by intro _ _; rfl) : JT S e Γ m := fun σ W F st z hz Q k =>
  ⟨tB (tOf S e), fun X hX => pt_val (peO hX) (he _), h σ W F st z hz _ fun v W' Fv e _ _ r => ⟨z, r.2, k W' e⟩⟩
theorem jt_not {m : Option Bool} (h : JT S e Γ m) : JT S (.UnaryOp .Not e pos) Γ (m.bind fun x => some (!x)) := fun σ W F st z hz Q k => by
  obtain ⟨x, h1, h2⟩ := run1 hz
  cases h2
  exact ⟨tNot (ttOf S e), fun X hX => pt_not (ptO hX), h σ W F st x h1 _ fun W' e => k W' e⟩
theorem jw_and1 {m : Option Bool} (h : JT S a Γ m) : JW S (.BoolOp .And [a] pos) Γ m := fun σ W F st z hz Q k => ⟨ttOf S a, fun X hX => pw_and1 (ptO hX), h σ W F st z hz _ k⟩
theorem jw_or1 {m : Option Bool} (h : JT S a Γ m) : JW S (.BoolOp .Or [a] pos) Γ m := fun σ W F st z hz Q k => ⟨ttOf S a, fun X hX => pw_or1 (ptO hX), h σ W F st z hz _ k⟩
theorem jw_and {ma mb : Option Bool} (ha : JT S a Γ ma) (hb : JW S (.BoolOp .And (b :: es) pos) Γ mb) : JW S (.BoolOp .And (a :: b :: es) pos) Γ (ma.bind fun x => bif x then mb else some false) := fun σ W F st z hz Q k => by
  obtain ⟨x, h1, h2⟩ := run1 hz
  refine ⟨tAnd (ttOf S a) (twOf S (.BoolOp .And (b :: es) pos)), fun X hX => pw_and (ptO hX) (pwO hX), ha σ W F st x h1 _ fun W' e => ?_⟩
  cases x with
  | true => exact iteT (hb σ W' F (st.ext e) z h2 Q fun W'' e' => k W'' (e.trans e'))
  | false =>
    cases h2
    exact iteF (k W' e)
theorem jw_or {ma mb : Option Bool} (ha : JT S a Γ ma) (hb : JW S (.BoolOp .Or (b :: es) pos) Γ mb) : JW S (.BoolOp .Or (a :: b :: es) pos) Γ (ma.bind fun x => bif x then some true else mb) := fun σ W F st z hz Q k => by
  obtain ⟨x, h1, h2⟩ := run1 hz
  refine ⟨tOr (ttOf S a) (twOf S (.BoolOp .Or (b :: es) pos)), fun X hX => pw_or (ptO hX) (pwO hX), ha σ W F st x h1 _ fun W' e => ?_⟩
  cases x with
  | false => exact iteF (hb σ W' F (st.ext e) z h2 Q fun W'' e' => k W'' (e.trans e'))
  | true =>
    cases h2
    exact iteT (k W' e)
theorem jt_w {m : Option Bool} (h : JW S e Γ m) : JT S e Γ m := fun σ W F st z hz Q k => ⟨twOf S e, fun X hX => (pwO hX).pt, h σ W F st z hz Q k⟩
/-- as values: all True or False -/
theorem jn_one {op : BoolOp} {m : Option α} {R : α → OP} (h : JN S a Γ m R) : JN S (.BoolOp op [a] pos) Γ m R := fun σ W F st z hz Q k => ⟨tOf S a, fun X hX => pe_one (peO hX), h σ W F st z hz Q k⟩
theorem jn_and {ma mb : Option Bool} (ha : JN S a Γ ma fun z => sh (boolS z)) (hb : JN S (.BoolOp .And (b :: es) pos) Γ mb fun z => sh (boolS z)) :
    JN S (.BoolOp .And (a :: b :: es) pos) Γ (ma.bind fun x => bif x then mb else some false) fun z => sh (boolS z) := fun σ W F st z hz Q k => by
  obtain ⟨x, h1, h2⟩ := run1 hz
  refine ⟨tAndV (tOf S a) (tOf S (.BoolOp .And (b :: es) pos)), fun X hX => pe_and (peO hX) (peO hX), ha σ W F st x h1 _ fun v W' Fv e _ _ r => ⟨x, r.2, ?_⟩⟩
  cases x with
  | true => exact iteT (hb σ W' F (st.ext e) z h2 Q (k.ext e))
  | false =>
    cases h2
    exact iteF ((k.ext e).val e.ok rfl)
theorem jn_or {ma mb : Option Bool} (ha : JN S a Γ ma fun z => sh (boolS z)) (hb : JN S (.BoolOp .Or (b :: es) pos) Γ mb fun z => sh (boolS z)) :
    JN S (.BoolOp .Or (a :: b :: es) pos) Γ (ma.bind fun x => bif x then some true else mb) fun z => sh (boolS z) := fun σ W F st z hz Q k => by
  obtain ⟨x, h1, h2⟩ := run1 hz
  refine ⟨tOrV (tOf S a) (tOf S (.BoolOp .Or (b :: es) pos)), fun X hX => pe_or (peO hX) (peO hX), ha σ W F st x h1 _ fun v W' Fv e _ _ r => ⟨x, r.2, ?_⟩⟩
  cases x with
  | false => exact iteF (hb σ W' F (st.ext e) z h2 Q (k.ext e))
  | true =>
    cases h2
    exact iteT ((k.ext e).val e.ok rfl)
theorem jn_notV {m : Option Bool} (h : JN S e Γ m fun z => sh (boolS z)) : JN S (.UnaryOp .Not e pos) Γ (m.bind fun x => some (!x)) fun z => sh (boolS z) := fun σ W F st z hz Q k => by
  obtain ⟨x, h1, h2⟩ := run1 hz
  cases h2
  exact ⟨tNotV (tOf S e), fun X hX => pe_not (peO hX), h σ W F st x h1 _ fun v W' Fv e _ _ r => ⟨x, r.2, (k.ext e).val e.ok rfl⟩⟩
theorem jn_if {mc : Option Bool} {ma mb : Option α} {R : α → OP} (hc : JT S c Γ mc) (ha : JN S a Γ ma R) (hb : JN S b Γ mb R) : JN S (.IfExp c a b pos) Γ (mc.bind fun x => bif x then ma else mb) R := fun σ W F st z hz Q k => by
  obtain ⟨x, h1, h2⟩ := run1 hz
  refine ⟨tIf (ttOf S c) (tOf S a) (tOf S b), fun X hX => pe_ifExp (ptO hX) (peO hX) (peO hX), hc σ W F st x h1 _ fun W' e => ?_⟩
  cases x with
  | true => exact iteT (ha σ W' F (st.ext e) z h2 Q (k.ext e))
  | false => exact iteF (hb σ W' F (st.ext e) z h2 Q (k.ext e))
/-! ### arguments, displays, calls -/
theorem ja_nil : JA S [] Γ (some ()) fun _ => [] := fun σ W F st x hx Q k => ⟨tNil, fun _ _ => pa_nil, k [] W (Ext.refl st.ok) trivial⟩
theorem ja_cons {ma : Option α} {mb : Option β} {E : α → SP} {G : β → List SP} (ha : JN S e Γ ma fun x => sh (E x)) (hb : JA S es Γ mb G) (hs : ∀ env, starEach (e :: es) env = (false, eval e env) :: starEach es env := by intro _; rfl) :
    JA S (e :: es) Γ (ma.bind fun x => mb.bind fun y => some (x, y)) fun p => E p.1 :: G p.2 := fun σ W F st z hz Q k => by
  obtain ⟨x, y, h1, h2, h3⟩ := run2 hz
  cases h3
  refine ⟨tCons (tOf S e) (taOf S es), fun X hX => pa_cons (peO hX) (paO hX) (hs _), ?_⟩
  refine ha σ W F st x h1 _ fun v W1 F1 e1 _ _ r1 => ?_
  exact hb σ W1 F (st.ext e1) y h2 _ fun vs W2 e2 h => k (v :: vs) W2 (e1.trans e2) ⟨SP.mono _ r1.2 e2.b, h⟩
theorem jn_tup {m : Option α} {R : α → List SP} {p : SP → Prop} (h : JA S es Γ m R) {k : Nat} (hl : ∀ x, (R x).length ≤ 1000 := by intro _; decide) : JN S (.Tuple es k pos) Γ m fun x => sh (htupS (R x)) := fun σ W F st x hx Q kk =>
  ⟨tTup (taOf S es), fun X hX => pe_tup (paO hX), h σ W F st x hx _ fun vs W' e hh => by
    refine ⟨Nat.le_trans (by rw [hh.len]; exact hl x) (by decide), fun q hq => ?_⟩
    have e2 := Ext.newB e.ok (o := .tup vs) hq
    exact kk (.ref q) ⟨upd W'.H q (.tup vs), upd W'.B q (.tup vs)⟩ [] (e.trans e2) (fun _ h => (List.not_mem_nil h).elim) FpOk.nil ⟨rfl, q, vs, rfl, upd_same, hh.mono e2.b⟩⟩
/-- a call of a builtin by values -/
theorem jn_callB {x : Str} {id : String} {p : Pos} {r : List V → Hp → VK → Prop} {m : Option α} {G : α → List SP} {f : α → Option γ} {R : γ → OP} (hc : ∀ X, S.In X → CallR X (.builtin id) r)
    (hr : ∀ W x vs z, Ex W.B W.H → Hets W.B vs (G x) → f x = some z → ∀ Q : VK, Got (R z) W Q → r vs W.H Q) (hm : S.mg x = none) (ha : JA S (e :: es) Γ m G)
    (hg : GlS S x := by rfl) (hv : bootBuiltins x = some (.builtin id) := by decide +kernel) (hn : x ≠ "__name__" := by decide) (hdb : (x == ("__debug__" : Str)) = false := by decide)
    (he : ∀ env, starEach (e :: es) env = (false, eval e env) :: starEach es env := by intro _; rfl) (hpl : ∀ env, (backTo pos (starEach es env)).any (·.1) = false := by intro _; rfl) : JN S (.Call (.Name x p) (e :: es) [] pos) Γ (m.bind fun y => f y) R := fun σ W F st z hz Q k => by
  obtain ⟨y, h1, h2⟩ := run1 hz
  exact ⟨tCB r (taOf S (e :: es)), fun X hX => pe_callB (hc X hX) (hg.gl hX) (mgS hm hX) hv (paO hX) hn hdb (he _) (hpl _), ha σ W F st y h1 _ fun vs W' e hh => hr W' y vs z e.ok hh h2 Q (k.ext e)⟩
theorem jn_callTy {x : Str} {T : String} {p : Pos} {r : List V → Hp → VK → Prop} {m : Option α} {G : α → List SP} {f : α → Option γ} {R : γ → OP} (hc : ∀ X, S.In X → CallR X (.type T) r)
    (hr : ∀ W x vs z, Ex W.B W.H → Hets W.B vs (G x) → f x = some z → ∀ Q : VK, Got (R z) W Q → r vs W.H Q) (hm : S.mg x = none) (ha : JA S (e :: es) Γ m G)
    (hg : GlS S x := by rfl) (hv : bootBuiltins x = some (.type T) := by decide +kernel) (hn : x ≠ "__name__" := by decide) (hdb : (x == ("__debug__" : Str)) = false := by decide)
    (he : ∀ env, starEach (e :: es) env = (false, eval e env) :: starEach es env := by intro _; rfl) (hpl : ∀ env, (backTo pos (starEach es env)).any (·.1) = false := by intro _; rfl) : JN S (.Call (.Name x p) (e :: es) [] pos) Γ (m.bind fun y => f y) R := fun σ W F st z hz Q k => by
  obtain ⟨y, h1, h2⟩ := run1 hz
  exact ⟨tCB r (taOf S (e :: es)), fun X hX => pe_callTy (hc X hX) (hg.gl hX) (mgS hm hX) hv (paO hX) hn hdb (he _) (hpl _), ha σ W F st y h1 _ fun vs W' e hh => hr W' y vs z e.ok hh h2 Q (k.ext e)⟩
end
end CC
set_option maxHeartbeats 4000000
/-! Walks, comprehensions, loops, calls. -/
namespace CC
open PySem PySem.Spec L2
open PyProof.Rows hiding St
variable {α β γ δ τ ω ρ : Type}
/-- the length up to which lists are claimed -/
def LIM : Nat := 1000000
theorem lim_le {n : Nat} (h : n ≤ LIM) : n ≤ sizeLine := Nat.le_trans h (by decide)
theorem lim_lt {n : Nat} (h : n < LIM) : n < sizeLine := Nat.lt_of_lt_of_le h (by decide)
/-! ### walks -/
def ItOk (J : It) (C : Wd → Prop) (xs : List α) (E : α → SP) : Prop :=
  ∀ W1, C W1 → (∀ i x, xs[i]? = some x → J.go i W1.H ∧ ∀ v H', J.yld i W1.H v H' → ∃ W2, W2.H = H' ∧ Ext W1 W2 ∧ (E x).P W2.B v) ∧ ∀ i, xs.length ≤ i → J.stop i W1.H
def tiOf (S : Stc) (tg iter : Expr) : TI := fun σ H R => ∃ wi : TI, (∀ X, S.In X → PI X tg iter wi) ∧ wi σ H R
theorem piO {S : Stc} {X : Cx} {tg e : Expr} (h : S.In X) : PI X tg e (tiOf S tg e) := ⟨fun pins s σ H R I ⟨_, p, q⟩ => (p X h).run pins s σ H R I q⟩
/-- a walk over what is shared -/
def JI (S : Stc) (tg iter : Expr) (Γ : Ctx) (m : Option (List α)) (E : α → SP) : Prop :=
  ∀ σ W F, Sta Γ σ W F → ∀ xs, m = some xs → ∀ R : It → Hp → Prop, (∀ J W', Ext W W' → ItOk J (fun W1 => Ex W1.B W1.H ∧ Ex W'.B W1.B) xs E → R J W'.H) → tiOf S tg iter σ W.H R
/-- .. over what stands as it stands now -/
def JIc (S : Stc) (tg iter : Expr) (Γ : Ctx) (m : Option (List α)) (E : α → SP) : Prop :=
  ∀ σ W F, Sta Γ σ W F → ∀ xs, m = some xs → ∀ R : It → Hp → Prop, (∀ J W', Ext W W' → ItOk J (fun W1 => Ext W' W1) xs E → R J W'.H) → tiOf S tg iter σ W.H R
section
variable {S : Stc} {Γ Δ : Ctx} {a b c e tg iter elt : Expr} {es ifs : List Expr} {pos : Pos}
theorem jic_of {m : Option (List α)} {E : α → SP} (h : JI S tg iter Γ m E) : JIc S tg iter Γ m E := fun σ W F st xs hx R k => h σ W F st xs hx R fun J W' e ok => k J W' e fun W1 e1 => ok W1 ⟨e1.ok, e1.b⟩
theorem ok_list {K : PySem.W.Frag} {C : Wd → Prop} {p : Addr} {xs : List α} {E : α → SP} (h : ∀ W1, C W1 → Ex W1.B W1.H ∧ ∃ vs, W1.H p = some (.lst vs) ∧ Each E W1.B vs xs) : ItOk (Itl K p) C xs E := fun W1 c => by
  obtain ⟨ok, vs, h1, h2⟩ := h W1 c
  have hq : SqL K W1.H p vs := .inl (.inl h1)
  refine ⟨fun i x hx => ?_, fun i hi => ⟨vs, hq, by rw [h2.len]; exact hi⟩⟩
  obtain ⟨v, hv, pv⟩ := h2.get hx
  refine ⟨⟨vs, v, hq, hv⟩, fun u H' ⟨e1, e2⟩ => ⟨W1, e1.symm, Ext.refl ok, ?_⟩⟩
  have q := e2 vs hq
  rw [hv] at q
  cases q
  exact pv
theorem ok_tup {K : PySem.W.Frag} {C : Wd → Prop} {p : Addr} {xs : List α} {E : α → SP} (h : ∀ W1, C W1 → Ex W1.B W1.H ∧ ∃ vs, W1.H p = some (.tup vs) ∧ Each E W1.B vs xs) : ItOk (Itt K p) C xs E := fun W1 c => by
  obtain ⟨ok, vs, h1, h2⟩ := h W1 c
  have hq : SqT K W1.H p vs := .inl (.inl h1)
  refine ⟨fun i x hx => ?_, fun i hi => ⟨vs, hq, by rw [h2.len]; exact hi⟩⟩
  obtain ⟨v, hv, pv⟩ := h2.get hx
  refine ⟨⟨vs, v, hq, hv⟩, fun u H' ⟨e1, e2⟩ => ⟨W1, e1.symm, Ext.refl ok, ?_⟩⟩
  have q := e2 vs hq
  rw [hv] at q
  cases q
  exact pv
theorem ji_lst {m : Option (List α)} {E : α → SP} (h : JN S iter Γ m fun xs => sh (lstS E xs)) : JI S tg iter Γ m E := fun σ W F st xs hx R k => by
  refine ⟨iList S.K (tOf S iter), fun X hX => hX.K ▸ pi_list (peO hX), h σ W F st xs hx _ fun v W' Fv ext _ _ r => ?_⟩
  obtain ⟨_, a, vs, rfl, h2, h3⟩ := r
  refine ⟨a, rfl, ⟨vs, .inl (.inl (ext.ok a _ h2))⟩, k _ W' ext (ok_list fun W1 c => ⟨c.1, vs, c.1 a _ (c.2 a _ h2), h3.mono c.2⟩)⟩
theorem ji_tup {m : Option (List α)} {E : α → SP} (h : JN S iter Γ m fun xs => sh (tupS E xs)) : JI S tg iter Γ m E := fun σ W F st xs hx R k => by
  refine ⟨iTup S.K (tOf S iter), fun X hX => hX.K ▸ pi_tup (peO hX), h σ W F st xs hx _ fun v W' Fv ext _ _ r => ?_⟩
  obtain ⟨_, a, vs, rfl, h2, h3⟩ := r
  refine ⟨a, rfl, ⟨vs, .inl (.inl (ext.ok a _ h2))⟩, k _ W' ext (ok_tup fun W1 c => ⟨c.1, vs, c.1 a _ (c.2 a _ h2), h3.mono c.2⟩)⟩
theorem ji_scr {m : Option (List Int)} (h : JN S iter Γ m fun xs => sh (scrS S.K xs)) : JI S tg iter Γ m intS := fun σ W F st xs hx R k => by
  refine ⟨iList S.K (tOf S iter), fun X hX => hX.K ▸ pi_list (peO hX), h σ W F st xs hx _ fun v W' Fv ext _ _ r => ?_⟩
  obtain ⟨_, a, rfl, h2⟩ := r
  have mv : ∀ {B : Hp} {W1 : Wd}, SqL S.K B a (xs.map V.int) → Ex B W1.H → SqL S.K W1.H a (xs.map V.int) := fun {B W1} h e => by
    rcases h with (h | ⟨o, h⟩) | h
    · exact .inl (.inl (e _ _ h))
    · exact .inl (.inr ⟨o, e _ _ h⟩)
    · exact .inr h
  refine ⟨a, rfl, ⟨_, mv (W1 := W') h2 ext.ok⟩, k _ W' ext fun W1 c => ?_⟩
  have hq := mv (W1 := W1) h2 (c.2.trans c.1)
  refine ⟨fun i x hx => ?_, fun i hi => ⟨_, hq, by rw [List.length_map]; exact hi⟩⟩
  have hv : (xs.map V.int)[i]? = some (.int x) := by rw [List.getElem?_map, hx]; rfl
  refine ⟨⟨_, _, hq, hv⟩, fun u H' ⟨e1, e2⟩ => ⟨W1, e1.symm, Ext.refl c.1, ?_⟩⟩
  have q := e2 _ hq
  rw [hv] at q
  cases q
  rfl
/-- over a list of one's own, as it stands -/
theorem jic_own {m : Option (List α)} {E : α → SP} (h : JR S iter Γ m fun xs => lstO (fun x => sh (E x)) xs) : JIc S tg iter Γ m E := fun σ W F st xs hx R k => by
  refine ⟨iList S.K (tOf S iter), fun X hX => hX.K ▸ pi_list (peO hX), h σ W F st xs hx _ fun v W' ext ⟨F1, r, _⟩ => ?_⟩
  obtain ⟨a, vs, F2, rfl, h2, _, h4⟩ := r
  obtain ⟨_, h5⟩ := h4.each
  exact ⟨a, rfl, ⟨vs, .inl (.inl h2)⟩, k _ W' ext (ok_list fun W1 c => ⟨c.ok, vs, c.h a _ h2, h5.mono c.b⟩)⟩
/-- range -/
def rng (lo hi : Int) : Option (List Int) := if hi - lo ≤ LIM ∧ -LIM ≤ lo ∧ lo ≤ LIM ∧ -LIM ≤ hi ∧ hi ≤ LIM then some ((List.range (hi - lo).toNat).map fun i : Nat => lo + (i : Int)) else none
theorem ok_rng {lo : Int} {n : Nat} {C : Wd → Prop} (hC : ∀ W1, C W1 → Ex W1.B W1.H) : ItOk (Itr lo n) C ((List.range n).map fun i : Nat => lo + (i : Int)) intS := fun W1 c => by
  refine ⟨fun i x hx => ?_, fun i hi => by
    show n ≤ i
    simpa using hi⟩
  have hi : i < n := by
    have := (List.getElem?_eq_some_iff.mp hx).1
    simpa using this
  have e : lo + (i : Int) = x := by
    rw [List.getElem?_map, List.getElem?_range hi] at hx
    exact Option.some.inj hx
  exact ⟨hi, fun v H' ⟨e1, e2⟩ => ⟨W1, e1.symm, Ext.refl (hC W1 c), by rw [e2, e]; rfl⟩⟩
theorem ji_rng1 {p : Pos} {m : Option Int} (hm : S.mg "range" = none) (h : JN S a Γ m fun x => sh (intS x)) (hg : GlS S "range" := by rfl) (hs : ∀ env, starEach [a] env = [(false, eval a env)] := by intro _; rfl) :
    JI S tg (.Call (.Name "range" p) [a] [] pos) Γ (m.bind fun n => rng 0 n) intS := fun σ W F st xs hx R k => by
  obtain ⟨n, h1, h2⟩ := run1 hx
  unfold rng at h2
  split at h2
  · rename_i hb
    cases h2
    refine ⟨iRng1 (tCons (tOf S a) tNil), fun X hX => pi_range1 (hg.gl hX) (mgS hm hX) (pa_cons (peO hX) pa_nil (hs _)) (hs _), h σ W F st n h1 _ fun v W' Fv ext _ _ r => ?_⟩
    obtain ⟨_, rfl⟩ := r
    have z : (LIM : Int) = 1000000 := rfl
    refine ⟨n, rfl, by omega, by omega, ?_⟩
    have e : (n - 0).toNat = n.toNat := by rw [Int.sub_zero]
    rw [← e]
    exact k _ W' ext (ok_rng fun W1 c => c.1)
  · cases h2
theorem ji_rng2 {p : Pos} {m m' : Option Int} (hm : S.mg "range" = none) (h : JN S a Γ m fun x => sh (intS x)) (h' : JN S b Γ m' fun x => sh (intS x)) (hg : GlS S "range" := by rfl) (hs : ∀ env, starEach [a, b] env = [(false, eval a env), (false, eval b env)] := by intro _; rfl)
    (hs2 : ∀ env, starEach [b] env = [(false, eval b env)] := by intro _; rfl) : JI S tg (.Call (.Name "range" p) [a, b] [] pos) Γ (m.bind fun lo => m'.bind fun hi => rng lo hi) intS := fun σ W F st xs hx R k => by
  obtain ⟨lo, hi, h1, h1', h2⟩ := run2 hx
  unfold rng at h2
  split at h2
  · rename_i hb
    cases h2
    refine ⟨iRng2 (tCons (tOf S a) (tCons (tOf S b) tNil)), fun X hX => pi_range2 (hg.gl hX) (mgS hm hX) (pa_cons (peO hX) (pa_cons (peO hX) pa_nil (hs2 _)) ((hs _).trans (by rw [hs2]))) (hs _) (hs2 _), h σ W F st lo h1 _ fun v W1 Fv ext _ _ r => ?_⟩
    obtain ⟨_, rfl⟩ := r
    refine h' σ W1 F (st.ext ext) hi h1' _ fun v W2 Fv ext2 _ _ r => ?_
    obtain ⟨_, rfl⟩ := r
    have z : (LIM : Int) = 1000000 := rfl
    exact ⟨lo, hi, rfl, by omega, k _ W2 (ext.trans ext2) (ok_rng fun W1 c => c.1)⟩
  · cases h2
/-! ### targets -/
def tgOf (S : Stc) (tg : Expr) : TG := fun v σ H Q => ∃ g : TG, (∀ X, S.In X → PG X tg g) ∧ g v σ H Q
theorem pgO {S : Stc} {X : Cx} {tg : Expr} (h : S.In X) : PG X tg (tgOf S tg) := ⟨fun pins s σ H v u Q I r ⟨_, p, q⟩ => (p X h).run pins s σ H v u Q I r q⟩
/-- a target that stores into the slots ws -/
def JG (S : Stc) (tg : Expr) (E : α → SP) (up : α → Ctx → Ctx) (ws : List Nat) : Prop :=
  ∀ Γ σ W F x v, Sta Γ σ W F → (∀ i ∈ ws, i < Γ.length) → (E x).P W.B v → ∀ Q : L2.St → Hp → Prop, (∀ σ' F', (∀ vs : List Nat, (∀ i ∈ ws, i ∈ vs) → wipe σ' vs = wipe σ vs) → Keep S.prot σ σ' → Sta (up x Γ) σ' W F' → (∀ a ∈ F', a ∈ F) → Q σ' W.H) → tgOf S tg v σ W.H Q
theorem wipe_set {i : Nat} {x : Option V} : ∀ {vs : List Nat} {σ : L2.St}, i ∈ vs → wipe (σ.set i x) vs = wipe σ vs
  | [], _, h => by simp at h
  | v :: vs, σ, h => by
    show (wipe (σ.set i x) vs).set v none = (wipe σ vs).set v none
    by_cases hi : i ∈ vs
    · rw [wipe_set hi]
    · have e : i = v := by simpa [hi] using h
      subst e
      have go : ∀ (ws : List Nat) (σ : L2.St), i ∉ ws → wipe (σ.set i x) ws = (wipe σ ws).set i x := by
        intro ws
        induction ws with
        | nil => intro σ _; rfl
        | cons w ws ih =>
          intro σ hn
          have h1 : w ≠ i := fun z => hn (z ▸ List.mem_cons_self)
          show (wipe (σ.set i x) ws).set w none = ((wipe σ ws).set w none).set i x
          rw [ih σ fun z => hn (List.mem_cons_of_mem _ z), List.set_comm _ _ h1.symm]
      rw [go vs σ hi, List.set_set]
theorem set_keeps {Γ : Ctx} {σ : L2.St} {W : Wd} {F : List Addr} {i : Nat} {p : SP} {v : V} (st : Sta Γ σ W F) (hi : i < Γ.length) (h : p.P W.B v) : ∃ F', Sta (Γ.set i (some (sh p))) (σ.set i (some v)) W F' ∧ ∀ a ∈ F', a ∈ F := by
  obtain ⟨F', s', sub⟩ := st.put (o := sh p) (F1 := []) hi ⟨rfl, h⟩ (by rw [List.append_nil]; exact st.fp)
  exact ⟨F', s', fun a ha => by simpa using sub a ha⟩
theorem jg_name {E : α → SP} {x : Str} {pos : Pos} (i : Nat) (nd : S.N.Nodup) (hN : S.N[i]? = some x := by rfl) (hx : Loc S.sc x := by first | exact Or.inl rfl | exact Or.inr rfl) (hp : (S.prot.contains i) = false := by rfl)
    (hf : S.fn x = true ∨ S.sc.names.lookup x = some .local := by first | exact .inl rfl | exact .inr rfl) : JG S (.Name x pos) E (fun a Γ => Γ.set i (some (sh (E a)))) [i] := fun Γ σ W F y v st hl h Q k => by
  refine ⟨gName i, fun X hX => pg_name (by rw [hX.N]; exact nd) (by rw [hX.N]; exact hN) (locS hx hX) (by rw [hX.fn, hX.sc]; exact hf), ?_⟩
  obtain ⟨F', s', sub⟩ := set_keeps st (hl i (by simp)) h
  exact k _ F' (fun vs hv => wipe_set (hv i (by simp))) (Keep.set (ncon hp)) s' sub
/-- a name that is not read any more -/
theorem jg_pair {E : α → SP} {G : β → SP} {x y : Str} {pos p1 p2 : Pos} {k : Nat} (i j : Nat) (nd : S.N.Nodup) (hN : S.N[i]? = some x := by rfl) (hM : S.N[j]? = some y := by rfl) (hx : Loc S.sc x := by first | exact Or.inl rfl | exact Or.inr rfl) (hy : Loc S.sc y := by first | exact Or.inl rfl | exact Or.inr rfl)
    (hp : (S.prot.contains i) = false := by rfl) (hq : (S.prot.contains j) = false := by rfl) (hf : S.fn x = true ∨ S.sc.names.lookup x = some .local := by first | exact .inl rfl | exact .inr rfl) (hf2 : S.fn y = true ∨ S.sc.names.lookup y = some .local := by first | exact .inl rfl | exact .inr rfl)
    (hs : ∀ env, (assignEach [Expr.Name x p1, .Name y p2] env).map (·.2) = assign (.Name x p1) env :: (assignEach [Expr.Name y p2] env).map (·.2) := by intro _; rfl) (hs2 : ∀ env, (assignEach [Expr.Name y p2] env).map (·.2) = assign (.Name y p2) env :: (assignEach [] env).map (·.2) := by intro _; rfl)
    (hn : ∀ env, (assignEach [Expr.Name x p1, .Name y p2] env).length = 2 := by intro _; rfl) (hst : ∀ env, (assignEach [Expr.Name x p1, .Name y p2] env).findIdx? (·.1) = none := by intro _; rfl) (hcm : S.calm = true := by rfl) :
    JG S (.Tuple [.Name x p1, .Name y p2] k pos) (prS E G) (fun a Γ => (Γ.set i (some (sh (E a.1)))).set j (some (sh (G a.2)))) [i, j] := fun Γ σ W F q v st hl h Q kk => by
  refine ⟨gTup S.K 2 (gCons (gName i) (gCons (gName j) gNil)), fun X hX => hX.K ▸ pg_tup (hX.calm.trans hcm) (pgs_cons (pg_name (by rw [hX.N]; exact nd) (by rw [hX.N]; exact hN) (locS hx hX) (by rw [hX.fn, hX.sc]; exact hf)) (pgs_cons (pg_name (by rw [hX.N]; exact nd) (by rw [hX.N]; exact hM) (locS hy hX) (by rw [hX.fn, hX.sc]; exact hf2)) pgs_nil (hs2 _)) (hs _)) (hn _) (hst _), ?_⟩
  obtain ⟨a, vs, rfl, h2, h3⟩ := h
  match vs, h3 with
  | [u, w], ⟨p1, p2, _⟩ =>
    refine ⟨a, [u, w], rfl, .inl (.inl (st.ok a _ h2)), rfl, u, [w], rfl, w, [], rfl, rfl, ?_⟩
    obtain ⟨F1, s1, sub1⟩ := set_keeps st (hl i (by simp)) p1
    obtain ⟨F2, s2, sub2⟩ := set_keeps s1 (by rw [List.length_set]; exact hl j (by simp)) p2
    refine kk _ F2 (fun vs hv => ?_) ((Keep.set (ncon hp)).trans (Keep.set (ncon hq))) s2 fun b hb => sub1 b (sub2 b hb)
    rw [wipe_set (hv j (by simp)), wipe_set (hv i (by simp))]
/-! ### comprehensions -/
/-- the items that pass, turned -/
def compGo (t : α → Option Bool) (f : α → Option β) : List α → Option (List β)
  | [] => some []
  | x :: xs => (t x).bind fun b => bif b then (f x).bind fun y => (compGo t f xs).bind fun ys => some (y :: ys) else compGo t f xs
def compM (t : α → Option Bool) (f : α → Option β) (xs : List α) : Option (List β) := if xs.length ≤ LIM then compGo t f xs else none
def mapGo (f : α → Option β) : List α → Option (List β)
  | [] => some []
  | x :: xs => (f x).bind fun y => (mapGo f xs).bind fun ys => some (y :: ys)
def mapM (f : α → Option β) (xs : List α) : Option (List β) := if xs.length ≤ LIM then mapGo f xs else none
theorem compGo_yes (f : α → Option β) : ∀ xs : List α, compGo (fun _ => some true) f xs = mapGo f xs
  | [] => rfl
  | x :: xs => by
    show (f x).bind _ = (f x).bind _
    rw [compGo_yes f xs]
def ttsOf (S : Stc) (ifs : List Expr) : TT := fun σ H Q => ∃ t : TT, (∀ X, S.In X → PTs X ifs t) ∧ t σ H Q
theorem ptsO {S : Stc} {X : Cx} {ifs : List Expr} (h : S.In X) : PTs X ifs (ttsOf S ifs) := ⟨fun pins s σ H Q I ⟨_, p, q⟩ => (p X h).run pins s σ H Q I q⟩
def JTs (S : Stc) (ifs : List Expr) (Γ : Ctx) (m : Option Bool) : Prop :=
  ∀ σ W F, Sta Γ σ W F → ∀ b, m = some b → ∀ Q : Bool → Hp → Prop, (∀ W', Ext W W' → Q b W'.H) → ttsOf S ifs σ W.H Q
theorem jts_nil : JTs S [] Γ (some true) := fun σ W F st b hb Q k => by
  cases hb
  exact ⟨tYes, fun _ _ => pts_nil, k W (Ext.refl st.ok)⟩
theorem jts_one {m : Option Bool} (h : JT S c Γ m) : JTs S [c] Γ m := fun σ W F st b hb Q k => ⟨ttOf S c, fun X hX => pts_one (ptO hX), h σ W F st b hb Q k⟩
/-- the block's own slots forgotten -/
def wipeC (Γ : Ctx) : List Nat → Ctx
  | [] => Γ
  | v :: vs => (wipeC Γ vs).set v none
theorem wipeC_len (Γ : Ctx) : ∀ vs, (wipeC Γ vs).length = Γ.length
  | [] => rfl
  | v :: vs => by
    show ((wipeC Γ vs).set v none).length = _
    rw [List.length_set, wipeC_len Γ vs]
theorem Holds.wipe1 {W : Wd} : ∀ {Γ : Ctx} {σ : L2.St} {F : List Addr} (i : Nat), Holds Γ σ W F → ∃ F' G, Holds (Γ.set i none) (σ.set i none) W F' ∧ F.Perm (F' ++ G)
  | [], σ, F, i, h => ⟨[], F, rfl, .refl _⟩
  | none :: Γ, σ, F, 0, h => ⟨F, [], by
      show Holds Γ (σ.set 0 none).tail W F
      cases σ <;> exact h, by rw [List.append_nil]⟩
  | some o :: Γ, σ, F, 0, ⟨v, F1, F2, h1, h2, h3, h4⟩ => ⟨F2, F1, by
      show Holds Γ (σ.set 0 none).tail W F2
      cases σ <;> exact h4, by subst h2; exact List.perm_append_comm⟩
  | none :: Γ, σ, F, i + 1, h => by
    cases σ with
    | nil =>
      obtain ⟨F', G, a1, a2⟩ := Holds.wipe1 (Γ := Γ) (σ := []) i h
      exact ⟨F', G, a1, a2⟩
    | cons s σ =>
      obtain ⟨F', G, a1, a2⟩ := Holds.wipe1 (Γ := Γ) (σ := σ) i h
      exact ⟨F', G, a1, a2⟩
  | some o :: Γ, σ, F, i + 1, ⟨v, F1, F2, h1, h2, h3, h4⟩ => by
    cases σ with
    | nil => simp at h1
    | cons s σ =>
      obtain ⟨F', G, a1, a2⟩ := Holds.wipe1 (Γ := Γ) (σ := σ) i h4
      subst h2
      refine ⟨F1 ++ F', G, ⟨v, F1, F', h1, rfl, h3, a1⟩, ?_⟩
      rw [List.append_assoc]
      exact List.Perm.append_left F1 a2
theorem Sta.wipe {Γ : Ctx} {σ : L2.St} {W : Wd} {F : List Addr} (st : Sta Γ σ W F) : ∀ vs : List Nat, ∃ F', Sta (wipeC Γ vs) (L2.wipe σ vs) W F' ∧ ∀ a ∈ F', a ∈ F
  | [] => ⟨F, st, fun _ h => h⟩
  | v :: vs => by
    obtain ⟨F1, s1, sub1⟩ := st.wipe vs
    obtain ⟨F', G, a1, a2⟩ := s1.hold.wipe1 v
    exact ⟨F', ⟨st.ok, (s1.fp.perm a2).left, by
      show ((L2.wipe σ vs).set v none).length = ((wipeC Γ vs).set v none).length
      rw [List.length_set, List.length_set]; exact s1.len, a1⟩, fun a h => sub1 a (a2.mem_iff.mpr (List.mem_append_left _ h))⟩
/-- a comprehension's parts, and its reading -/
def JC (S : Stc) (elt tg iter : Expr) (ifs : List Expr) (scope : Scope) (Γ : Ctx) (m : Option α) (R : α → OP) : Prop :=
  ∃ own : List (Str × Nat), BlkOk S.N S.sc scope own ∧ ∀ σ W F, Sta Γ σ W F → ∀ x, m = some x → ∀ Q : VK, Got (R x) W Q → tLc (tiOf S tg iter) (tgOf (S.blk scope) tg) (ttsOf (S.blk scope) ifs) (tOf (S.blk scope) elt) (own.map (·.2)) σ W.H Q
theorem jn_lc {scope : Scope} {m : Option α} {R : α → OP} (nd : S.N.Nodup) (h : JC S elt tg iter ifs scope Γ m R) (hs : ∀ env x, foldedSetIterable iter env x = pure x := by intro _ _; rfl) (hcm : S.calm = true := by rfl) : JN S (.ListComp elt [⟨tg, iter, ifs, 0⟩] scope pos) Γ m R := fun σ W F st x hx Q k => by
  obtain ⟨own, ok, go⟩ := h
  exact ⟨_, fun X hX => pe_lc (hX.calm.trans hcm) (by rw [hX.N]; exact nd) (piO hX) (by rw [hX.N, hX.sc]; exact ok) (fun s H C cl fp => pgO (hX.blk scope s H C cl fp)) (fun s H C cl fp => ptsO (hX.blk scope s H C cl fp)) (fun s H C cl fp => peO (hX.blk scope s H C cl fp)) (hs _), go σ W F st x hx Q k⟩
theorem compGo_len {t : α → Option Bool} {f : α → Option β} : ∀ {xs : List α} {ys : List β}, compGo t f xs = some ys → ys.length ≤ xs.length
  | [], ys, h => by cases h; exact Nat.le_refl _
  | x :: xs, ys, h => by
    obtain ⟨b, h1, h2⟩ := run1 (f := fun b => bif b then (f x).bind fun y => (compGo t f xs).bind fun ys => some (y :: ys) else compGo t f xs) h
    cases b with
    | true =>
      obtain ⟨y, ys', h3, h4, h5⟩ := run2 (f := fun y ys => some (y :: ys)) h2
      cases h5
      exact Nat.succ_le_succ (compGo_len h4)
    | false => exact Nat.le_succ_of_le (compGo_len (xs := xs) h2)
/-- the block's turns, over a walk -/
theorem jc_of {scope : Scope} {mi : Option (List α)} {E : α → SP} {up : α → Ctx → Ctx} {ws : List Nat} {mt : α → Option Bool} {me : α → Option β} {R : β → OP} (own : List (Str × Nat)) (hi : JIc S tg iter Γ mi E) (ok : blkC S.N S.sc scope own = true) (hg : JG (S.blk scope) tg E up ws)
    (hw : ∀ i ∈ ws, i ∈ own.map (·.2)) (hl : ∀ i ∈ ws, i < Γ.length) (ht : ∀ x, JTs (S.blk scope) ifs (up x (wipeC Γ (own.map (·.2)))) (mt x)) (he : ∀ x, JN (S.blk scope) elt (up x (wipeC Γ (own.map (·.2)))) (me x) R) :
    JC S elt tg iter ifs scope Γ (mi.bind fun xs => compM mt me xs) fun ys => lstO R ys := by
  refine ⟨own, blkOk_by ok, fun σ W F st ys hx Q k => ?_⟩
  obtain ⟨xs, h1, h2⟩ := run1 hx
  unfold compM at h2
  split at h2
  · rename_i hlen
    refine hi σ W F st xs h1 _ fun J W' ext iok => fun D hD => ?_
    have st' := st.ext ext
    -- the invariant: what is made so far, what is left
    refine ⟨fun i m H => m = xs.length - i ∧ i ≤ xs.length ∧ ∃ (W1 : Wd) (acc : List V) (as : List β) (bs : List β) (Fa : List Addr), W1.H = H ∧ Ext W' W1 ∧ W1.H D = some (.lst acc) ∧ W1.B D = none ∧ as.length ≤ i ∧
      compGo mt me (xs.drop i) = some bs ∧ as ++ bs = ys ∧ Owns R W1 acc as Fa ∧ FpOk W1 Fa ∧ D ∉ Fa ∧ ∀ a ∈ Fa, W'.H a = none, ⟨xs.length, by simp, Nat.zero_le _, ⟨upd W'.H D (.lst []), W'.B⟩, [], [], ys, [], rfl, Ext.new ext.ok hD, upd_same, ext.ok.back hD, Nat.le_refl _, by simpa using h2, rfl, rfl, FpOk.nil, by simp, by simp⟩, ?_⟩
    rintro i m H ⟨rfl, hi', W1, acc, as, bs, Fa, rfl, e1, d1, d2, la, c1, c2, o1, o2, o3, o4⟩
    obtain ⟨iok1, iok2⟩ := iok W1 e1
    by_cases hlt : i < xs.length
    · obtain ⟨g1, g2⟩ := iok1 i xs[i] (List.getElem?_eq_getElem hlt)
      refine .inr ⟨g1, fun H' => ∃ m', m' < xs.length - i ∧ (m' = xs.length - (i + 1) ∧ i + 1 ≤ xs.length ∧ ∃ (W1 : Wd) (acc : List V) (as : List β) (bs : List β) (Fa : List Addr), W1.H = H' ∧ Ext W' W1 ∧ W1.H D = some (.lst acc) ∧ W1.B D = none ∧ as.length ≤ i + 1 ∧
        compGo mt me (xs.drop (i + 1)) = some bs ∧ as ++ bs = ys ∧ Owns R W1 acc as Fa ∧ FpOk W1 Fa ∧ D ∉ Fa ∧ ∀ a ∈ Fa, W'.H a = none), fun H' h => h, fun v H' y => ?_⟩
      obtain ⟨W2, rfl, e2, p2⟩ := g2 v H' y
      have hDrop : xs.drop i = xs[i] :: xs.drop (i + 1) := List.drop_eq_getElem_cons hlt
      rw [hDrop] at c1
      obtain ⟨b, t1, t2⟩ := run1 (f := fun b => bif b then (me xs[i]).bind fun y => (compGo mt me (xs.drop (i + 1))).bind fun ys => some (y :: ys) else compGo mt me (xs.drop (i + 1))) c1
      obtain ⟨Fw, sw, subw⟩ := (st'.ext (e1.trans e2)).wipe (own.map (·.2))
      refine hg _ _ W2 Fw xs[i] v sw (fun j hj => by rw [wipeC_len]; exact hl j hj) p2 _ fun σ2 F2 wp _ s2 sub2 => ⟨?_, ?_⟩
      · rw [wp _ hw]
        exact wipe_wipe σ (own.map (·.2))
      refine ht xs[i] σ2 W2 F2 s2 b t1 _ fun W3 e3 => ?_
      have eAll : Ext W1 W3 := e2.trans e3
      cases b with
      | true =>
        obtain ⟨y1, ys1, t3, t4, t5⟩ := run2 (f := fun y ys => some (y :: ys)) t2
        cases t5
        refine iteT (he xs[i] σ2 W3 F2 (s2.ext e3) y1 t3 _ fun u W4 Fu e4 fr4 fp4 r4 => ?_)
        have eA : Ext W1 W4 := eAll.trans e4
        have hD4 : W4.H D = some (.lst acc) := eA.h D _ d1
        have hB4 : W4.B D = none := eA.fr D (by rw [d1]; exact fun z => nomatch z) d2
        have ha4 : acc.length < LIM := by
          have := o1.len
          omega
        refine ⟨acc, hD4, lim_lt ha4, xs.length - (i + 1), by omega, rfl, hlt, ⟨upd W4.H D (.lst (acc ++ [u])), W4.B⟩, acc ++ [u], as ++ [y1], ys1, Fa ++ Fu, rfl, ?_, upd_same, hB4, ?_, t4, by rw [List.append_assoc]; exact c2, ?_, ?_, ?_, ?_⟩
        · have q := e1.trans eA
          refine ⟨fun a o h => ?_, fun a o h => ?_, q.b, q.fr⟩
          · have z : a ≠ D := fun z => by
              rw [z] at h
              rw [show W4.B D = some o from h] at hB4
              cases hB4
            show upd W4.H D _ a = some o
            rw [upd_ne z]
            exact q.ok a o h
          · show upd W4.H D _ a = some o
            rw [upd_ne (ne_of_none h hD)]
            exact q.h a o h
        · rw [List.length_append, List.length_singleton]
          omega
        · have nD : ∀ a ∈ Fa ++ Fu, a ≠ D := fun a ha z => by
            rcases List.mem_append.mp ha with h | h
            · exact o3 (z ▸ h)
            · have q := e3.h.back (fr4 a h)
              rw [z] at q
              have q2 := e2.h.back q
              rw [d1] at q2
              cases q2
          have A1 : Owns R W4 acc as Fa := o1.loc eA.b fun a ha => eA.h.eq (o2.al a ha)
          have A2 : Owns R W4 [u] [y1] Fu := ⟨Fu, [], (List.append_nil _).symm, r4, rfl⟩
          have A3 : Owns R W4 (acc ++ [u]) (as ++ [y1]) (Fa ++ Fu) := A1.app A2
          refine Owns.loc (W := W4) (W' := ⟨upd W4.H D (.lst (acc ++ [u])), W4.B⟩) (fun _ _ h => h) A3 fun a ha => ?_
          show upd W4.H D (.lst (acc ++ [u])) a = W4.H a
          exact upd_ne (nD a ha)
        · have fpA : FpOk W4 (Fa ++ Fu) := (o2.ext eAll).fresh e4 fp4 fr4
          refine ⟨fpA.nd, fun a ha => ?_, fpA.fr⟩
          show upd W4.H D _ a ≠ none
          by_cases z : a = D
          · rw [z, upd_same]
            exact fun z => nomatch z
          · rw [upd_ne z]
            exact fpA.al a ha
        · intro h
          rcases List.mem_append.mp h with h | h
          · exact o3 h
          · have q := e3.h.back (fr4 D h)
            have q2 := e2.h.back q
            rw [d1] at q2
            cases q2
        · intro a ha
          rcases List.mem_append.mp ha with h | h
          · exact o4 a h
          · exact (e1.trans eAll).h.back (fr4 a h)
      | false =>
        refine iteF ⟨xs.length - (i + 1), by omega, rfl, hlt, W3, acc, as, bs, Fa, rfl, e1.trans eAll, eAll.h D _ d1, eAll.fr D (by rw [d1]; exact fun z => nomatch z) d2, by omega, t2, c2, o1.loc eAll.b fun a ha => eAll.h.eq (o2.al a ha), o2.ext eAll, o3, o4⟩
    · have ei : i = xs.length := by omega
      subst ei
      rw [List.drop_length] at c1
      cases c1
      rw [List.append_nil] at c2
      subst c2
      refine .inl ⟨iok2 _ (Nat.le_refl _), k (.ref D) W1 (D :: Fa) (ext.trans e1) (fun a ha => ?_) ?_ ⟨D, acc, Fa, rfl, d1, rfl, o1⟩⟩
      · rcases List.mem_cons.mp ha with z | z
        · rw [z]; exact ext.h.back hD
        · exact ext.h.back (o4 a z)
      · refine ⟨List.nodup_cons.mpr ⟨o3, o2.nd⟩, fun a ha => ?_, fun a ha => ?_⟩
        · rcases List.mem_cons.mp ha with z | z
          · rw [z, d1]; exact fun z => nomatch z
          · exact o2.al a z
        · rcases List.mem_cons.mp ha with z | z
          · rw [z]; exact d2
          · exact o2.fr a z
  · cases h2
where
  wipe_wipe (σ : L2.St) : ∀ vs : List Nat, L2.wipe (L2.wipe σ vs) vs = L2.wipe σ vs := by
    intro vs
    have go : ∀ (us : List Nat), (∀ i ∈ us, i ∈ vs) → L2.wipe (L2.wipe σ us) vs = L2.wipe σ vs := by
      intro us
      induction us with
      | nil => intro _; rfl
      | cons u us ih =>
        intro h
        show L2.wipe ((L2.wipe σ us).set u none) vs = _
        rw [wipe_set (h u List.mem_cons_self)]
        exact ih fun i hi => h i (List.mem_cons_of_mem _ hi)
    exact go vs fun _ h => h
end
end CC
set_option maxHeartbeats 4000000
/-! Statements, loops, defs. -/
namespace CC
open PySem PySem.Spec L2
open PyProof.Rows hiding St
variable {α β γ δ τ ω ρ υ : Type}
/-! ### a def's promise -/
def spP (G : α → List SP) (fM : α → Option ρ) (R : ρ → OP) : Sp := fun vs H Q _ => ∃ x W r, W.H = H ∧ Ex W.B W.H ∧ Hets W.B vs (G x) ∧ fM x = some r ∧ Got (R r) W Q
/-- the first argument is owned, and changed -/
def spS (O : τ → OP) (G : α → List SP) (fM : α → τ → Option (ρ × τ)) (R : ρ → OP) : Sp := fun vs H Q _ => ∃ x s W F v0 vr r, vs = v0 :: vr ∧ W.H = H ∧ Ex W.B W.H ∧ FpOk W F ∧ (O s).C W v0 F ∧ Hets W.B vr (G x) ∧ fM x s = some r ∧
  ∀ v W' F' Fv, Stp W F W' (F' ++ Fv) → FpOk W' (F' ++ Fv) → (O r.2).C W' v0 F' → (R r.1).C W' v Fv → Q v W'.H
section
variable {S : Stc} {Γ Δ : Ctx} {a b c e tg iter elt : Expr} {es ifs : List Expr} {pos : Pos} {st : Stmt} {rest A B : List Stmt}
theorem passE0 {X : Cx} : Passes CX0 X E0 := fun _ _ _ _ _ _ _ h => h.elim
theorem bindsS {S : Stc} {X : Cx} {fd : FuncData} {ps : List Str} {ds : List Value} (h : S.In X) (b : Binds S.K fd ps ds) : Binds X.K fd ps ds := by rw [h.K]; exact b
theorem jn_call {x : Str} {p : Pos} {f : Addr} {fd : FuncData} {ps : List Str} {k : Nat} {G : α → List SP} {fM : α → Option ρ} {R : ρ → OP} {m : Option α} (Fn : FnOk S.P S.w S.K S.mg S.base CX0 k f fd ps (spP G fM R)) (hm : S.mg x = some (.ref f)) (kp : PySem.W.keepIn S.K (.ref f) = true) (hb : Binds S.K fd ps [])
    (hk : k ≤ S.k) (ha : JA S (e :: es) Γ m G) (hg : GlS S x := by rfl) (hdb : (x == ("__debug__" : Str)) = false := by decide) (he : ∀ env, starEach (e :: es) env = (false, eval e env) :: starEach es env := by intro _; rfl) (hpl : ∀ env, (backTo pos (starEach es env)).any (·.1) = false := by intro _; rfl) (hcm : S.calm = true := by rfl) :
    JN S (.Call (.Name x p) (e :: es) [] pos) Γ (m.bind fun y => fM y) R := fun σ W F st z hz Q kk => by
  obtain ⟨y, h1, h2⟩ := run1 hz
  refine ⟨tCall (spP G fM R) [] E0 (taOf S (e :: es)), fun X hX => pe_call (fnokS Fn hX) ((hX.room hcm).mono hk) (hg.gl hX) (mgS hm hX) (by rw [hX.K]; exact kp) (bindsS hX hb) .nil passE0 (paO hX) hdb (he _) (hpl _), ha σ W F st y h1 _ fun vs W' ext hh => ?_⟩
  show spP G fM R (vs ++ []) W'.H Q E0
  rw [List.append_nil]
  exact ⟨y, W', z, rfl, ext.ok, hh, h2, kk.ext ext⟩
/-! ### statements -/
def NoNx : Kd → Prop
  | .nx _ => False
  | _ => True
theorem jb_one {m : Option ω} {D : ω → Kd} (h : JS S st Γ m D) : JB S [st] Γ m D := fun σ W F sta x hx E k => ⟨tsOf S st, fun X hX => pss_one (psO hX), h σ W F sta x hx E k⟩
/-- the end of a block that falls through -/
theorem jb_nil {x : ω} {D : ω → Kd} (hD : D x = .nx Δ) (w : Weak Γ Δ) : JB S [] Γ (some x) D := fun σ W F sta y hy E k => by
  cases hy
  obtain ⟨F', s', sub⟩ := sta.weak w
  rw [hD] at k
  exact ⟨tNext, fun _ _ => pss_nil, k σ W F' Keep.refl ((Stp.refl sta.ok).perm sub) s'⟩
theorem post_nox {wx : WX} {prot : List Nat} {σ : L2.St} {W : Wd} {F : List Addr} {E : Ends} {N : L2.St → Hp → Prop} {k : Kd} (h : Post wx prot σ W F E k) (n : NoNx k) : Post wx prot σ W F { E with nx := N } k := by
  cases k with
  | nx Γ => exact n.elim
  | bk Γ => exact h
  | ct Γ => exact h
  | rt Γ R => exact h
  | xc Γ R => exact h
/-- one statement, then the rest -/
theorem jb_cons {ms : Option α} {Ds : α → Ctx} {mr : α → Option ω} {D : ω → Kd} (h : JS S st Γ ms fun x => .nx (Ds x)) (hr : ∀ x, JB S rest (Ds x) (mr x) D) : JB S (st :: rest) Γ (ms.bind fun x => mr x) D := fun σ W F sta z hz E k => by
  obtain ⟨x, h1, h2⟩ := run1 hz
  refine ⟨tSeq (tsOf S st) (tbOf S rest), fun X hX => pss_cons (psO hX) (pbO hX), ?_⟩
  exact h σ W F sta x h1 { E with nx := tbOf S rest E } fun σ' W' F' kp stp sta' => hr x σ' W' F' sta' z h2 E (k.before kp stp)
/-- an if whose branch never falls through -/
theorem jb_ifx {mc : Option Bool} {ma : Option υ} {mr : Option ω} {D : ω → Kd} {D' : υ → Kd} (ι : υ → ω) (hc : JT S c Γ mc) (ha : JB S A Γ ma D') (hι : ∀ x, D (ι x) = D' x) (hn : ∀ x, NoNx (D' x)) (hr : JB S rest Γ mr D) :
    JB S (.If c A [] pos :: rest) Γ (mc.bind fun b => bif b then ma.bind fun x => some (ι x) else mr) D := fun σ W F sta z hz E k => by
  obtain ⟨x, h1, h2⟩ := run1 hz
  refine ⟨tSeq (tIfS (ttOf S c) (tbOf S A) tNext) (tbOf S rest), fun X hX => pss_cons (ps_if (ptO hX) (pbO hX) pss_nil) (pbO hX), ?_⟩
  refine hc σ W F sta x h1 _ fun W' ext => ?_
  have stp : Stp W F W' F := by have := ext.stp (F := F) (Fv := []) (by simp); rwa [List.append_nil] at this
  cases x with
  | true =>
    obtain ⟨y, h3, h4⟩ := run1 h2
    cases h4
    refine iteT (ha σ W' F (sta.ext ext) y h3 _ ?_)
    rw [hι] at k
    exact post_nox (k.before Keep.refl stp) (hn y)
  | false => exact iteF (hr σ W' F (sta.ext ext) z h2 E (k.before Keep.refl stp))
/-- the same, the outcome being the block's own -/
theorem jb_ifr {mc : Option Bool} {ma mr : Option ω} {D : ω → Kd} (hc : JT S c Γ mc) (ha : JB S A Γ ma D) (hn : ∀ x, NoNx (D x)) (hr : JB S rest Γ mr D) : JB S (.If c A [] pos :: rest) Γ (mc.bind fun b => bif b then ma else mr) D := fun σ W F sta z hz E k => by
  obtain ⟨x, h1, h2⟩ := run1 hz
  refine ⟨tSeq (tIfS (ttOf S c) (tbOf S A) tNext) (tbOf S rest), fun X hX => pss_cons (ps_if (ptO hX) (pbO hX) pss_nil) (pbO hX), ?_⟩
  refine hc σ W F sta x h1 _ fun W' ext => ?_
  have stp : Stp W F W' F := by have := ext.stp (F := F) (Fv := []) (by simp); rwa [List.append_nil] at this
  cases x with
  | true => exact iteT (ha σ W' F (sta.ext ext) z h2 _ (post_nox (k.before Keep.refl stp) (hn z)))
  | false => exact iteF (hr σ W' F (sta.ext ext) z h2 E (k.before Keep.refl stp))
/-- an if that cannot be taken -/
theorem jb_ifF {mr : Option ω} {D : ω → Kd} (hc : JT S c Γ (some false)) (hr : JB S rest Γ mr D) : JB S (.If c A [] pos :: rest) Γ mr D := fun σ W F sta z hz E k => by
  refine ⟨tSeq (tIfS (ttOf S c) tNever tNext) (tbOf S rest), fun X hX => pss_cons (ps_if (ptO hX) pss_never pss_nil) (pbO hX), ?_⟩
  refine hc σ W F sta false rfl _ fun W' ext => ?_
  have stp : Stp W F W' F := by have := ext.stp (F := F) (Fv := []) (by simp); rwa [List.append_nil] at this
  exact iteF (hr σ W' F (sta.ext ext) z hz E (k.before Keep.refl stp))
/-- an if that is taken and does not fall through -/
theorem jb_ifT {ma : Option ω} {D : ω → Kd} (hc : JT S c Γ (some true)) (ha : JB S A Γ ma D) (hn : ∀ x, NoNx (D x)) : JB S (.If c A [] pos :: rest) Γ ma D := fun σ W F sta z hz E k => by
  refine ⟨tSeq (tIfS (ttOf S c) (tbOf S A) tNext) tNever, fun X hX => pss_cons (ps_if (ptO hX) (pbO hX) pss_nil) pss_never, ?_⟩
  refine hc σ W F sta true rfl _ fun W' ext => ?_
  have stp : Stp W F W' F := by have := ext.stp (F := F) (Fv := []) (by simp); rwa [List.append_nil] at this
  exact iteT (ha σ W' F (sta.ext ext) z hz _ (post_nox (k.before Keep.refl stp) (hn z)))
/-- if .. else -/
theorem js_if {mc : Option Bool} {ma mb : Option ω} {D : ω → Kd} (hc : JT S c Γ mc) (ha : JB S A Γ ma D) (hb : JB S B Γ mb D) : JS S (.If c A B pos) Γ (mc.bind fun b => bif b then ma else mb) D := fun σ W F sta z hz E k => by
  obtain ⟨x, h1, h2⟩ := run1 hz
  refine ⟨tIfS (ttOf S c) (tbOf S A) (tbOf S B), fun X hX => ps_if (ptO hX) (pbO hX) (pbO hX), ?_⟩
  refine hc σ W F sta x h1 _ fun W' ext => ?_
  have stp : Stp W F W' F := by have := ext.stp (F := F) (Fv := []) (by simp); rwa [List.append_nil] at this
  cases x with
  | true => exact iteT (ha σ W' F (sta.ext ext) z h2 _ (k.before Keep.refl stp))
  | false => exact iteF (hb σ W' F (sta.ext ext) z h2 _ (k.before Keep.refl stp))
theorem jb_ret {m : Option α} {R : α → OP} (w : Weak Γ Δ) (h : JN S e Γ m R) : JB S (.Return (some e) pos :: rest) Γ m fun r => .rt Δ (R r) := fun σ W F sta x hx E k => by
  refine ⟨tSeq (tRet (tOf S e)) tNever, fun X hX => pss_cons (ps_ret (peO hX)) pss_never, h σ W F sta x hx _ fun v W' Fv ext fr fp r => ?_⟩
  obtain ⟨F', s', sub⟩ := (sta.ext ext).weak w
  have fpA : FpOk W' (F ++ Fv) := sta.fp.fresh ext fp fr
  have fpB : FpOk W' (F' ++ Fv) := s'.fp.app fpA.right fun a ha => fpA.disj a (sub a ha)
  refine k v σ W' F' Fv Keep.refl ((ext.stp fr).perm fun a ha => ?_) s' fpB r
  rcases List.mem_append.mp ha with h | h
  · exact List.mem_append_left _ (sub a h)
  · exact List.mem_append_right _ h
theorem jb_cont {x : ω} {D : ω → Kd} (hD : D x = .ct Δ) (w : Weak Γ Δ) : JB S (.Continue pos :: rest) Γ (some x) D := fun σ W F sta y hy E k => by
  cases hy
  obtain ⟨F', s', sub⟩ := sta.weak w
  rw [hD] at k
  exact ⟨tSeq tCont tNever, fun _ _ => pss_cons ps_continue pss_never, k σ W F' Keep.refl ((Stp.refl sta.ok).perm sub) s'⟩
theorem jb_brk {x : ω} {D : ω → Kd} (hD : D x = .bk Δ) (w : Weak Γ Δ) : JB S (.Break pos :: rest) Γ (some x) D := fun σ W F sta y hy E k => by
  cases hy
  obtain ⟨F', s', sub⟩ := sta.weak w
  rw [hD] at k
  exact ⟨tSeq tBreak tNever, fun _ _ => pss_cons ps_break pss_never, k σ W F' Keep.refl ((Stp.refl sta.ok).perm sub) s'⟩
/-- name = e -/
theorem sta_set {σ : L2.St} {W W' : Wd} {F Fv : List Addr} {i : Nat} {o : OP} {v : V} (sta : Sta Γ σ W F) (ext : Ext W W') (fr : ∀ a ∈ Fv, W.H a = none) (fp : FpOk W' Fv) (r : o.C W' v Fv) (hi : (Γ[i]?).isSome = true) :
    ∃ F', Sta (Γ.set i (some o)) (σ.set i (some v)) W' F' ∧ Stp W F W' F' := by
  have hl : i < Γ.length := by
    cases h : Γ[i]? with
    | none => rw [h] at hi; cases hi
    | some o => exact (List.getElem?_eq_some_iff.mp h).1
  obtain ⟨F', s', sub⟩ := (sta.ext ext).put hl r (sta.fp.fresh ext fp fr)
  exact ⟨F', s', (ext.stp fr).perm sub⟩
theorem js_set {x : Str} {pos' : Pos} {m : Option α} {R : α → OP} (i : Nat) (nd : S.N.Nodup) (h : JN S e Γ m R) (hi : (Γ[i]?).isSome = true := by rfl) (hN : S.N[i]? = some x := by rfl) (hx : Loc S.sc x := by first | exact Or.inl rfl | exact Or.inr rfl) (hp : (S.prot.contains i) = false := by rfl)
    (hs : ∀ env, swapsWith e (some (.Name x pos')) pos.line env = pure false := by intro _; rfl) (hf : S.fn x = true ∨ S.sc.names.lookup x = some .local := by first | exact .inl rfl | exact .inr rfl) : JS S (.Assign [.Name x pos'] e pos) Γ m fun a => .nx (Γ.set i (some (R a))) := fun σ W F sta y hy E k => by
  refine ⟨tAsg (tOf S e) (gName i), fun X hX => ps_set (by rw [hX.N]; exact nd) (by rw [hX.N]; exact hN) (locS hx hX) (peO hX) (hs _) (by rw [hX.fn, hX.sc]; exact hf), h σ W F sta y hy _ fun v W' Fv ext fr fp r => ?_⟩
  obtain ⟨F', s', stp⟩ := sta_set sta ext fr fp r hi
  exact k _ W' F' (Keep.set (ncon hp)) stp s'
theorem js_setLc {x : Str} {py spos : Pos} {scope : Scope} {m : Option α} {R : α → OP} (i : Nat) (nd : S.N.Nodup) (h : JC S elt tg iter ifs scope Γ m R) (hi : (Γ[i]?).isSome = true := by rfl) (hN : S.N[i]? = some x := by rfl) (hx : S.sc.names.lookup x = some .local := by rfl) (hp : (S.prot.contains i) = false := by rfl)
    (hk : S.sc.kind = .function := by rfl) (hl : (py.line == pos.line) = true := by rfl) (hown : (scope.names.any fun (n, k) => n == x && (k == .local || k == .cell)) = false := by decide +kernel) (hs : ∀ env x, foldedSetIterable iter env x = pure x := by intro _ _; rfl) (hcm : S.calm = true := by rfl) :
    JS S (.Assign [.Name x py] (.ListComp elt [⟨tg, iter, ifs, 0⟩] scope pos) spos) Γ m fun a => .nx (Γ.set i (some (R a))) := fun σ W F sta y hy E k => by
  obtain ⟨own, ok, go⟩ := h
  refine ⟨_, fun X hX => ps_setLc (hX.calm.trans hcm) (by rw [hX.N]; exact nd) (by rw [hX.N]; exact hN) (by rw [hX.sc]; exact hx) (sw_true (by rw [hX.sc]; exact hk) (by rw [hX.sc]; exact hx) hl hown) (piO hX) (by rw [hX.N, hX.sc]; exact ok) (fun s H C cl fp => pgO (hX.blk scope s H C cl fp)) (fun s H C cl fp => ptsO (hX.blk scope s H C cl fp)) (fun s H C cl fp => peO (hX.blk scope s H C cl fp)) (hs _), go σ W F sta y hy _ fun v W' Fv ext fr fp r => ?_⟩
  obtain ⟨F', s', stp⟩ := sta_set sta ext fr fp r hi
  exact k _ W' F' (Keep.set (ncon hp)) stp s'
/-- target = e, a target of names -/
theorem js_asg {m : Option α} {E : α → SP} {up : α → Ctx → Ctx} {ws : List Nat} (h : JN S e Γ m fun x => sh (E x)) (hg : JG S tg E up ws) (hl : ∀ i ∈ ws, i < Γ.length) (hs : ∀ env, swapsWithSole [tg] e pos.line env = pure false := by intro _; rfl) (hw : ∀ env, swappedStores [tg] e env = pure none := by intro _; rfl)
    (h1 : ∀ env, (assignEach [tg] env).map (·.2) = [assign tg env] := by intro _; rfl) : JS S (.Assign [tg] e pos) Γ m fun a => .nx (up a Γ) := fun σ W F sta y hy Ed k => by
  refine ⟨tAsg (tOf S e) (tgOf S tg), fun X hX => ps_asg (peO hX) (pgO hX) (hs _) (hw _) (h1 _), h σ W F sta y hy _ fun v W' Fv ext fr fp r => ?_⟩
  refine hg Γ σ W' F y v (sta.ext ext) hl r.2 _ fun σ' F' _ kp s' sub => ?_
  have stp : Stp W F W' F := by have := ext.stp (F := F) (Fv := []) (by simp); rwa [List.append_nil] at this
  exact k σ' W' F' kp (stp.perm sub) s'
/-! ### for -/
inductive Out (τ ρ : Type) where
  | nx (s : τ)
  | rt (r : ρ)
  | bk (s : τ)
  | ct (s : τ)
def Out.k (o : Out τ ρ) (f : τ → Option ω) (g : ρ → Option ω) : Option ω := match o with
  | .nx s => f s
  | .ct s => f s
  | .bk s => f s
  | .rt r => g r
/-- behind a turn -/
def Out.step (o : Out τ ρ) (k : τ → Option (Out τ ρ)) : Option (Out τ ρ) := match o with
  | .nx s => k s
  | .ct s => k s
  | .bk s => some (.nx s)
  | .rt r => some (.rt r)
def loopGo (f : α → τ → Option (Out τ ρ)) : List α → τ → Option (Out τ ρ)
  | [], s => some (.nx s)
  | x :: xs, s => (f x s).bind fun o => o.step fun s' => loopGo f xs s'
def foldGo (f : α → τ → Option τ) : List α → τ → Option τ
  | [], s => some s
  | x :: xs, s => (f x s).bind fun s' => foldGo f xs s'
/-- the ends of a loop's body, of the loop -/
def DL (Γl : τ → Ctx) (T : ρ → Kd) : Out τ ρ → Kd
  | .nx s => .nx (Γl s)
  | .ct s => .ct (Γl s)
  | .bk s => .bk (Γl s)
  | .rt r => T r
def DF (Γl : τ → Ctx) (T : ρ → Kd) : Out τ ρ → Kd
  | .nx s => .nx (Γl s)
  | .ct s => .nx (Γl s)
  | .bk s => .nx (Γl s)
  | .rt r => T r
theorem js_for {mi : Option (List α)} {E : α → SP} {up : α → Ctx → Ctx} {ws : List Nat} {Γl : τ → Ctx} {T : ρ → Kd} {f : α → τ → Option (Out τ ρ)} (s0 : τ) (hi : JI S tg iter Γ mi E) (hg : JG S tg E up ws) (w : Weak Γ (Γl s0)) (hl : ∀ s, ∀ i ∈ ws, i < (Γl s).length)
    (hT : ∀ r, NoNx (T r) ∧ (∀ Δ, T r ≠ .bk Δ) ∧ ∀ Δ, T r ≠ .ct Δ) (hb : ∀ x s, JB S A (up x (Γl s)) (f x s) (DL Γl T)) (hs : ∀ env x, foldedSetIterable iter env x = pure x := by intro _ _; rfl) (hcm : S.calm = true := by rfl) : JS S (.For tg iter A [] pos) Γ (mi.bind fun xs => loopGo f xs s0) (DF Γl T) := fun σ W F sta z hz Ed k => by
  obtain ⟨xs, h1, h2⟩ := run1 hz
  refine ⟨tFor (tiOf S tg iter) (tgOf S tg) (tbOf S A), fun X hX => ps_for hX.pass (hX.calm.trans hcm) (piO hX) (pgO hX) (pbO hX) (hs _), ?_⟩
  refine hi σ W F sta xs h1 _ fun J W' ext iok => ?_
  have stp0 : Stp W F W' F := by have := ext.stp (F := F) (Fv := []) (by simp); rwa [List.append_nil] at this
  obtain ⟨F0, sa0, sub0⟩ := (sta.ext ext).weak w
  refine ⟨fun i m σ1 H => m = xs.length - i ∧ i ≤ xs.length ∧ ∃ (W1 : Wd) (F1 : List Addr) (s : τ), W1.H = H ∧ Keep S.prot σ σ1 ∧ Stp W' F W1 F1 ∧ Sta (Γl s) σ1 W1 F1 ∧ loopGo f (xs.drop i) s = some z,
    ⟨xs.length, by simp, Nat.zero_le _, W', F0, s0, rfl, Keep.refl, (Stp.refl ext.ok).perm sub0, sa0, by simpa using h2⟩, ?_⟩
  rintro i m σ1 H ⟨rfl, hi', W1, F1, s, rfl, kp, stp, sa, go⟩
  obtain ⟨iok1, iok2⟩ := iok W1 ⟨sa.ok, stp.b⟩
  by_cases hlt : i < xs.length
  · obtain ⟨g1, g2⟩ := iok1 i xs[i] (List.getElem?_eq_getElem hlt)
    refine .inr ⟨g1, fun σ' H' => ∃ m', m' < xs.length - i ∧ (m' = xs.length - (i + 1) ∧ i + 1 ≤ xs.length ∧ ∃ (W1 : Wd) (F1 : List Addr) (s : τ), W1.H = H' ∧ Keep S.prot σ σ' ∧ Stp W' F W1 F1 ∧ Sta (Γl s) σ' W1 F1 ∧ loopGo f (xs.drop (i + 1)) s = some z), fun σ' H' h => h, fun v H' y => ?_⟩
    obtain ⟨W2, rfl, e2, p2⟩ := g2 v H' y
    have stp2 : Stp W1 F1 W2 F1 := by have := e2.stp (F := F1) (Fv := []) (by simp); rwa [List.append_nil] at this
    refine hg (Γl s) σ1 W2 F1 xs[i] v (sa.ext e2) (hl s) p2 _ fun σ2 F2 _ kp2 sa2 sub2 => ?_
    rw [List.drop_eq_getElem_cons hlt] at go
    obtain ⟨o, o1, o2⟩ := run1 (f := fun o : Out τ ρ => o.step fun s' => loopGo f (xs.drop (i + 1)) s') go
    have stpA : Stp W' F W2 F2 := (stp.trans stp2).perm sub2
    refine hb xs[i] s σ2 W2 F2 sa2 o o1 _ ?_
    cases o with
    | nx s' => exact fun σ3 W3 F3 k3 t3 a3 => ⟨xs.length - (i + 1), by omega, rfl, hlt, W3, F3, s', rfl, (kp.trans kp2).trans k3, stpA.trans t3, a3, o2⟩
    | ct s' => exact fun σ3 W3 F3 k3 t3 a3 => ⟨xs.length - (i + 1), by omega, rfl, hlt, W3, F3, s', rfl, (kp.trans kp2).trans k3, stpA.trans t3, a3, o2⟩
    | bk s' =>
      cases o2
      exact fun σ3 W3 F3 k3 t3 a3 => k σ3 W3 F3 ((kp.trans kp2).trans k3) (stp0.trans (stpA.trans t3)) a3
    | rt r =>
      cases o2
      obtain ⟨n1, n2, n3⟩ := hT r
      have k' : Post S.W S.prot σ W F Ed (T r) := k
      show Post S.W S.prot σ2 W2 F2 _ (T r)
      have k'' := k'.before (kp.trans kp2) (stp0.trans stpA)
      generalize hq : T r = q at k'' n1
      cases q with
      | nx Γ => exact n1.elim
      | bk Γ => exact absurd hq (n2 Γ)
      | ct Γ => exact absurd hq (n3 Γ)
      | rt Γ R => exact k''
      | xc Γ R => exact k''
  · have ei : i = xs.length := by omega
    subst ei
    rw [List.drop_length] at go
    cases go
    exact .inl ⟨iok2 _ (Nat.le_refl _), k σ1 W1 F1 kp (stp0.trans stp) sa⟩
theorem loopGo_fold {f : α → τ → Option τ} : ∀ (xs : List α) (s : τ), loopGo (ρ := Empty) (fun x s => (f x s).bind fun s' => some (.nx s')) xs s = (foldGo f xs s).bind fun s' => some (.nx s')
  | [], s => rfl
  | x :: xs, s => by
    show ((f x s).bind fun s' => some (Out.nx s')).bind _ = ((f x s).bind fun s' => foldGo f xs s').bind _
    cases f x s with
    | none => rfl
    | some s' => exact loopGo_fold xs s'
theorem JB.map {sts : List Stmt} {m : Option α} {D : ω → Kd} {g : α → ω} {D' : α → Kd} (h : JB S sts Γ m D') (hD : ∀ x, D (g x) = D' x) : JB S sts Γ (m.bind fun x => some (g x)) D := fun σ W F sta z hz E k => by
  obtain ⟨x, h1, h2⟩ := run1 hz
  cases h2
  rw [hD] at k
  exact h σ W F sta x h1 E k
theorem js_forS {mi : Option (List α)} {E : α → SP} {up : α → Ctx → Ctx} {ws : List Nat} {Γl : τ → Ctx} {f : α → τ → Option τ} (s0 : τ) (hi : JI S tg iter Γ mi E) (hg : JG S tg E up ws) (w : Weak Γ (Γl s0)) (hl : ∀ s, ∀ i ∈ ws, i < (Γl s).length)
    (hb : ∀ x s, JB S A (up x (Γl s)) (f x s) fun s' => .nx (Γl s')) (hs : ∀ env x, foldedSetIterable iter env x = pure x := by intro _ _; rfl) (hcm : S.calm = true := by rfl) : JS S (.For tg iter A [] pos) Γ (mi.bind fun xs => foldGo f xs s0) fun s => .nx (Γl s) := fun σ W F sta z hz Ed k => by
  have h := js_for (ρ := Empty) (T := fun r => nomatch r) (f := fun x s => (f x s).bind fun s' => some (.nx s')) (pos := pos) s0 hi hg w hl (fun r => nomatch r) (fun x s => JB.map (hb x s) fun s' => rfl) hs hcm
  refine h σ W F sta (.nx z) ?_ Ed k
  obtain ⟨xs, h1, h2⟩ := run1 hz
  rw [h1]
  show loopGo _ xs s0 = _
  rw [loopGo_fold, h2]
  rfl
/-- a statement that may return, then the rest -/
theorem jb_consO {ms : Option (Out τ υ)} {Γl : τ → Ctx} {T : υ → Kd} {mr : τ → Option ω} {D : ω → Kd} (ι : υ → ω) (h : JS S st Γ ms (DF Γl T)) (hι : ∀ r, D (ι r) = T r) (hT : ∀ r, NoNx (T r)) (hr : ∀ s, JB S rest (Γl s) (mr s) D) :
    JB S (st :: rest) Γ (ms.bind fun o => o.k mr fun r => some (ι r)) D := fun σ W F sta z hz E k => by
  obtain ⟨o, h1, h2⟩ := run1 hz
  refine ⟨tSeq (tsOf S st) (tbOf S rest), fun X hX => pss_cons (psO hX) (pbO hX), ?_⟩
  refine h σ W F sta o h1 { E with nx := tbOf S rest E } ?_
  cases o with
  | nx s => exact fun σ' W' F' kp stp sta' => hr s σ' W' F' sta' z h2 E (k.before kp stp)
  | ct s => exact fun σ' W' F' kp stp sta' => hr s σ' W' F' sta' z h2 E (k.before kp stp)
  | bk s => exact fun σ' W' F' kp stp sta' => hr s σ' W' F' sta' z h2 E (k.before kp stp)
  | rt r =>
    cases h2
    rw [hι] at k
    exact post_nox k (hT r)
/-! ### while -/
def whileGo (c : τ → Option Bool) (f : τ → Option (Out τ ρ)) : Nat → τ → Option (Out τ ρ)
  | 0, _ => none
  | n + 1, s => (c s).bind fun b => bif b then (f s).bind fun o => o.step fun s' => whileGo c f n s' else some (.nx s)
theorem js_while {Γl : τ → Ctx} {T : ρ → Kd} {mc : τ → Option Bool} {f : τ → Option (Out τ ρ)} (n : Nat) (s0 : τ) (w : Weak Γ (Γl s0)) (hT : ∀ r, NoNx (T r) ∧ (∀ Δ, T r ≠ .bk Δ) ∧ ∀ Δ, T r ≠ .ct Δ) (hc : ∀ s, JT S c (Γl s) (mc s)) (hb : ∀ s, JB S A (Γl s) (f s) (DL Γl T)) :
    JS S (.While c A [] pos) Γ (whileGo mc f n s0) (DF Γl T) := fun σ W F sta z hz Ed k => by
  refine ⟨tWhile (ttOf S c) (tbOf S A), fun X hX => ps_while hX.pass (ptO hX) (pbO hX), ?_⟩
  obtain ⟨F0, sa0, sub0⟩ := sta.weak w
  refine ⟨fun m σ1 H => ∃ (W1 : Wd) (F1 : List Addr) (s : τ), W1.H = H ∧ Keep S.prot σ σ1 ∧ Stp W F W1 F1 ∧ Sta (Γl s) σ1 W1 F1 ∧ whileGo mc f m s = some z, ⟨n, W, F0, s0, rfl, Keep.refl, (Stp.refl sta.ok).perm sub0, sa0, hz⟩, ?_⟩
  rintro m σ1 H ⟨W1, F1, s, rfl, kp, stp, sa, go⟩
  cases m with
  | zero => cases go
  | succ m =>
    obtain ⟨b, b1, b2⟩ := run1 (f := fun b => bif b then (f s).bind fun o : Out τ ρ => o.step fun s' => whileGo mc f m s' else some (.nx s)) go
    refine hc s σ1 W1 F1 sa b b1 _ fun W2 e2 => ?_
    have stp2 : Stp W1 F1 W2 F1 := by have := e2.stp (F := F1) (Fv := []) (by simp); rwa [List.append_nil] at this
    have stpA := stp.trans stp2
    cases b with
    | true =>
      obtain ⟨o, o1, o2⟩ := run1 (f := fun o : Out τ ρ => o.step fun s' => whileGo mc f m s') b2
      refine iteT ⟨fun σ' H' => ∃ m', m' < m + 1 ∧ ∃ (W1 : Wd) (F1 : List Addr) (s : τ), W1.H = H' ∧ Keep S.prot σ σ' ∧ Stp W F W1 F1 ∧ Sta (Γl s) σ' W1 F1 ∧ whileGo mc f m' s = some z, fun σ' H' h => h, ?_⟩
      refine hb s σ1 W2 F1 (sa.ext e2) o o1 _ ?_
      cases o with
      | nx s' => exact fun σ3 W3 F3 k3 t3 a3 => ⟨m, Nat.lt_succ_self m, W3, F3, s', rfl, kp.trans k3, stpA.trans t3, a3, o2⟩
      | ct s' => exact fun σ3 W3 F3 k3 t3 a3 => ⟨m, Nat.lt_succ_self m, W3, F3, s', rfl, kp.trans k3, stpA.trans t3, a3, o2⟩
      | bk s' =>
        cases o2
        exact fun σ3 W3 F3 k3 t3 a3 => k σ3 W3 F3 (kp.trans k3) (stpA.trans t3) a3
      | rt r =>
        cases o2
        obtain ⟨n1, n2, n3⟩ := hT r
        have k' : Post S.W S.prot σ W F Ed (T r) := k
        show Post S.W S.prot σ1 W2 F1 _ (T r)
        have k'' := k'.before kp stpA
        generalize hq : T r = q at k'' n1
        cases q with
        | nx Γ => exact n1.elim
        | bk Γ => exact absurd hq (n2 Γ)
        | ct Γ => exact absurd hq (n3 Γ)
        | rt Γ R => exact k''
        | xc Γ R => exact k''
    | false =>
      cases b2
      exact iteF (k σ1 W2 F1 kp stpA (sa.ext e2))
/-! ### writing into what is owned -/
theorem set_back {σ : L2.St} {i : Nat} {v : V} (h : σ[i]? = some (some v)) : σ.set i (some v) = σ := by
  refine List.ext_getElem? fun j => ?_
  by_cases e : i = j
  · subst e
    rw [h, List.getElem?_set_self (List.getElem?_eq_some_iff.mp h).1]
  · rw [List.getElem?_set_ne e]
/-- the owned slot i is rewritten: its own addresses F1 become F1' (with some of the owned temporaries G), all else stays -/
theorem sta_own {σ : L2.St} {W W' : Wd} {F F1 F2 F1' : List Addr} {i : Nat} {o' : OP} {v : V} (G : List Addr) (sta : Sta Γ σ W F) (fpG : FpOk W (F ++ G)) (h1 : σ[i]? = some (some v)) (hp : F.Perm (F1 ++ F2))
    (re : ∀ (W' : Wd) (o' : OP) (v' : V) (F1' : List Addr), Ex W.B W'.B → (∀ a ∈ F2, W'.H a = W.H a) → o'.C W' v' F1' → ∃ F', Holds (Γ.set i (some o')) (σ.set i (some v')) W' F' ∧ F'.Perm (F1' ++ F2))
    (ok : Ex W'.B W'.H) (eb : W'.B = W.B) (hh : ∀ a, a ∉ F1 → W.H a ≠ none → W'.H a = W.H a) (al : ∀ a, W.H a ≠ none → W'.H a ≠ none) (fp1 : FpOk W' F1') (fr1 : ∀ a ∈ F1', a ∈ F1 ∨ a ∈ G ∨ W.H a = none) (r : o'.C W' v F1') :
    ∃ F', Sta (Γ.set i (some o')) σ W' F' ∧ Stp W (F ++ G) W' F' := by
  have fp := sta.fp.perm hp
  have ne2 : ∀ a ∈ F2, a ∉ F1 := fun a ha h => fp.disj a h ha
  obtain ⟨F', c1, c2⟩ := re W' o' v F1' (by rw [eb]; exact Ex.refl _) (fun a ha => hh a (ne2 a ha) (fp.right.al a ha)) r
  rw [set_back h1] at c1
  have fpB : FpOk W' (F1' ++ F2) := fp1.app ⟨fp.right.nd, fun a ha => al a (fp.right.al a ha), fun a ha => by rw [eb]; exact fp.right.fr a ha⟩ fun a ha h => by
    rcases fr1 a ha with z | z | z
    · exact ne2 a h z
    · exact fpG.disj a (hp.mem_iff.mpr (List.mem_append_right _ h)) z
    · exact fp.right.al a h z
  refine ⟨F', ⟨ok, fpB.perm c2.symm, by rw [List.length_set]; exact sta.len, c1⟩, ok, by rw [eb]; exact Ex.refl _, fun a o h n => ?_, al, fun a _ h2 _ => by rw [eb]; exact h2, fun a ha => ?_⟩
  · rw [hh a (fun z => n (List.mem_append_left _ (hp.mem_iff.mpr (List.mem_append_left _ z)))) (by rw [h]; exact fun z => nomatch z)]
    exact h
  · rcases List.mem_append.mp (c2.mem_iff.mp ha) with z | z
    · rcases fr1 a z with q | q | q
      · exact .inl (List.mem_append_left _ (hp.mem_iff.mpr (List.mem_append_left _ q)))
      · exact .inl (List.mem_append_right _ q)
      · exact .inr q
    · exact .inl (List.mem_append_left _ (hp.mem_iff.mpr (List.mem_append_right _ z)))
/-- one address of an owned thing is written -/
theorem wr_ok {W : Wd} {p : Addr} {o : HO} (ok : Ex W.B W.H) (hB : W.B p = none) : Ex W.B (upd W.H p o) := fun a u h => by
  have z : a ≠ p := fun z => by rw [z, hB] at h; cases h
  rw [upd_ne z]
  exact ok a u h
theorem wr_al {W : Wd} {p : Addr} {o : HO} : ∀ a, W.H a ≠ none → upd W.H p o a ≠ none := fun a h => by
  by_cases z : a = p
  · rw [z, upd_same]; exact fun z => nomatch z
  · rw [upd_ne z]; exact h
def appM (xs : List α) (x : α) : Option (List α) := if xs.length < LIM then some (xs ++ [x]) else none
theorem js_app {x : Str} {p0 apos cpos spos : Pos} {E : α → OP} {xs : List α} {m : Option α} (i : Nat) (h : JN S e Γ m E) (hi : Γ[i]? = some (some (lstO E xs)) := by rfl) (hN : S.N[i]? = some x := by rfl) (hv : Vis S.sc x := by first | exact Or.inl rfl | exact Or.inr (Or.inl rfl) | exact Or.inr (Or.inr rfl))
    (hd : (x == ("__debug__" : Str)) = false := by decide) (hcd : (x == ("__classdict__" : Str)) = false := by decide)
    (hbase : ∀ env, attributeBase (.Name x p0) "append" env (eval (.Name x p0) env) = eval (.Name x p0) env := by intro _; rfl)
    (hfew : ∀ env, ((backTo cpos (starEach [e] env)).all (fun x => !x.1) && (backToKw cpos (keywordEach [] env)).all (fun x => x.1.isSome) && decide ([e].length + ([] : List Keyword).length + (if ([] : List Keyword).isEmpty then 0 else 1) < 30)) = true := by intro _; rfl)
    (hline : (apos.endLine == cpos.line) = true := by rfl) (hs : ∀ env, starEach [e] env = (false, eval e env) :: starEach [] env := by intro _; rfl) (hsw : ∀ env, swapsWith (.Call (.Attribute (.Name x p0) "append" apos) [e] [] cpos) none spos.line env = pure false := by intro _; rfl) :
    JS S (.Expr (.Call (.Attribute (.Name x p0) "append" apos) [e] [] cpos) spos) Γ (m.bind fun y => appM xs y) fun ys => .nx (Γ.set i (some (lstO E ys))) := fun σ W F sta z hz Ed k => by
  obtain ⟨y, h1, h2⟩ := run1 hz
  unfold appM at h2
  split at h2
  · rename_i hlen
    cases h2
    refine ⟨tDrop (tBM S.K "list" rAppend (tVar i) (tCons (tOf S e) tNil)), fun X hX => ps_expr (hX.K ▸ pe_bm PySem.F.plainAttrs_list PySem.F.slot_list_append PySem.F.type_list_append mt_append (pe_var (by rw [hX.N]; exact hN) (visS hv hX) hd hcd) (pa_cons (peO hX) pa_nil (hs _)) (hbase _) (hfew _) hline (hs _) rfl) (hsw _), ?_⟩
    obtain ⟨v, F1, F2, a1, a2, a3, a4⟩ := sta.hold.at hi
    obtain ⟨p, vs, G2, rfl, b2, rfl, b4⟩ := id a2
    refine ⟨.ref p, a1, .inl ⟨rfl, vs, .inl (.inl b2)⟩, h σ W F sta y h1 _ fun u W1 Fv ext fr fp r => ?_⟩
    have sta1 := sta.ext ext
    obtain ⟨v', F1', F2', c1, c2, c3, c4⟩ := sta1.hold.at hi
    have ev : v' = .ref p := by rw [a1] at c1; exact (Option.some.inj (Option.some.inj c1)).symm
    subst ev
    obtain ⟨p', vs', G2', e1, d2, rfl, d4⟩ := c2
    cases e1
    have hp1 : W1.H p = some (.lst vs) := ext.h p _ b2
    have evs : vs' = vs := by
      rw [hp1] at d2
      cases d2
      rfl
    subst evs
    have hB : W1.B p = none := (sta1.fp.perm c3).fr p (by simp)
    have fpA : FpOk W1 ((p :: G2') ++ Fv) := by
      have q : FpOk W1 (F ++ Fv) := sta.fp.fresh ext fp fr
      have q2 : FpOk W1 (((p :: G2') ++ F2') ++ Fv) := q.perm (List.Perm.append_right Fv c3)
      refine FpOk.left (F' := F2') (q2.perm ?_)
      rw [List.append_assoc, List.append_assoc]
      exact List.Perm.append_left _ List.perm_append_comm
    have q : FpOk W1 (F ++ Fv) := sta.fp.fresh ext fp fr
    refine ⟨p, vs', u, rfl, rfl, hp1, lim_lt (by rw [d4.len]; exact hlen), ?_⟩
    have nP : ∀ a ∈ G2' ++ Fv, a ≠ p := fun a ha z => (List.nodup_cons.mp fpA.nd).1 (z ▸ ha)
    have A3 : Owns E W1 (vs' ++ [u]) (xs ++ [y]) (G2' ++ Fv) := d4.app ⟨Fv, [], (List.append_nil _).symm, r, rfl⟩
    have A4 : Owns E ⟨upd W1.H p (.lst (vs' ++ [u])), W1.B⟩ (vs' ++ [u]) (xs ++ [y]) (G2' ++ Fv) := Owns.loc (W := W1) (W' := ⟨upd W1.H p (.lst (vs' ++ [u])), W1.B⟩) (fun _ _ h => h) A3 fun a ha => by
      show upd W1.H p (.lst (vs' ++ [u])) a = W1.H a
      exact upd_ne (nP a ha)
    obtain ⟨F', s', stp⟩ := sta_own (W' := ⟨upd W1.H p (.lst (vs' ++ [u])), W1.B⟩) (F1' := p :: (G2' ++ Fv)) (o' := lstO E (xs ++ [y])) Fv sta1 q c1 c3 c4 (wr_ok ext.ok hB) rfl (fun a ha _ => upd_ne fun z => ha (z ▸ List.mem_cons_self)) wr_al
      ⟨fpA.nd, fun a ha => wr_al a (fpA.al a ha), fpA.fr⟩ (fun a ha => by
        rcases List.mem_cons.mp ha with z | z
        · exact .inl (z ▸ List.mem_cons_self)
        · rcases List.mem_append.mp z with z | z
          · exact .inl (List.mem_cons_of_mem _ z)
          · exact .inr (.inl z)) ⟨p, vs' ++ [u], G2' ++ Fv, rfl, upd_same, rfl, A4⟩
    exact k σ _ F' Keep.refl ((ext.stp fr).trans stp) s'
  · cases h2
end
end CC
set_option maxHeartbeats 4000000
/-! Operations by values; writing; defs; state. -/
namespace CC
open PySem PySem.Spec L2
open PyProof.Rows hiding St
variable {α β γ δ τ ω ρ υ : Type}
/-! ### operations -/
theorem ov_I0 {g : Int → Int → V} {h : Int → Int → γ} {E : γ → SP} (hg : ∀ i j B, (E (h i j)).P B (g i j)) : OpV (rI0 g) intS intS (fun i j => some (h i j)) fun z => sh (E z) := fun W x y v u z ok hx hy e Q k => by
  cases e
  cases hx
  cases hy
  exact ⟨x, y, rfl, rfl, k.val ok (hg _ _ _)⟩
theorem ov_I {C : Int → Int → Prop} {g : Int → Int → V} {h : Int → Int → Option γ} {E : γ → SP} (hc : ∀ i j z, h i j = some z → C i j ∧ ∀ B, (E z).P B (g i j)) : OpV (rI C g) intS intS h fun z => sh (E z) := fun W x y v u z ok hx hy e Q k => by
  cases hx
  cases hy
  exact ⟨x, y, rfl, rfl, (hc _ _ _ e).1, k.val ok ((hc _ _ _ e).2 _)⟩
def addO (x y : Int) : Option Int := some (x + y)
def subO (x y : Int) : Option Int := some (x - y)
def mulO (x y : Int) : Option Int := if (-(2 ^ 64) < x ∧ x < 2 ^ 64) ∨ (-(2 ^ 64) < y ∧ y < 2 ^ 64) then some (x * y) else none
def divO (x y : Int) : Option Int := if 0 < y ∧ y < 1073741824 then some (x / y) else none
def modO (x y : Int) : Option Int := if 0 < y then some (x % y) else none
theorem ov_add : OpV (rI0 fun i j => .int (i + j)) intS intS (fun x y => some (x + y)) fun z => sh (intS z) := ov_I0 fun _ _ _ => rfl
theorem ov_sub : OpV (rI0 fun i j => .int (i - j)) intS intS (fun x y => some (x - y)) fun z => sh (intS z) := ov_I0 fun _ _ _ => rfl
theorem ov_mul : OpV (rI CMul fun i j => .int (i * j)) intS intS mulO fun z => sh (intS z) := ov_I fun i j z h => by
  unfold mulO at h
  split at h
  · cases h
    rename_i c
    exact ⟨c, fun _ => rfl⟩
  · cases h
theorem ov_div : OpV (rI CDiv fun i j => .int (i / j)) intS intS divO fun z => sh (intS z) := ov_I fun i j z h => by
  unfold divO at h
  split at h
  · cases h
    rename_i c
    exact ⟨c, fun _ => rfl⟩
  · cases h
theorem ov_mod : OpV (rI (fun _ j => 0 < j) fun i j => .int (i % j)) intS intS modO fun z => sh (intS z) := ov_I fun i j z h => by
  unfold modO at h
  split at h
  · cases h
    rename_i c
    exact ⟨c, fun _ => rfl⟩
  · cases h
theorem ov_lt : OpV (rI0 fun i j => .bl (decide (i < j))) intS intS (fun x y => some (decide (x < y))) fun z => sh (boolS z) := ov_I0 fun _ _ _ => rfl
theorem ov_le : OpV (rI0 fun i j => .bl (decide (i ≤ j))) intS intS (fun x y => some (decide (x ≤ y))) fun z => sh (boolS z) := ov_I0 fun _ _ _ => rfl
theorem ov_gt : OpV (rI0 fun i j => .bl (decide (j < i))) intS intS (fun x y => some (decide (y < x))) fun z => sh (boolS z) := ov_I0 fun _ _ _ => rfl
theorem ov_ge : OpV (rI0 fun i j => .bl (decide (j ≤ i))) intS intS (fun x y => some (decide (y ≤ x))) fun z => sh (boolS z) := ov_I0 fun _ _ _ => rfl
theorem ov_eqI : OpV rEq intS intS (fun x y => some (decide (x = y))) fun z => sh (boolS z) := fun W x y v u z ok hx hy e Q k => by
  cases e
  cases hx
  cases hy
  refine ⟨rfl, k.val ok ?_⟩
  show V.bl (decide (V.int x = V.int y)) = V.bl (decide (x = y))
  simp
theorem ov_neI : OpV rNe intS intS (fun x y => some (!decide (x = y))) fun z => sh (boolS z) := fun W x y v u z ok hx hy e Q k => by
  cases e
  cases hx
  cases hy
  refine ⟨rfl, k.val ok ?_⟩
  show V.bl (!decide (V.int x = V.int y)) = V.bl (!decide (x = y))
  simp
theorem ov_eqB : OpV rEq boolS boolS (fun x y => some (decide (x = y))) fun z => sh (boolS z) := fun W x y v u z ok hx hy e Q k => by
  cases e
  cases hx
  cases hy
  refine ⟨rfl, k.val ok ?_⟩
  show V.bl (decide (V.bl x = V.bl y)) = V.bl (decide (x = y))
  simp
theorem ov_neB : OpV rNe boolS boolS (fun x y => some (!decide (x = y))) fun z => sh (boolS z) := fun W x y v u z ok hx hy e Q k => by
  cases e
  cases hx
  cases hy
  refine ⟨rfl, k.val ok ?_⟩
  show V.bl (!decide (V.bl x = V.bl y)) = V.bl (!decide (x = y))
  simp
theorem ov_neS : OpV rNe strS strS (fun x y => some (!decide (x = y))) fun z => sh (boolS z) := fun W x y v u z ok hx hy e Q k => by
  cases e
  cases hx
  cases hy
  refine ⟨rfl, k.val ok ?_⟩
  show V.bl (!decide (V.str x = V.str y)) = V.bl (!decide (x = y))
  simp
theorem ov_eqS : OpV rEq strS strS (fun x y => some (decide (x = y))) fun z => sh (boolS z) := fun W x y v u z ok hx hy e Q k => by
  cases e
  cases hx
  cases hy
  refine ⟨rfl, k.val ok ?_⟩
  show V.bl (decide (V.str x = V.str y)) = V.bl (decide (x = y))
  simp
/-- None or not, by what the value is known to be -/
class NotNon (E : α → SP) : Prop where
  out : ∀ x B v, (E x).P B v → v ≠ .non
instance : NotNon intS := ⟨fun x B v h z => by cases h; cases z⟩
instance : NotNon boolS := ⟨fun x B v h z => by cases h; cases z⟩
instance : NotNon strS := ⟨fun x B v h z => by cases h; cases z⟩
instance {E : α → SP} : NotNon (lstS E) := ⟨fun x B v h z => by obtain ⟨a, _, rfl, _⟩ := h; cases z⟩
instance {E : α → SP} : NotNon (tupS E) := ⟨fun x B v h z => by obtain ⟨a, _, rfl, _⟩ := h; cases z⟩
instance {E : α → SP} {G : β → SP} : NotNon (prS E G) := ⟨fun x B v h z => by obtain ⟨a, _, rfl, _⟩ := h; cases z⟩
theorem ov_isN0 {E : α → SP} [n : NotNon E] : OpV (fun x y H Q => y = .non ∧ Q (.bl (decide (x = .non))) H) E (fun _ : Unit => nonS) (fun _ _ => some false) fun z => sh (boolS z) := fun W x y v u z ok hx hy e Q k => by
  cases e
  cases hy
  refine ⟨rfl, ?_⟩
  rw [decide_eq_false (n.out x _ _ hx)]
  exact k.val ok rfl
theorem ov_notN0 {E : α → SP} [n : NotNon E] : OpV (fun x y H Q => y = .non ∧ Q (.bl (!decide (x = .non))) H) E (fun _ : Unit => nonS) (fun _ _ => some true) fun z => sh (boolS z) := fun W x y v u z ok hx hy e Q k => by
  cases e
  cases hy
  refine ⟨rfl, ?_⟩
  rw [decide_eq_false (n.out x _ _ hx)]
  exact k.val ok rfl
theorem ov_isNO {E : α → SP} [n : NotNon E] : OpV (fun x y H Q => y = .non ∧ Q (.bl (decide (x = .non))) H) (optS E) (fun _ : Unit => nonS) (fun x _ => some x.isNone) fun z => sh (boolS z) := fun W x y v u z ok hx hy e Q k => by
  cases e
  cases hy
  refine ⟨rfl, ?_⟩
  cases x with
  | none =>
    cases hx
    exact k.val ok rfl
  | some x =>
    rw [decide_eq_false (n.out x _ _ hx)]
    exact k.val ok rfl
theorem ov_notNO {E : α → SP} [n : NotNon E] : OpV (fun x y H Q => y = .non ∧ Q (.bl (!decide (x = .non))) H) (optS E) (fun _ : Unit => nonS) (fun x _ => some x.isSome) fun z => sh (boolS z) := fun W x y v u z ok hx hy e Q k => by
  cases e
  cases hy
  refine ⟨rfl, ?_⟩
  cases x with
  | none =>
    cases hx
    exact k.val ok rfl
  | some x =>
    rw [decide_eq_false (n.out x _ _ hx)]
    exact k.val ok rfl
section
variable {S : Stc}
theorem oAdd : ∀ X, S.In X → OpR X (binaryOp .Add) (rI0 fun i j => .int (i + j)) := fun _ _ => op_add
theorem oSub : ∀ X, S.In X → OpR X (binaryOp .Sub) (rI0 fun i j => .int (i - j)) := fun _ _ => op_sub
theorem oMul : ∀ X, S.In X → OpR X (binaryOp .Mult) (rI CMul fun i j => .int (i * j)) := fun _ _ => op_mul
theorem oDiv : ∀ X, S.In X → OpR X (binaryOp .FloorDiv) (rI CDiv fun i j => .int (i / j)) := fun _ _ => op_fdiv
theorem oMod : ∀ X, S.In X → OpR X (binaryOp .Mod) (rI (fun _ j => 0 < j) fun i j => .int (i % j)) := fun _ _ => op_mod
theorem oLt : ∀ X, S.In X → OpR X (compareOp .Lt) (rI0 fun i j => .bl (decide (i < j))) := fun _ _ => op_lt
theorem oLe : ∀ X, S.In X → OpR X (compareOp .LtE) (rI0 fun i j => .bl (decide (i ≤ j))) := fun _ _ => op_le
theorem oGt : ∀ X, S.In X → OpR X (compareOp .Gt) (rI0 fun i j => .bl (decide (j < i))) := fun _ _ => op_gt
theorem oGe : ∀ X, S.In X → OpR X (compareOp .GtE) (rI0 fun i j => .bl (decide (j ≤ i))) := fun _ _ => op_ge
theorem oEq : ∀ X, S.In X → OpR X (compareOp .Eq) rEq := fun _ _ => op_eq
theorem oNe : ∀ X, S.In X → OpR X (compareOp .NotEq) rNe := fun _ _ => op_ne
theorem oIsN : ∀ X, S.In X → OpR X (compareOp .Is) (fun x y H Q => y = .non ∧ Q (.bl (decide (x = .non))) H) := fun _ _ => op_isN
theorem oNotN : ∀ X, S.In X → OpR X (compareOp .IsNot) (fun x y H Q => y = .non ∧ Q (.bl (!decide (x = .non))) H) := fun _ _ => op_notN
theorem oIxL : ∀ X, S.In X → IxR X (rIxL S.K) := fun _ h => h.K ▸ ix_list
theorem oIxT : ∀ X, S.In X → IxR X (rIxT S.K) := fun _ h => h.K ▸ ix_tup
end
theorem atI_each {E : α → SP} {B : Hp} {vs : List V} {xs : List α} {i : Int} {x : α} (h : Each E B vs xs) (e : atI xs i = some x) : ∃ v, atI vs i = some v ∧ (E x).P B v := by
  unfold atI at e ⊢
  rw [h.len]
  cases q : ixN xs.length i with
  | none => rw [q] at e; cases e
  | some j =>
    rw [q] at e
    exact h.get e
theorem atI_owns {E : α → OP} {W : Wd} {vs : List V} {xs : List α} {F : List Addr} {i : Int} {x : α} (h : Owns E W vs xs F) (e : atI xs i = some x) : ∃ v F1, atI vs i = some v ∧ (E x).C W v F1 ∧ ∀ a ∈ F1, a ∈ F := by
  unfold atI at e ⊢
  rw [h.len]
  cases q : ixN xs.length i with
  | none => rw [q] at e; cases e
  | some j =>
    rw [q] at e
    obtain ⟨v, F1, F2, h1, h2, h3, _⟩ := h.at e
    exact ⟨v, F1, h1, h2, fun a ha => h3.mem_iff.mpr (List.mem_append_left _ ha)⟩
theorem iv_lstO {K : PySem.W.Frag} {E : α → OP} : IxV (rIxL K) (lstO E) intS (fun xs i => atI xs i) E := fun W x y v u z F1 ok hx hy e Q k => by
  cases hy
  obtain ⟨a, vs, F2, rfl, h2, rfl, h4⟩ := hx
  obtain ⟨t, F3, q1, q2, q3⟩ := atI_owns h4 e
  exact ⟨a, vs, y, t, rfl, rfl, .inl (.inl h2), q1, k t ⟨F3, q2, fun b hb => List.mem_cons_of_mem _ (q3 b hb)⟩⟩
theorem iv_lst {K : PySem.W.Frag} {E : α → SP} : IxV (rIxL K) (fun xs => sh (lstS E xs)) intS (fun xs i => atI xs i) fun x => sh (E x) := fun W x y v u z F1 ok hx hy e Q k => by
  cases hy
  obtain ⟨_, a, vs, rfl, h2, h4⟩ := hx
  obtain ⟨t, q1, q2⟩ := atI_each h4 e
  exact ⟨a, vs, y, t, rfl, rfl, .inl (.inl (ok a _ h2)), q1, k t ⟨[], ⟨rfl, q2⟩, by simp⟩⟩
theorem iv_tup {K : PySem.W.Frag} {E : α → SP} : IxV (rIxT K) (fun xs => sh (tupS E xs)) intS (fun xs i => atI xs i) fun x => sh (E x) := fun W x y v u z F1 ok hx hy e Q k => by
  cases hy
  obtain ⟨_, a, vs, rfl, h2, h4⟩ := hx
  obtain ⟨t, q1, q2⟩ := atI_each h4 e
  exact ⟨a, vs, y, t, rfl, rfl, .inl (.inl (ok a _ h2)), q1, k t ⟨[], ⟨rfl, q2⟩, by simp⟩⟩
theorem iv_scr {K : PySem.W.Frag} : IxV (rIxL K) (fun xs => sh (scrS K xs)) intS (fun xs i => atI xs i) fun x => sh (intS x) := fun W x y v u z F1 ok hx hy e Q k => by
  cases hy
  obtain ⟨_, a, rfl, h2⟩ := hx
  have hq : SqL K W.H a (x.map V.int) := by
    rcases h2 with (h | ⟨o, h⟩) | h
    · exact .inl (.inl (ok _ _ h))
    · exact .inl (.inr ⟨o, ok _ _ h⟩)
    · exact .inr h
  have e : atI x y = some z := e
  have e' : atI (x.map V.int) y = some (.int z) := by
    unfold atI at e ⊢
    rw [List.length_map]
    cases q : ixN x.length y with
    | none => rw [q] at e; cases e
    | some j =>
      rw [q] at e
      show (x.map V.int)[j]? = some (.int z)
      rw [List.getElem?_map, show x[j]? = some z from e]
      rfl
  exact ⟨a, _, y, .int z, rfl, rfl, hq, e', k _ ⟨[], ⟨rfl, rfl⟩, by simp⟩⟩
section
variable {S : Stc} {Γ Δ : Ctx} {a b c e tg iter elt : Expr} {es ifs : List Expr} {pos : Pos} {st : Stmt} {rest A B : List Stmt}
/-- an item of a tuple (of a list) of several kinds, at a written place -/
theorem atI_k {vs : List V} {k : Nat} {v : V} (h : vs[k]? = some v) : atI vs (k : Int) = some v := atI_nat h
theorem jn_ixT {ps : α → List SP} {E : β → SP} {g : α → β} {m : Option α} {j : Int} {kk p'} (k : Nat) (h : JN S a Γ m fun x => sh (htupS (ps x))) (hk : ∀ x, (ps x)[k]? = some (E (g x)) := by intro _; rfl) (hj : j = (k : Int) := by rfl) :
    JN S (.Subscript a (.Constant (.int j) kk p') pos) Γ (m.bind fun x => some (g x)) fun z => sh (E z) := fun σ W F sta z hz Q kq => by
  obtain ⟨x, h1, h2⟩ := run1 hz
  cases h2
  refine ⟨tOp (rIxT S.K) (tOf S a) (tC (.int j)), fun X hX => pe_ix (oIxT X hX) (peO hX) pe_int (fun _ _ => rfl), h σ W F sta x h1 _ fun v W' Fv ext _ _ r => ?_⟩
  obtain ⟨_, p, vs, rfl, q2, q3⟩ := r
  obtain ⟨u, u1, u2⟩ := q3.get (hk x)
  exact ⟨p, vs, j, u, rfl, rfl, .inl (.inl (ext.ok p _ q2)), by rw [hj]; exact atI_k u1, (kq.ext ext).val ext.ok u2⟩
theorem jn_ixH {ps : α → List SP} {E : β → SP} {g : α → β} {m : Option α} {j : Int} {kk p'} (k : Nat) (h : JN S a Γ m fun x => sh (hlstS (ps x))) (hk : ∀ x, (ps x)[k]? = some (E (g x)) := by intro _; rfl) (hj : j = (k : Int) := by rfl) :
    JN S (.Subscript a (.Constant (.int j) kk p') pos) Γ (m.bind fun x => some (g x)) fun z => sh (E z) := fun σ W F sta z hz Q kq => by
  obtain ⟨x, h1, h2⟩ := run1 hz
  cases h2
  refine ⟨tOp (rIxL S.K) (tOf S a) (tC (.int j)), fun X hX => pe_ix (oIxL X hX) (peO hX) pe_int (fun _ _ => rfl), h σ W F sta x h1 _ fun v W' Fv ext _ _ r => ?_⟩
  obtain ⟨_, p, vs, rfl, q2, q3⟩ := r
  obtain ⟨u, u1, u2⟩ := q3.get (hk x)
  exact ⟨p, vs, j, u, rfl, rfl, .inl (.inl (ext.ok p _ q2)), by rw [hj]; exact atI_k u1, (kq.ext ext).val ext.ok u2⟩
/-- .. of an owned list of several kinds -/
theorem jr_ixO {ps : α → List OP} {R : β → OP} {g : α → β} {m : Option α} {j : Int} {kk p'} (k : Nat) (h : JR S a Γ m fun x => hetO (ps x)) (hk : ∀ x, (ps x)[k]? = some (R (g x)) := by intro _; rfl) (hj : j = (k : Int) := by rfl) :
    JR S (.Subscript a (.Constant (.int j) kk p') pos) Γ (m.bind fun x => some (g x)) R := fun σ W F sta z hz Q kq => by
  obtain ⟨x, h1, h2⟩ := run1 hz
  cases h2
  refine ⟨tOp (rIxL S.K) (tOf S a) (tC (.int j)), fun X hX => pe_ix (oIxL X hX) (peO hX) pe_int (fun _ _ => rfl), h σ W F sta x h1 _ fun v W' ext ⟨F1, r, al⟩ => ?_⟩
  obtain ⟨p, vs, F2, rfl, q2, rfl, q3⟩ := r
  obtain ⟨u, G1, G2, u1, u2, u3, _⟩ := q3.at (hk x)
  exact ⟨p, vs, j, u, rfl, rfl, .inl (.inl q2), by rw [hj]; exact atI_k u1, kq u W' ext ⟨G1, u2, fun b hb => al b (List.mem_cons_of_mem _ (u3.mem_iff.mpr (List.mem_append_left _ hb)))⟩⟩
/-- len -/
theorem len_lstO {E : α → OP} {m : Option (List α)} {p : Pos} (hm : S.mg "len" = none) (h : JR S a Γ m (lstO E)) (hg : GlS S "len" := by rfl) (hs : ∀ env, starEach [a] env = [(false, eval a env)] := by intro _; rfl) : JN S (.Call (.Name "len" p) [a] [] pos) Γ (m.bind fun xs => some (xs.length : Int)) fun z => sh (intS z) := fun σ W F sta z hz Q kq => by
  obtain ⟨x, h1, h2⟩ := run1 hz
  cases h2
  refine ⟨tCB (fun xs H Q => ∃ p ys, xs = [.ref p] ∧ (SqL S.K H p ys ∨ SqT S.K H p ys) ∧ Q (.int ys.length) H) (tCons (tOf S a) tNil), fun X hX => pe_callB (hX.K ▸ call_len_seq) (hg.gl hX) (mgS hm hX) PySem.boot_len (pa_cons (peO hX) pa_nil (hs _)) (by decide) (by decide) (hs _) rfl, h σ W F sta x h1 _ fun v W' ext ⟨F1, r, al⟩ => ?_⟩
  obtain ⟨p, vs, F2, rfl, q2, rfl, q3⟩ := r
  exact ⟨p, vs, rfl, .inl (.inl (.inl q2)), (kq.ext ext).val ext.ok (by rw [q3.len]; rfl)⟩
theorem hets1 {B : Hp} {vs : List V} {p : SP} (h : Hets B vs [p]) : ∃ v, vs = [v] ∧ p.P B v := by
  match vs, h with
  | [v], ⟨h, _⟩ => exact ⟨v, rfl, h⟩
theorem hets2 {B : Hp} {vs : List V} {p q : SP} (h : Hets B vs [p, q]) : ∃ v u, vs = [v, u] ∧ p.P B v ∧ q.P B u := by
  match vs, h with
  | [v, u], ⟨h, h', _⟩ => exact ⟨v, u, rfl, h, h'⟩
/-- f(x), a builtin of one shared argument -/
theorem jn_b1 {x : Str} {id : String} {p : Pos} {r : List V → Hp → VK → Prop} {m : Option α} {E : α → SP} {f : α → Option γ} {R : γ → OP} (hc : ∀ X, S.In X → CallR X (.builtin id) r)
    (hr : ∀ W x v z, Ex W.B W.H → (E x).P W.B v → f x = some z → ∀ Q : VK, Got (R z) W Q → r [v] W.H Q) (hm : S.mg x = none) (ha : JN S a Γ m fun x => sh (E x))
    (hg : GlS S x := by rfl) (hv : bootBuiltins x = some (.builtin id) := by decide +kernel) (hn : x ≠ "__name__" := by decide) (hdb : (x == ("__debug__" : Str)) = false := by decide)
    (hs : ∀ env, starEach [a] env = [(false, eval a env)] := by intro _; rfl) : JN S (.Call (.Name x p) [a] [] pos) Γ (m.bind fun y => f y) R := fun σ W F sta z hz Q k => by
  obtain ⟨y, h1, h2⟩ := run1 hz
  exact ⟨tCB r (tCons (tOf S a) tNil), fun X hX => pe_callB (hc X hX) (hg.gl hX) (mgS hm hX) hv (pa_cons (peO hX) pa_nil (hs _)) hn hdb (hs _) rfl, ha σ W F sta y h1 _ fun v W' Fv e _ _ hh => hr W' y v z e.ok hh.2 h2 Q (k.ext e)⟩
theorem jn_t1 {x : Str} {T : String} {p : Pos} {r : List V → Hp → VK → Prop} {m : Option α} {E : α → SP} {f : α → Option γ} {R : γ → OP} (hc : ∀ X, S.In X → CallR X (.type T) r)
    (hr : ∀ W x v z, Ex W.B W.H → (E x).P W.B v → f x = some z → ∀ Q : VK, Got (R z) W Q → r [v] W.H Q) (hm : S.mg x = none) (ha : JN S a Γ m fun x => sh (E x))
    (hg : GlS S x := by rfl) (hv : bootBuiltins x = some (.type T) := by decide +kernel) (hn : x ≠ "__name__" := by decide) (hdb : (x == ("__debug__" : Str)) = false := by decide)
    (hs : ∀ env, starEach [a] env = [(false, eval a env)] := by intro _; rfl) : JN S (.Call (.Name x p) [a] [] pos) Γ (m.bind fun y => f y) R := fun σ W F sta z hz Q k => by
  obtain ⟨y, h1, h2⟩ := run1 hz
  exact ⟨tCB r (tCons (tOf S a) tNil), fun X hX => pe_callTy (hc X hX) (hg.gl hX) (mgS hm hX) hv (pa_cons (peO hX) pa_nil (hs _)) hn hdb (hs _) rfl, ha σ W F sta y h1 _ fun v W' Fv e _ _ hh => hr W' y v z e.ok hh.2 h2 Q (k.ext e)⟩
theorem len_lst {E : α → SP} {m : Option (List α)} {p : Pos} (hm : S.mg "len" = none) (h : JN S a Γ m fun x => sh (lstS E x)) (hg : GlS S "len" := by rfl) (hs : ∀ env, starEach [a] env = [(false, eval a env)] := by intro _; rfl) : JN S (.Call (.Name "len" p) [a] [] pos) Γ (m.bind fun xs => some (xs.length : Int)) fun z => sh (intS z) :=
  jn_b1 (r := fun xs H Q => ∃ p ys, xs = [.ref p] ∧ (SqL S.K H p ys ∨ SqT S.K H p ys) ∧ Q (.int ys.length) H) (f := fun xs : List α => some (xs.length : Int)) (fun X hX => hX.K ▸ call_len_seq) (fun W x v z ok hh e Q k => by
    cases e
    obtain ⟨p, vs, rfl, q2, q3⟩ := hh
    exact ⟨p, vs, rfl, .inl (.inl (.inl (ok p _ q2))), k.val ok (by rw [q3.len]; rfl)⟩) hm h hg PySem.boot_len (by decide) (by decide) hs
theorem len_tup {E : α → SP} {m : Option (List α)} {p : Pos} (hm : S.mg "len" = none) (h : JN S a Γ m fun x => sh (tupS E x)) (hg : GlS S "len" := by rfl) (hs : ∀ env, starEach [a] env = [(false, eval a env)] := by intro _; rfl) : JN S (.Call (.Name "len" p) [a] [] pos) Γ (m.bind fun xs => some (xs.length : Int)) fun z => sh (intS z) :=
  jn_b1 (r := fun xs H Q => ∃ p ys, xs = [.ref p] ∧ (SqL S.K H p ys ∨ SqT S.K H p ys) ∧ Q (.int ys.length) H) (f := fun xs : List α => some (xs.length : Int)) (fun X hX => hX.K ▸ call_len_seq) (fun W x v z ok hh e Q k => by
    cases e
    obtain ⟨p, vs, rfl, q2, q3⟩ := hh
    exact ⟨p, vs, rfl, .inr (.inl (.inl (ok p _ q2))), k.val ok (by rw [q3.len]; rfl)⟩) hm h hg PySem.boot_len (by decide) (by decide) hs
theorem int_int {m : Option Int} {p : Pos} (hm : S.mg "int" = none) (h : JN S a Γ m fun x => sh (intS x)) (hg : GlS S "int" := by rfl) (hs : ∀ env, starEach [a] env = [(false, eval a env)] := by intro _; rfl) : JN S (.Call (.Name "int" p) [a] [] pos) Γ (m.bind fun x => some x) fun z => sh (intS z) :=
  jn_t1 (f := fun x : Int => some x) (fun X hX => call_int1) (fun W x v z ok hh e Q k => by
    cases e
    cases hh
    exact .inl ⟨_, rfl, k.val ok rfl⟩) hm h hg (by decide +kernel) (by decide) (by decide) hs
def b2i (b : Bool) : Int := if b then 1 else 0
theorem int_bool {m : Option Bool} {p : Pos} (hm : S.mg "int" = none) (h : JN S a Γ m fun x => sh (boolS x)) (hg : GlS S "int" := by rfl) (hs : ∀ env, starEach [a] env = [(false, eval a env)] := by intro _; rfl) : JN S (.Call (.Name "int" p) [a] [] pos) Γ (m.bind fun x => some (b2i x)) fun z => sh (intS z) :=
  jn_t1 (f := fun x : Bool => some (b2i x)) (fun X hX => call_int1) (fun W x v z ok hh e Q k => by
    cases e
    cases hh
    exact .inr ⟨_, rfl, k.val ok rfl⟩) hm h hg (by decide +kernel) (by decide) (by decide) hs
def absI (i : Int) : Int := if i < 0 then -i else i
theorem abs_int {m : Option Int} {p : Pos} (hm : S.mg "abs" = none) (h : JN S a Γ m fun x => sh (intS x)) (hg : GlS S "abs" := by rfl) (hs : ∀ env, starEach [a] env = [(false, eval a env)] := by intro _; rfl) : JN S (.Call (.Name "abs" p) [a] [] pos) Γ (m.bind fun x => some (absI x)) fun z => sh (intS z) :=
  jn_b1 (f := fun x : Int => some (absI x)) (fun X hX => call_abs) (fun W x v z ok hh e Q k => by
    cases e
    cases hh
    exact ⟨_, rfl, k.val ok rfl⟩) hm h hg (by decide +kernel) (by decide) (by decide) hs
theorem sum_scr {m : Option (List Int)} {p : Pos} (hm : S.mg "sum" = none) (h : JN S a Γ m fun x => sh (scrS S.K x)) (hg : GlS S "sum" := by rfl) (hs : ∀ env, starEach [a] env = [(false, eval a env)] := by intro _; rfl) (hcm : S.calm = true := by rfl) : JN S (.Call (.Name "sum" p) [a] [] pos) Γ (m.bind fun x => some x.sum) fun z => sh (intS z) :=
  jn_b1 (f := fun x : List Int => some x.sum) (fun X hX => hX.K ▸ cr_sum (hX.calm.trans hcm)) (fun W x v z ok hh e Q k => by
    cases e
    obtain ⟨a, rfl, h2⟩ := hh
    refine ⟨a, x, rfl, ?_, k.val ok rfl⟩
    rcases h2 with (h | ⟨o, h⟩) | h
    · exact .inl (.inl (ok _ _ h))
    · exact .inl (.inr ⟨o, ok _ _ h⟩)
    · exact .inr h) hm h hg (by decide +kernel) (by decide) (by decide) hs
theorem fp_one {W : Wd} {l : Addr} {o : HO} (h : W.B l = none) : FpOk ⟨upd W.H l o, W.B⟩ [l] :=
  ⟨by simp, fun a ha => by
    rw [List.mem_singleton.mp ha]
    show upd W.H l o l ≠ none
    rw [upd_same]
    exact Option.some_ne_none _, fun a ha => by
    rw [List.mem_singleton.mp ha]
    exact h⟩
theorem Got.newL {W : Wd} {Q : VK} {E : α → SP} {xs : List α} {vs : List V} (k : Got (lstO (fun x => sh (E x)) xs) W Q) (ok : Ex W.B W.H) (h : Each E W.B vs xs) : ∀ l, W.H l = none → Q (.ref l) (upd W.H l (.lst vs)) := fun l hl =>
  k (.ref l) ⟨upd W.H l (.lst vs), W.B⟩ [l] (Ext.new ok hl) (fun a ha => by rw [List.mem_singleton.mp ha]; exact hl) (fp_one (ok.back hl)) ⟨l, vs, [], rfl, upd_same, rfl, Owns.of_each h⟩
theorem Got.newT {W : Wd} {Q : VK} {E : α → SP} {xs : List α} {vs : List V} (k : Got (sh (tupS E xs)) W Q) (ok : Ex W.B W.H) (h : Each E W.B vs xs) : ∀ l, W.H l = none → Q (.ref l) (upd W.H l (.tup vs)) := fun l hl =>
  k (.ref l) ⟨upd W.H l (.tup vs), upd W.B l (.tup vs)⟩ [] (Ext.newB ok hl) (by simp) FpOk.nil ⟨rfl, l, vs, rfl, upd_same, h.mono (Ext.newB ok hl).b⟩
theorem list_scr {m : Option (List Int)} {p : Pos} (hm : S.mg "list" = none) (h : JN S a Γ m fun x => sh (scrS S.K x)) (hg : GlS S "list" := by rfl) (hs : ∀ env, starEach [a] env = [(false, eval a env)] := by intro _; rfl) : JN S (.Call (.Name "list" p) [a] [] pos) Γ (m.bind fun x => some x) (lstO fun x => sh (intS x)) :=
  jn_t1 (f := fun x : List Int => some x) (fun X hX => hX.K ▸ call_list_of) (fun W x v z ok hh e Q k => by
    cases e
    obtain ⟨a, rfl, h2⟩ := hh
    have hq : SqL S.K W.H a (x.map V.int) := by
      rcases h2 with (h | ⟨o, h⟩) | h
      · exact .inl (.inl (ok _ _ h))
      · exact .inl (.inr ⟨o, ok _ _ h⟩)
      · exact .inr h
    have hE : Each intS W.B (x.map V.int) x := by
      clear k h2 hq h
      induction x with
      | nil => trivial
      | cons y x ih => exact ⟨rfl, ih⟩
    exact ⟨a, _, rfl, .inl hq, k.newL ok hE⟩) hm h hg (by decide +kernel) (by decide) (by decide) hs
theorem list_lst {E : α → SP} {m : Option (List α)} {p : Pos} (hm : S.mg "list" = none) (h : JN S a Γ m fun x => sh (lstS E x)) (hg : GlS S "list" := by rfl) (hs : ∀ env, starEach [a] env = [(false, eval a env)] := by intro _; rfl) : JN S (.Call (.Name "list" p) [a] [] pos) Γ (m.bind fun x => some x) (lstO fun x => sh (E x)) :=
  jn_t1 (f := fun x : List α => some x) (fun X hX => hX.K ▸ call_list_of) (fun W x v z ok hh e Q k => by
    cases e
    obtain ⟨a, vs, rfl, h2, h3⟩ := hh
    exact ⟨a, _, rfl, .inl (.inl (.inl (ok a _ h2))), k.newL ok h3⟩) hm h hg (by decide +kernel) (by decide) (by decide) hs
theorem list_tup {E : α → SP} {m : Option (List α)} {p : Pos} (hm : S.mg "list" = none) (h : JN S a Γ m fun x => sh (tupS E x)) (hg : GlS S "list" := by rfl) (hs : ∀ env, starEach [a] env = [(false, eval a env)] := by intro _; rfl) : JN S (.Call (.Name "list" p) [a] [] pos) Γ (m.bind fun x => some x) (lstO fun x => sh (E x)) :=
  jn_t1 (f := fun x : List α => some x) (fun X hX => hX.K ▸ call_list_of) (fun W x v z ok hh e Q k => by
    cases e
    obtain ⟨a, vs, rfl, h2, h3⟩ := hh
    exact ⟨a, _, rfl, .inr (.inl (.inl (ok a _ h2))), k.newL ok h3⟩) hm h hg (by decide +kernel) (by decide) (by decide) hs
/-- tuple of a list, fresh or shared -/
theorem tup_lst {E : α → SP} {m : Option (List α)} {p : Pos} (hm : S.mg "tuple" = none) (h : JN S a Γ m fun x => sh (lstS E x)) (hg : GlS S "tuple" := by rfl) (hs : ∀ env, starEach [a] env = [(false, eval a env)] := by intro _; rfl) : JN S (.Call (.Name "tuple" p) [a] [] pos) Γ (m.bind fun x => some x) fun x => sh (tupS E x) :=
  jn_t1 (f := fun x : List α => some x) (fun X hX => hX.K ▸ call_tuple_of) (fun W x v z ok hh e Q k => by
    cases e
    obtain ⟨a, vs, rfl, h2, h3⟩ := hh
    exact ⟨a, vs, rfl, .inl ⟨.inl (.inl (ok a _ h2)), k.newT ok h3⟩⟩) hm h hg (by decide +kernel) (by decide) (by decide) hs
theorem tup_own {E : α → SP} {m : Option (List α)} {p : Pos} (hm : S.mg "tuple" = none) (h : JR S a Γ m (lstO fun x => sh (E x))) (hg : GlS S "tuple" := by rfl) (hs : ∀ env, starEach [a] env = [(false, eval a env)] := by intro _; rfl) : JN S (.Call (.Name "tuple" p) [a] [] pos) Γ (m.bind fun x => some x) fun x => sh (tupS E x) := fun σ W F sta z hz Q kq => by
  obtain ⟨x, h1, h2⟩ := run1 hz
  cases h2
  refine ⟨tCB (fun xs H Q => ∃ p ys, xs = [.ref p] ∧ ((SqL S.K H p ys ∧ ∀ l, H l = none → Q (.ref l) (upd H l (.tup ys))) ∨ (SqT S.K H p ys ∧ Q (.ref p) H))) (tCons (tOf S a) tNil), fun X hX => pe_callTy (hX.K ▸ call_tuple_of) (hg.gl hX) (mgS hm hX) (by decide +kernel) (pa_cons (peO hX) pa_nil (hs _)) (by decide) (by decide) (hs _) rfl, h σ W F sta z h1 _ fun v W' ext ⟨F1, r, al⟩ => ?_⟩
  obtain ⟨p, vs, F2, rfl, q2, rfl, q3⟩ := r
  obtain ⟨_, q4⟩ := q3.each
  exact ⟨p, vs, rfl, .inl ⟨.inl (.inl q2), (kq.ext ext).newT ext.ok q4⟩⟩
/-- list(range(n)), tuple(range(n)) -/
theorem each_rg {B : Hp} (lo hi : Int) : Each intS B (rgV lo hi) ((List.range (hi - lo).toNat).map fun i : Nat => lo + (i : Int)) := by
  unfold rgV
  generalize List.range (hi - lo).toNat = l
  induction l with
  | nil => trivial
  | cons y l ih => exact ⟨rfl, ih⟩
theorem list_rng {m : Option Int} {p p2 pos2 : Pos} (hm : S.mg "list" = none) (hm2 : S.mg "range" = none) (h : JN S a Γ m fun x => sh (intS x)) (hg : GlS S "list" := by rfl) (hg2 : GlS S "range" := by rfl) (hs : ∀ env, starEach [a] env = [(false, eval a env)] := by intro _; rfl)
    (hs2 : ∀ env, starEach [Expr.Call (.Name "range" p2) [a] [] pos2] env = [(false, eval (Expr.Call (.Name "range" p2) [a] [] pos2) env)] := by intro _; rfl) (hcm : S.calm = true := by rfl) :
    JN S (.Call (.Name "list" p) [.Call (.Name "range" p2) [a] [] pos2] [] pos) Γ (m.bind fun n => rng 0 n) (lstO fun x => sh (intS x)) := fun σ W F sta z hz Q kq => by
  obtain ⟨n, h1, h2⟩ := run1 hz
  unfold rng at h2
  split at h2
  · rename_i hb
    cases h2
    refine ⟨tLstRg (tRg1 (tOf S a)), fun X hX => pe_listRg (hX.calm.trans hcm) (hg.gl hX) (mgS hm hX) (prg_1 (hg2.gl hX) (mgS hm2 hX) (peO hX) (hs _)) (hs2 _), h σ W F sta n h1 _ fun v W' Fv ext _ _ r => ?_⟩
    obtain ⟨_, rfl⟩ := r
    have z : (LIM : Int) = 1000000 := rfl
    exact ⟨n, rfl, ⟨by omega, by omega, by omega, by omega, by omega⟩, (kq.ext ext).newL ext.ok (each_rg 0 n)⟩
  · cases h2
theorem tup_rng {m : Option Int} {p p2 pos2 : Pos} (hm : S.mg "tuple" = none) (hm2 : S.mg "range" = none) (h : JN S a Γ m fun x => sh (intS x)) (hg : GlS S "tuple" := by rfl) (hg2 : GlS S "range" := by rfl) (hs : ∀ env, starEach [a] env = [(false, eval a env)] := by intro _; rfl)
    (hs2 : ∀ env, starEach [Expr.Call (.Name "range" p2) [a] [] pos2] env = [(false, eval (Expr.Call (.Name "range" p2) [a] [] pos2) env)] := by intro _; rfl) (hcm : S.calm = true := by rfl) :
    JN S (.Call (.Name "tuple" p) [.Call (.Name "range" p2) [a] [] pos2] [] pos) Γ (m.bind fun n => rng 0 n) (fun x => sh (tupS intS x)) := fun σ W F sta z hz Q kq => by
  obtain ⟨n, h1, h2⟩ := run1 hz
  unfold rng at h2
  split at h2
  · rename_i hb
    cases h2
    refine ⟨tTupRg (tRg1 (tOf S a)), fun X hX => pe_tupRg (hX.calm.trans hcm) (hg.gl hX) (mgS hm hX) (prg_1 (hg2.gl hX) (mgS hm2 hX) (peO hX) (hs _)) (hs2 _), h σ W F sta n h1 _ fun v W' Fv ext _ _ r => ?_⟩
    obtain ⟨_, rfl⟩ := r
    have z : (LIM : Int) = 1000000 := rfl
    exact ⟨n, rfl, ⟨by omega, by omega, by omega, by omega, by omega⟩, (kq.ext ext).newT ext.ok (each_rg 0 n)⟩
  · cases h2
/-- [] and displays of shared things -/
theorem jn_nilL {E : α → SP} : JN S (.List [] pos) Γ (some []) (lstO fun x => sh (E x)) := fun σ W F sta z hz Q kq => by
  cases hz
  exact ⟨tLst tNil, fun _ _ => pe_lst pa_nil, Nat.zero_le _, fun l hl => kq.newL sta.ok (vs := []) trivial l hl⟩
theorem jn_nilLO {E : α → OP} : JN S (.List [] pos) Γ (some []) (lstO E) := fun σ W F sta z hz Q kq => by
  cases hz
  refine ⟨tLst tNil, fun _ _ => pe_lst pa_nil, Nat.zero_le _, fun l hl => ?_⟩
  exact kq (.ref l) ⟨upd W.H l (.lst []), W.B⟩ [l] (Ext.new sta.ok hl) (fun a ha => by rw [List.mem_singleton.mp ha]; exact hl) (fp_one (sta.ok.back hl)) ⟨l, [], [], rfl, upd_same, rfl, rfl⟩
/-- a list of several kinds, all shared -/
theorem HetO.of_hets {W : Wd} : ∀ {vs : List V} {ps : List SP}, Hets W.B vs ps → HetO W vs (ps.map sh) []
  | [], [], _ => rfl
  | _ :: _, _ :: _, h => ⟨[], [], rfl, ⟨rfl, h.1⟩, HetO.of_hets h.2⟩
  | [], _ :: _, h => h.elim
  | _ :: _, [], h => h.elim
theorem jn_het {m : Option α} {R : α → List SP} (h : JA S es Γ m R) (hl : ∀ x, (R x).length ≤ 1000 := by intro _; decide) : JN S (.List es pos) Γ m fun x => hetO ((R x).map sh) := fun σ W F sta x hx Q kk =>
  ⟨tLst (taOf S es), fun X hX => pe_lst (paO hX), h σ W F sta x hx _ fun vs W' e hh => by
    refine ⟨Nat.le_trans (by rw [hh.len]; exact hl x) (by decide), fun q hq => ?_⟩
    exact kk (.ref q) ⟨upd W'.H q (.lst vs), W'.B⟩ [q] (e.trans (Ext.new e.ok hq)) (fun a ha => by rw [List.mem_singleton.mp ha]; exact e.h.back hq) (fp_one (e.ok.back hq))
      ⟨q, vs, [], rfl, upd_same, rfl, HetO.of_hets (W := ⟨upd W'.H q (.lst vs), W'.B⟩) hh⟩⟩
/-- the same, shared at once -/
theorem jn_hetS {m : Option α} {R : α → List SP} (h : JA S es Γ m R) (hl : ∀ x, (R x).length ≤ 1000 := by intro _; decide) : JN S (.List es pos) Γ m fun x => sh (hlstS (R x)) := fun σ W F sta x hx Q kk =>
  ⟨tLst (taOf S es), fun X hX => pe_lst (paO hX), h σ W F sta x hx _ fun vs W' e hh => by
    refine ⟨Nat.le_trans (by rw [hh.len]; exact hl x) (by decide), fun q hq => ?_⟩
    exact kk (.ref q) ⟨upd W'.H q (.lst vs), upd W'.B q (.lst vs)⟩ [] (e.trans (Ext.newB e.ok hq)) (by simp) FpOk.nil ⟨rfl, q, vs, rfl, upd_same, hh.mono (Ext.newB e.ok hq).b⟩⟩
/-- a display of shared things of one kind -/
theorem Hets.each {E : α → SP} {B : Hp} : ∀ {vs : List V} {xs : List α}, Hets B vs (xs.map E) → Each E B vs xs
  | [], [], _ => trivial
  | _ :: _, _ :: _, h => ⟨h.1, Hets.each h.2⟩
  | [], _ :: _, h => h.elim
  | _ :: _, [], h => h.elim
theorem jn_dispL {m : Option α} {E : β → SP} {g : α → List β} {R : α → List SP} (h : JA S es Γ m R) (hR : ∀ x, R x = (g x).map E := by intro _; rfl) (hl : ∀ x, (R x).length ≤ 1000 := by intro _; exact Nat.le_of_ble_eq_true rfl) : JN S (.List es pos) Γ (m.bind fun x => some (g x)) (lstO fun x => sh (E x)) := fun σ W F sta z hz Q kk => by
  obtain ⟨x, h1, h2⟩ := run1 hz
  cases h2
  refine ⟨tLst (taOf S es), fun X hX => pe_lst (paO hX), h σ W F sta x h1 _ fun vs W' e hh => ?_⟩
  refine ⟨Nat.le_trans (by rw [hh.len]; exact hl x) (by decide), fun q hq => ?_⟩
  rw [hR] at hh
  exact (kk.ext e).newL e.ok hh.each q hq
theorem jn_dispT {m : Option α} {E : β → SP} {g : α → List β} {R : α → List SP} {k : Nat} (h : JA S es Γ m R) (hR : ∀ x, R x = (g x).map E := by intro _; rfl) (hl : ∀ x, (R x).length ≤ 1000 := by intro _; exact Nat.le_of_ble_eq_true rfl) : JN S (.Tuple es k pos) Γ (m.bind fun x => some (g x)) fun x => sh (tupS E x) := fun σ W F sta z hz Q kk => by
  obtain ⟨x, h1, h2⟩ := run1 hz
  cases h2
  refine ⟨tTup (taOf S es), fun X hX => pe_tup (paO hX), h σ W F sta x h1 _ fun vs W' e hh => ?_⟩
  refine ⟨Nat.le_trans (by rw [hh.len]; exact hl x) (by decide), fun q hq => ?_⟩
  rw [hR] at hh
  exact (kk.ext e).newT e.ok hh.each q hq
end
end CC
set_option maxHeartbeats 4000000
/-! Items stored; defs; state. -/
namespace CC
open PySem PySem.Spec L2
open PyProof.Rows hiding St
variable {α β γ δ τ ω ρ υ : Type}
/-! ### xs[i] = e -/
def setAt (xs : List α) (i : Int) (x : α) : Option (List α) := (ixN xs.length i).bind fun j => some (xs.set j x)
section
variable {S : Stc} {Γ Δ : Ctx} {a b c e tg iter elt : Expr} {es ifs : List Expr} {pos : Pos} {st : Stmt} {rest A B : List Stmt}
theorem js_setI {x : Str} {p0 tpos : Pos} {E : α → OP} {xs : List α} {mv : Option α} {mi : Option Int} (i : Nat) (h : JN S e Γ mv E) (hb : JN S b Γ mi fun z => sh (intS z)) (hi : Γ[i]? = some (some (lstO E xs)) := by rfl) (hN : S.N[i]? = some x := by rfl) (hv : Vis S.sc x := by first | exact Or.inl rfl | exact Or.inr (Or.inl rfl) | exact Or.inr (Or.inr rfl))
    (hd : (x == ("__debug__" : Str)) = false := by decide) (hcd : (x == ("__classdict__" : Str)) = false := by decide)
    (ha : ∀ env v, assign (.Subscript (.Name x p0) b tpos) env v = (do
      let ov ← holding [v] (eval (.Name x p0) env)
      let iv ← holding [v, ov] (eval b env)
      standAt tpos
      holding [v, ov, iv] (setItem ov iv v)
      release [v, ov, iv] []) := by intro _ _; rfl) (hs : ∀ env, swapsWithSole [.Subscript (.Name x p0) b tpos] e pos.line env = pure false := by intro _; rfl) (hw : ∀ env, swappedStores [.Subscript (.Name x p0) b tpos] e env = pure none := by intro _; rfl)
    (h1 : ∀ env, (assignEach [.Subscript (.Name x p0) b tpos] env).map (·.2) = [assign (.Subscript (.Name x p0) b tpos) env] := by intro _; rfl) :
    JS S (.Assign [.Subscript (.Name x p0) b tpos] e pos) Γ (mv.bind fun v => mi.bind fun k => setAt xs k v) fun ys => .nx (Γ.set i (some (lstO E ys))) := fun σ W F sta z hz Ed kk => by
  obtain ⟨y, k, m1, m2, m3⟩ := run2 hz
  obtain ⟨j, j1, j2⟩ := run1 (f := fun j => some (xs.set j y)) m3
  cases j2
  refine ⟨tAsg (tOf S e) (gSub (tVar i) (tOf S b) rSetL), fun X hX => ps_asg (peO hX) (pg_sub (pe_var (by rw [hX.N]; exact hN) (visS hv hX) hd hcd) (peO hX) set_list (ha _)) (hs _) (hw _) (h1 _), ?_⟩
  refine h σ W F sta y m1 _ fun u W1 Fv ext fr fp r => ?_
  have sta1 := sta.ext ext
  obtain ⟨v, F1, F2, a1, a2, a3, a4⟩ := sta1.hold.at hi
  obtain ⟨p, vs, G2, rfl, b2, rfl, b4⟩ := a2
  refine ⟨.ref p, a1, ?_⟩
  refine hb σ W1 F sta1 k m2 _ fun t W2 _ ext2 _ _ r2 => ?_
  obtain ⟨_, rfl⟩ := r2
  have sta2 := sta1.ext ext2
  obtain ⟨v', F1', F2', c1, c2, c3, c4⟩ := sta2.hold.at hi
  have ev : v' = .ref p := by rw [a1] at c1; exact (Option.some.inj (Option.some.inj c1)).symm
  subst ev
  obtain ⟨p', vs', G2', e1, d2, rfl, d4⟩ := c2
  cases e1
  have hB : W2.B p = none := (sta2.fp.perm c3).fr p (by simp)
  have hx : xs[j]? ≠ none := by
    have := (ixN_seq j1).2.1
    rw [List.getElem?_eq_getElem this]
    exact Option.some_ne_none _
  obtain ⟨y0, hy0⟩ := Option.ne_none_iff_exists'.mp hx
  obtain ⟨w0, K1, K2, k1, k2, k3, k4⟩ := d4.at hy0
  have q : FpOk W2 (F ++ Fv) := (sta.fp.fresh ext fp fr).ext ext2
  have q2 : FpOk W2 (((p :: G2') ++ F2') ++ Fv) := q.perm (List.Perm.append_right Fv c3)
  have fpA : FpOk W2 ((p :: G2') ++ Fv) := by
    refine FpOk.left (F' := F2') (q2.perm ?_)
    rw [List.append_assoc, List.append_assoc]
    exact List.Perm.append_left _ List.perm_append_comm
  have nP : ∀ a ∈ G2' ++ Fv, a ≠ p := fun a ha z => (List.nodup_cons.mp fpA.nd).1 (z ▸ ha)
  have r' : (E y).C ⟨upd W2.H p (.lst (vs'.set j u)), W2.B⟩ u Fv := by
    refine OP.loc _ (OP.ext _ r ext2 fp) (fun _ _ h => h) fun a ha => ?_
    show upd W2.H p _ a = W2.H a
    exact upd_ne (nP a (List.mem_append_right _ ha))
  obtain ⟨G', g1, g2⟩ := k4 ⟨upd W2.H p (.lst (vs'.set j u)), W2.B⟩ y u Fv (fun _ _ h => h) (fun a ha => by
    show upd W2.H p _ a = W2.H a
    exact upd_ne (nP a (List.mem_append_left _ (k3.mem_iff.mpr (List.mem_append_right _ ha))))) r'
  refine ⟨p, vs', k, j, rfl, rfl, d2, by rw [d4.len]; exact j1, ?_⟩
  have fpB : FpOk W2 (p :: G') := by
    refine FpOk.left (F' := K1) (fpA.perm ?_)
    refine List.Perm.cons p ?_
    refine (List.Perm.append_right Fv k3).trans ?_
    refine List.Perm.trans ?_ (List.Perm.append_right K1 g2.symm)
    rw [List.append_assoc]
    refine List.perm_append_comm.trans ?_
    refine List.Perm.append_right K1 ?_
    exact List.perm_append_comm
  obtain ⟨F', s', stp⟩ := sta_own (W' := ⟨upd W2.H p (.lst (vs'.set j u)), W2.B⟩) (F1' := p :: G') (o' := lstO E (xs.set j y)) Fv sta2 q c1 c3 c4 (wr_ok ext2.ok hB) rfl (fun a ha _ => upd_ne fun z => ha (z ▸ List.mem_cons_self)) wr_al
    ⟨fpB.nd, fun a ha => wr_al a (fpB.al a ha), fpB.fr⟩ (fun a ha => by
      rcases List.mem_cons.mp ha with z | z
      · exact .inl (z ▸ List.mem_cons_self)
      · rcases List.mem_append.mp (g2.mem_iff.mp z) with z | z
        · exact .inr (.inl z)
        · exact .inl (List.mem_cons_of_mem _ (k3.mem_iff.mpr (List.mem_append_right _ z)))) ⟨p, vs'.set j u, G', rfl, upd_same, rfl, g1⟩
  have ext02 := ext.trans ext2
  exact kk σ _ F' Keep.refl ((ext02.stp fr).trans stp) s'
/-- xs[i][k] = e, the items of xs lists of one's own with shared items -/
def setAt2 (xss : List (List α)) (i k : Int) (x : α) : Option (List (List α)) := (atI xss i).bind fun xs => (setAt xs k x).bind fun ys => setAt xss i ys
theorem js_setI2 {x : Str} {p0 tpos tp2 : Pos} {E : α → SP} {xss : List (List α)} {mv : Option α} {mi mj : Option Int} (i : Nat) (h : JN S e Γ mv fun x => sh (E x)) (ha0 : JN S a Γ mi fun z => sh (intS z)) (hb : JN S b Γ mj fun z => sh (intS z)) (hi : Γ[i]? = some (some (lstO (fun xs => lstO (fun x => sh (E x)) xs) xss)) := by rfl) (hN : S.N[i]? = some x := by rfl) (hv : Vis S.sc x := by first | exact Or.inl rfl | exact Or.inr (Or.inl rfl) | exact Or.inr (Or.inr rfl))
    (hd : (x == ("__debug__" : Str)) = false := by decide) (hcd : (x == ("__classdict__" : Str)) = false := by decide) (hpl : PlainIx a := by exact fun _ _ => rfl)
    (ha : ∀ env v, assign (.Subscript (.Subscript (.Name x p0) a tp2) b tpos) env v = (do
      let ov ← holding [v] (eval (.Subscript (.Name x p0) a tp2) env)
      let iv ← holding [v, ov] (eval b env)
      standAt tpos
      holding [v, ov, iv] (setItem ov iv v)
      release [v, ov, iv] []) := by intro _ _; rfl) (hs : ∀ env, swapsWithSole [.Subscript (.Subscript (.Name x p0) a tp2) b tpos] e pos.line env = pure false := by intro _; rfl) (hw : ∀ env, swappedStores [.Subscript (.Subscript (.Name x p0) a tp2) b tpos] e env = pure none := by intro _; rfl)
    (h1 : ∀ env, (assignEach [.Subscript (.Subscript (.Name x p0) a tp2) b tpos] env).map (·.2) = [assign (.Subscript (.Subscript (.Name x p0) a tp2) b tpos) env] := by intro _; rfl) :
    JS S (.Assign [.Subscript (.Subscript (.Name x p0) a tp2) b tpos] e pos) Γ (mv.bind fun v => mi.bind fun k => mj.bind fun l => setAt2 xss k l v) fun ys => .nx (Γ.set i (some (lstO (fun xs => lstO (fun x => sh (E x)) xs) ys))) := fun σ W F sta z hz Ed kk => by
  obtain ⟨y, m1, m2⟩ := run1 hz
  obtain ⟨k, m3, m4⟩ := run1 (f := fun k => mj.bind fun l => setAt2 xss k l y) m2
  obtain ⟨l, m5, m6⟩ := run1 (f := fun l => setAt2 xss k l y) m4
  obtain ⟨xs, n1, n2⟩ := run1 (f := fun xs => (setAt xs l y).bind fun ys => setAt xss k ys) m6
  obtain ⟨ys, n3, n4⟩ := run1 (f := fun ys => setAt xss k ys) n2
  obtain ⟨jl, o1, o2⟩ := run1 (f := fun j => some (xs.set j y)) n3
  cases o2
  obtain ⟨jk, o3, o4⟩ := run1 (f := fun j => some (xss.set j (xs.set jl y))) n4
  cases o4
  have hxs : xss[jk]? = some xs := by
    unfold atI at n1
    rw [o3] at n1
    exact n1
  refine ⟨tAsg (tOf S e) (gSub (tOp (rIxL S.K) (tVar i) (tOf S a)) (tOf S b) rSetL), fun X hX => ps_asg (peO hX) (pg_sub (pe_ix (oIxL X hX) (pe_var (by rw [hX.N]; exact hN) (visS hv hX) hd hcd) (peO hX) hpl) (peO hX) set_list (ha _)) (hs _) (hw _) (h1 _), ?_⟩
  refine h σ W F sta y m1 _ fun u W1 Fv ext fr fp r => ?_
  obtain ⟨rfl, r⟩ := r
  have sta1 := sta.ext ext
  obtain ⟨v, F1, F2, a1, a2, a3, a4⟩ := sta1.hold.at hi
  obtain ⟨p, vs, G2, rfl, b2, rfl, b4⟩ := a2
  refine ⟨.ref p, a1, ?_⟩
  refine ha0 σ W1 F sta1 k m3 _ fun t W2 _ ext2 _ _ r2 => ?_
  obtain ⟨_, rfl⟩ := r2
  have sta2 := sta1.ext ext2
  obtain ⟨v', F1', F2', c1, c2, c3, c4⟩ := sta2.hold.at hi
  have ev : v' = .ref p := by rw [a1] at c1; exact (Option.some.inj (Option.some.inj c1)).symm
  subst ev
  obtain ⟨p', vs', G2', e1, d2, rfl, d4⟩ := c2
  cases e1
  obtain ⟨w0, K1, K2, k1, k2, k3, k4⟩ := d4.at hxs
  obtain ⟨p2, us, K3, rfl, l2, rfl, l4⟩ := k2
  refine ⟨p, vs', k, .ref p2, rfl, rfl, .inl (.inl d2), by unfold atI; rw [d4.len, o3]; exact k1, ?_⟩
  refine hb σ W2 F sta2 l m5 _ fun t W3 _ ext3 _ _ r3 => ?_
  obtain ⟨_, rfl⟩ := r3
  have sta3 := sta2.ext ext3
  -- the same facts, one world on
  obtain ⟨v', F1', F2', c1', c2', c3', c4'⟩ := sta3.hold.at hi
  have ev : v' = .ref p := by rw [a1] at c1'; exact (Option.some.inj (Option.some.inj c1')).symm
  subst ev
  obtain ⟨p', vs'', G3, e1, d2', rfl, d4'⟩ := c2'
  cases e1
  have evs : vs'' = vs' := by
    rw [ext3.h p _ d2] at d2'
    cases d2'
    rfl
  subst evs
  obtain ⟨w0, K1', K2', k1', k2', k3', k4'⟩ := d4'.at hxs
  rw [k1] at k1'
  cases k1'
  obtain ⟨p2', us', K3', e2, l2', rfl, l4'⟩ := k2'
  cases e2
  obtain ⟨rfl, l5⟩ := l4'.each
  have fpA := (sta3.fp.perm c3').left
  have hB : W3.B p2 = none := fpA.fr p2 (List.mem_cons_of_mem _ (k3'.mem_iff.mpr (by simp)))
  have hne : p ≠ p2 := fun z => (List.nodup_cons.mp fpA.nd).1 (z ▸ k3'.mem_iff.mpr (by simp))
  have hK : ∀ a ∈ K2', a ≠ p2 := fun a ha z => by
    have nd := (k3'.nodup_iff.mp (List.nodup_cons.mp fpA.nd).2)
    exact (List.nodup_cons.mp nd).1 (z ▸ ha)
  refine ⟨p2, us', l, jl, rfl, rfl, l2', by rw [l5.len]; exact o1, ?_⟩
  have rN : (lstO (fun x => sh (E x)) (xs.set jl y)).C ⟨upd W3.H p2 (.lst (us'.set jl u)), W3.B⟩ (.ref p2) [p2] :=
    ⟨p2, _, [], rfl, upd_same, rfl, Owns.of_each (l5.set (SP.mono _ r (ext2.b.trans ext3.b)) jl)⟩
  obtain ⟨G', g1, g2⟩ := k4' ⟨upd W3.H p2 (.lst (us'.set jl u)), W3.B⟩ (xs.set jl y) (.ref p2) [p2] (fun _ _ h => h) (fun a ha => upd_ne (hK a ha)) rN
  have hset : vs''.set jk (.ref p2) = vs'' := by
    refine List.ext_getElem? fun n => ?_
    by_cases z : jk = n
    · subst z
      rw [k1, List.getElem?_set_self (List.getElem?_eq_some_iff.mp k1).1]
    · rw [List.getElem?_set_ne z]
  rw [hset] at g1
  have pG : (p :: G').Perm (p :: G3) := List.Perm.cons p (g2.trans k3'.symm)
  have fpB := fpA.perm pG.symm
  obtain ⟨F', s', stp⟩ := sta_own (W' := ⟨upd W3.H p2 (.lst (us'.set jl u)), W3.B⟩) (F1' := p :: G') (o' := lstO (fun xs => lstO (fun x => sh (E x)) xs) (xss.set jk (xs.set jl y))) [] sta3 (by rw [List.append_nil]; exact sta3.fp) c1' c3' c4' (wr_ok ext3.ok hB) rfl
    (fun a ha _ => upd_ne fun z => ha (z ▸ List.mem_cons_of_mem _ (k3'.mem_iff.mpr (by simp)))) wr_al ⟨fpB.nd, fun a ha => wr_al a (fpB.al a ha), fpB.fr⟩ (fun a ha => .inl (pG.mem_iff.mp ha)) ⟨p, vs'', G', rfl, (upd_ne hne).trans d2', rfl, g1⟩
  rw [List.append_nil] at stp
  have ext03 := (ext.trans ext2).trans ext3
  have stpE : Stp W F W3 F := by have := ext03.stp (F := F) (Fv := []) (by simp); rwa [List.append_nil] at this
  exact kk σ _ F' Keep.refl (stpE.trans stp) s'
/-- xs[k] = e at a written place of a list of several kinds -/
theorem js_setH {x : Str} {p0 tpos : Pos} {ps : List OP} {E : α → SP} {o : OP} {mv : Option α} {j : Int} {kk p'} (i k : Nat) (h : JN S e Γ mv fun x => sh (E x)) (hi : Γ[i]? = some (some (hetO ps)) := by rfl) (hk : ps[k]? = some o := by rfl) (hj : j = (k : Int) := by rfl) (hN : S.N[i]? = some x := by rfl) (hv : Vis S.sc x := by first | exact Or.inl rfl | exact Or.inr (Or.inl rfl) | exact Or.inr (Or.inr rfl))
    (hd : (x == ("__debug__" : Str)) = false := by decide) (hcd : (x == ("__classdict__" : Str)) = false := by decide)
    (ha : ∀ env v, assign (.Subscript (.Name x p0) (.Constant (.int j) kk p') tpos) env v = (do
      let ov ← holding [v] (eval (.Name x p0) env)
      let iv ← holding [v, ov] (eval (.Constant (.int j) kk p') env)
      standAt tpos
      holding [v, ov, iv] (setItem ov iv v)
      release [v, ov, iv] []) := by intro _ _; rfl) (hs : ∀ env, swapsWithSole [.Subscript (.Name x p0) (.Constant (.int j) kk p') tpos] e pos.line env = pure false := by intro _; rfl) (hw : ∀ env, swappedStores [.Subscript (.Name x p0) (.Constant (.int j) kk p') tpos] e env = pure none := by intro _; rfl)
    (h1 : ∀ env, (assignEach [.Subscript (.Name x p0) (.Constant (.int j) kk p') tpos] env).map (·.2) = [assign (.Subscript (.Name x p0) (.Constant (.int j) kk p') tpos) env] := by intro _; rfl) :
    JS S (.Assign [.Subscript (.Name x p0) (.Constant (.int j) kk p') tpos] e pos) Γ mv fun y => .nx (Γ.set i (some (hetO (ps.set k (sh (E y)))))) := fun σ W F sta y m1 Ed kq => by
  refine ⟨tAsg (tOf S e) (gSub (tVar i) (tC (.int j)) rSetL), fun X hX => ps_asg (peO hX) (pg_sub (pe_var (by rw [hX.N]; exact hN) (visS hv hX) hd hcd) pe_int set_list (ha _)) (hs _) (hw _) (h1 _), ?_⟩
  refine h σ W F sta y m1 _ fun u W1 Fv ext fr fp r => ?_
  obtain ⟨rfl, r⟩ := r
  have sta1 := sta.ext ext
  obtain ⟨v, F1, F2, a1, a2, a3, a4⟩ := sta1.hold.at hi
  obtain ⟨p, vs, G2, rfl, b2, rfl, b4⟩ := a2
  have hB : W1.B p = none := (sta1.fp.perm a3).fr p (by simp)
  obtain ⟨w0, K1, K2, k1, k2, k3, k4⟩ := b4.at hk
  have fpA := (sta1.fp.perm a3).left
  have nP : ∀ a ∈ G2, a ≠ p := fun a ha z => (List.nodup_cons.mp fpA.nd).1 (z ▸ ha)
  obtain ⟨G', g1, g2⟩ := k4 ⟨upd W1.H p (.lst (vs.set k u)), W1.B⟩ (sh (E y)) u [] (fun _ _ h => h) (fun a ha => upd_ne (nP a (k3.mem_iff.mpr (List.mem_append_right _ ha)))) ⟨rfl, r⟩
  have sub : ∀ a ∈ p :: G', a ∈ p :: G2 := fun a ha => by
    rcases List.mem_cons.mp ha with z | z
    · exact z ▸ List.mem_cons_self
    · exact List.mem_cons_of_mem _ (k3.mem_iff.mpr (List.mem_append_right _ (by simpa using g2.mem_iff.mp z)))
  have fpB : FpOk W1 (p :: G') := by
    refine FpOk.left (F' := K1) (fpA.perm ?_)
    refine List.Perm.cons p ?_
    refine k3.trans (List.perm_append_comm.trans (List.Perm.append_right K1 ?_))
    simpa using g2.symm
  refine ⟨.ref p, a1, p, vs, j, k, rfl, rfl, b2, ?_, ?_⟩
  · rw [hj]
    have : k < vs.length := (List.getElem?_eq_some_iff.mp k1).1
    unfold ixN
    rw [if_pos (by omega), if_pos (by omega)]
    simp
  · obtain ⟨F', s', stp⟩ := sta_own (W' := ⟨upd W1.H p (.lst (vs.set k u)), W1.B⟩) (F1' := p :: G') (o' := hetO (ps.set k (sh (E y)))) [] sta1 (by rw [List.append_nil]; exact sta1.fp) a1 a3 a4 (wr_ok ext.ok hB) rfl (fun a ha _ => upd_ne fun z => ha (z ▸ List.mem_cons_self)) wr_al
      ⟨fpB.nd, fun a ha => wr_al a (fpB.al a ha), fpB.fr⟩ (fun a ha => .inl (sub a ha)) ⟨p, vs.set k u, G', rfl, upd_same, rfl, g1⟩
    rw [List.append_nil] at stp
    have stpE : Stp W F W1 F := by have := ext.stp (F := F) (Fv := []) (by simp); rwa [List.append_nil] at this
    exact kq σ _ F' Keep.refl (stpE.trans stp) s'
/-! ### defs -/
end
abbrev stcOf (P : Program) (w : World) (K : PySem.W.Frag) (mg : Str → Option Value) (base : Heap) (N : List Str) (sc : Scope) (k : Nat) (prot : List Nat) : Stc := { P := P, w := w, K := K, mg := mg, base := base, N := N, sc := sc, k := k, fn := fun _ => true, prot := prot }
def shC (ps : List SP) : Ctx := ps.map fun p => some (sh p)
def nonC (n : Nat) : Ctx := List.replicate n none
theorem holds_non {W : Wd} : ∀ (n : Nat) (σ : L2.St), Holds (nonC n) σ W []
  | 0, _ => rfl
  | n + 1, σ => holds_non n σ.tail
theorem holds_sh {W : Wd} {n : Nat} : ∀ {vs : List V} {ps : List SP} {r : L2.St}, Hets W.B vs ps → Holds (shC ps ++ nonC n) (vs.map some ++ r) W []
  | [], [], r, _ => holds_non n r
  | v :: vs, p :: ps, r, h => ⟨v, [], [], rfl, rfl, ⟨rfl, h.1⟩, holds_sh (n := n) h.2⟩
  | [], _ :: _, _, h => h.elim
  | _ :: _, [], _, h => h.elim
section
variable {P : Program} {w : World} {K : PySem.W.Frag} {mg : Str → Option Value} {base : Heap}
theorem in_cx {N : List Str} {st : Stmt} {k : Nat} {prot : List Nat} {qual : Str} {f : Addr} {cdv : Value} {A : Around} {outer : List Env} {s : Shared} {H : Hp} {E : XK} (hr : Room k (A.deeper (envOfC qual (defScope st) s.heap.objs.size f cdv))) :
    (stcOf P w K mg base N (defScope st) k prot).In (cxOf CX0 P w K mg base N qual (defScope st) f cdv A outer s H E).nox := ⟨rfl, rfl, rfl, rfl, rfl, rfl, rfl, rfl, rfl, fun _ => hr, hr.units, PassesOwn.never, takes_none, fun _ => ⟨rfl, rfl⟩, nofun⟩
theorem fn_pure {x qual : Str} {st : Stmt} {f : Addr} {fd : FuncData} {N ps : List Str} {k : Nat} {G : α → List SP} {fM : α → Option ρ} {R : ρ → OP} {Δ : Ctx} (F : Fun K x qual st f fd) (Sc : FnScope N ps (defScope st)) (hG : ∀ a, (G a).length = ps.length) (hn : ps.length ≤ N.length)
    (body : ∀ a, JB (stcOf P w K mg base N (defScope st) k []) (defBody st) (shC (G a) ++ nonC (N.length - ps.length)) (fM a) fun r => .rt Δ (R r)) : FnOk P w K mg base CX0 (k + 1) f fd ps (spP G fM R) := by
  refine F.ok Sc (fun vs H Q E h => ?_) (fun cdv A outer s H vs Q E hr h => ?_)
  · obtain ⟨a, W, r, _, _, h3, _⟩ := h
    rw [h3.len, hG]
  · obtain ⟨a, W, r, rfl, ok, h3, h4, kq⟩ := h
    refine ⟨tbOf (stcOf P w K mg base N (defScope st) k []) (defBody st), pbO (in_cx hr), ?_⟩
    have hl : vs.length = ps.length := h3.len.trans (hG a)
    have sta : Sta (shC (G a) ++ nonC (N.length - ps.length)) (L2.start N vs) W [] := ⟨ok, FpOk.nil, by unfold L2.start shC nonC; simp [h3.len, hG, hl], by unfold L2.start; rw [hl]; exact holds_sh h3⟩
    exact body a _ W [] sta r h4 _ fun v σ' W' F' Fv _ stp _ fp rr => by
      obtain ⟨ext, fr⟩ := stp.ext
      exact kq v W' Fv ext (fun a ha => fr a (List.mem_append_right _ ha)) fp.right rr
theorem fn_state {x qual : Str} {st : Stmt} {f : Addr} {fd : FuncData} {N ps : List Str} {k : Nat} {O : τ → OP} {G : α → List SP} {fM : α → τ → Option (ρ × τ)} {R : ρ → OP} (F : Fun K x qual st f fd) (Sc : FnScope N ps (defScope st)) (hG : ∀ a, (G a).length + 1 = ps.length) (hn : ps.length ≤ N.length)
    (body : ∀ a s, JB (stcOf P w K mg base N (defScope st) k [0]) (defBody st) (some (O s) :: (shC (G a) ++ nonC (N.length - ps.length))) (fM a s) fun r => .rt (some (O r.2) :: nonC (N.length - 1)) (R r.1)) : FnOk P w K mg base CX0 (k + 1) f fd ps (spS O G fM R) := by
  refine F.ok Sc (fun vs H Q E h => ?_) (fun cdv A outer s H vs Q E hr h => ?_)
  · obtain ⟨a, s, W, F, v0, vr, r, rfl, _, _, _, _, h3, _⟩ := h
    rw [List.length_cons, h3.len, hG]
  · obtain ⟨a, s0, W, Fp, v0, vr, r, rfl, rfl, ok, fp0, h0, h3, h4, kq⟩ := h
    refine ⟨tbOf (stcOf P w K mg base N (defScope st) k [0]) (defBody st), pbO (in_cx hr), ?_⟩
    have hl : (v0 :: vr).length = ps.length := by rw [List.length_cons, h3.len]; exact hG a
    have sta : Sta (some (O s0) :: (shC (G a) ++ nonC (N.length - ps.length))) (L2.start N (v0 :: vr)) W Fp := ⟨ok, fp0, by
      unfold L2.start shC nonC
      have := hG a
      simp [h3.len]
      omega, ⟨v0, Fp, [], rfl, (List.append_nil _).symm, h0, by
      unfold L2.start
      rw [hl]
      exact holds_sh h3⟩⟩
    refine body a s0 _ W Fp sta r h4 _ fun v σ' W' F' Fv kp stp sa fp rr => ?_
    obtain ⟨u, F1, F2, b1, b2, b3, b4⟩ := sa.hold
    have e0 : σ'[0]? = some (some v0) := (kp 0 (by simp)).trans rfl
    have eu : u = v0 := by
      rw [List.head?_eq_getElem?] at b1
      rw [e0] at b1
      exact (Option.some.inj (Option.some.inj b1)).symm
    subst eu
    have eF : F2 = [] := by
      have : ∀ (n : Nat) (σ : L2.St) (F : List Addr), Holds (nonC n) σ W' F → F = [] := by
        intro n
        induction n with
        | zero => intro σ F h; exact h
        | succ n ih => intro σ F h; exact ih σ.tail F h
      exact this _ _ _ b4
    subst eF
    rw [List.append_nil] at b2
    subst b2
    exact kq v W' F' Fv stp fp b3 rr
end
end CC
set_option maxHeartbeats 4000000
/-! Expressions that change what is owned. -/
namespace CC
open PySem PySem.Spec L2
open PyProof.Rows hiding St
variable {α β γ δ τ ω ρ υ : Type}
def JEA (S : Stc) (es : List Expr) (Γ : τ → Ctx) (s : τ) (m : Option (α × τ)) (G : α → List SP) : Prop :=
  ∀ σ W F, Sta (Γ s) σ W F → ∀ x, m = some x → ∀ Q : List V → Hp → Prop, (∀ vs W' F', Stp W F W' F' → Sta (Γ x.2) σ W' F' → Hets W'.B vs (G x.1) → Q vs W'.H) → taOf S es σ W.H Q
def JTE (S : Stc) (e : Expr) (Γ : τ → Ctx) (s : τ) (m : Option (Bool × τ)) : Prop :=
  ∀ σ W F, Sta (Γ s) σ W F → ∀ x, m = some x → ∀ Q : Bool → Hp → Prop, (∀ W' F', Stp W F W' F' → Sta (Γ x.2) σ W' F' → Q x.1 W'.H) → ttOf S e σ W.H Q
def JWE (S : Stc) (e : Expr) (Γ : τ → Ctx) (s : τ) (m : Option (Bool × τ)) : Prop :=
  ∀ σ W F, Sta (Γ s) σ W F → ∀ x, m = some x → ∀ Q : Bool → Hp → Prop, (∀ W' F', Stp W F W' F' → Sta (Γ x.2) σ W' F' → Q x.1 W'.H) → twOf S e σ W.H Q
def JIE (S : Stc) (tg iter : Expr) (Γ : τ → Ctx) (s : τ) (m : Option (List α × τ)) (E : α → SP) : Prop :=
  ∀ σ W F, Sta (Γ s) σ W F → ∀ x, m = some x → ∀ R : It → Hp → Prop, (∀ J W' F', Stp W F W' F' → Sta (Γ x.2) σ W' F' → ItOk J (fun W1 => Ex W1.B W1.H ∧ Ex W'.B W1.B) x.1 E → R J W'.H) → tiOf S tg iter σ W.H R
theorem Ext.stp0 {W W' : Wd} {F : List Addr} (e : Ext W W') : Stp W F W' F := by
  have := e.stp (F := F) (Fv := []) (by simp)
  rwa [List.append_nil] at this
section
variable {S : Stc} {Γ : τ → Ctx} {s : τ} {a b c e tg iter elt : Expr} {es ifs : List Expr} {pos : Pos} {st : Stmt} {rest A B : List Stmt}
theorem je_of {m : Option α} {R : α → OP} (h : JN S e (Γ s) m R) : JE S e Γ s (m.bind fun x => some (x, s)) R := fun σ W F sta z hz Q k => by
  obtain ⟨x, h1, h2⟩ := run1 hz
  cases h2
  exact h σ W F sta x h1 Q fun v W' Fv ext fr fp r => k v W' F Fv (ext.stp fr) (sta.ext ext) (sta.fp.fresh ext fp fr) r
theorem jte_of {m : Option Bool} (h : JT S e (Γ s) m) : JTE S e Γ s (m.bind fun x => some (x, s)) := fun σ W F sta z hz Q k => by
  obtain ⟨x, h1, h2⟩ := run1 hz
  cases h2
  exact h σ W F sta x h1 Q fun W' ext => k W' F ext.stp0 (sta.ext ext)
theorem jea_of {m : Option α} {G : α → List SP} (h : JA S es (Γ s) m G) : JEA S es Γ s (m.bind fun x => some (x, s)) G := fun σ W F sta z hz Q k => by
  obtain ⟨x, h1, h2⟩ := run1 hz
  cases h2
  exact h σ W F sta x h1 Q fun vs W' ext hh => k vs W' F ext.stp0 (sta.ext ext) hh
theorem jie_of {m : Option (List α)} {E : α → SP} (h : JI S tg iter (Γ s) m E) : JIE S tg iter Γ s (m.bind fun x => some (x, s)) E := fun σ W F sta z hz R k => by
  obtain ⟨x, h1, h2⟩ := run1 hz
  cases h2
  exact h σ W F sta x h1 R fun J W' ext ok => k J W' F ext.stp0 (sta.ext ext) ok
/-- a shared value behind a step: its footprint is nothing -/
theorem JE.sh {m : Option (α × τ)} {E : α → SP} (h : JE S e Γ s m fun x => CC.sh (E x)) {σ : L2.St} {W : Wd} {F : List Addr} (sta : Sta (Γ s) σ W F) {x : α × τ} (hx : m = some x) {Q : VK}
    (k : ∀ v W' F', Stp W F W' F' → Sta (Γ x.2) σ W' F' → (E x.1).P W'.B v → Q v W'.H) : tOf S e σ W.H Q :=
  h σ W F sta x hx Q fun v W' F' Fv stp sa fp r => by
    obtain ⟨rfl, r⟩ := r
    rw [List.append_nil] at stp
    exact k v W' F' stp sa r
theorem JE.of_sh {m : Option (α × τ)} {E : α → SP} (h : ∀ σ W F, Sta (Γ s) σ W F → ∀ x, m = some x → ∀ Q : VK, (∀ v W' F', Stp W F W' F' → Sta (Γ x.2) σ W' F' → (E x.1).P W'.B v → Q v W'.H) → tOf S e σ W.H Q) : JE S e Γ s m fun x => CC.sh (E x) :=
  fun σ W F sta x hx Q k => h σ W F sta x hx Q fun v W' F' stp sa r => k v W' F' [] (by rw [List.append_nil]; exact stp) sa (by rw [List.append_nil]; exact sa.fp) ⟨rfl, r⟩
theorem jea_nil : JEA S [] Γ s (some ((), s)) fun _ => [] := fun σ W F sta x hx Q k => by
  cases hx
  exact ⟨tNil, fun _ _ => pa_nil, k [] W F (Stp.refl sta.ok) sta trivial⟩
theorem jea_cons {ma : Option (α × τ)} {mb : τ → Option (β × τ)} {E : α → SP} {G : β → List SP} (ha : JE S e Γ s ma fun x => sh (E x)) (hb : ∀ s1, JEA S es Γ s1 (mb s1) G) (hs : ∀ env, starEach (e :: es) env = (false, eval e env) :: starEach es env := by intro _; rfl) :
    JEA S (e :: es) Γ s (ma.bind fun p => (mb p.2).bind fun q => some ((p.1, q.1), q.2)) fun z => E z.1 :: G z.2 := fun σ W F sta z hz Q k => by
  obtain ⟨p, h1, h2⟩ := run1 hz
  obtain ⟨q, h3, h4⟩ := run1 (f := fun q : β × τ => some ((p.1, q.1), q.2)) h2
  cases h4
  refine ⟨tCons (tOf S e) (taOf S es), fun X hX => pa_cons (peO hX) (paO hX) (hs _), ?_⟩
  refine ha.sh sta h1 fun v W1 F1 stp1 sa1 r1 => ?_
  exact hb p.2 σ W1 F1 sa1 q h3 _ fun vs W2 F2 stp2 sa2 hh => k (v :: vs) W2 F2 (stp1.trans stp2) sa2 ⟨SP.mono _ r1 stp2.b, hh⟩
/-- operators -/
theorem tOp_runE {r : R2} {E : α → SP} {G : β → SP} {f : α → β → Option γ} {R : γ → OP} {ma : Option (α × τ)} {mb : τ → Option (β × τ)} (ha : JE S a Γ s ma fun x => sh (E x)) (hb : ∀ s1, JE S b Γ s1 (mb s1) fun y => sh (G y)) (hr : OpV r E G f R)
    {σ : L2.St} {W : Wd} {F : List Addr} (sta : Sta (Γ s) σ W F) {z : γ × τ} (hz : (ma.bind fun p => (mb p.2).bind fun q => (f p.1 q.1).bind fun z => some (z, q.2)) = some z) {Q : VK}
    (k : ∀ v W' F' Fv, Stp W F W' (F' ++ Fv) → Sta (Γ z.2) σ W' F' → FpOk W' (F' ++ Fv) → (R z.1).C W' v Fv → Q v W'.H) : tOp r (tOf S a) (tOf S b) σ W.H Q := by
  obtain ⟨p, h1, h2⟩ := run1 hz
  obtain ⟨q, h3, h4⟩ := run1 (f := fun q : β × τ => (f p.1 q.1).bind fun z => some (z, q.2)) h2
  obtain ⟨y, h5, h6⟩ := run1 (f := fun z : γ => some (z, q.2)) h4
  cases h6
  refine ha.sh sta h1 fun v W1 F1 stp1 sa1 r1 => ?_
  refine (hb p.2).sh sa1 h3 fun u W2 F2 stp2 sa2 r2 => ?_
  refine hr W2 p.1 q.1 v u y sa2.ok (SP.mono _ r1 stp2.b) r2 h5 Q fun t W3 Fv ext fr fp rr => ?_
  exact k t W3 F2 Fv ((stp1.trans stp2).trans (ext.stp fr)) (sa2.ext ext) (sa2.fp.fresh ext fp fr) rr
theorem je_bin {op : Operator} {r : R2} {E : α → SP} {G : β → SP} {f : α → β → Option γ} {R : γ → OP} {ma : Option (α × τ)} {mb : τ → Option (β × τ)} (ho : ∀ X, S.In X → OpR X (binaryOp op) r) (hr : OpV r E G f R)
    (ha : JE S a Γ s ma fun x => sh (E x)) (hb : ∀ s1, JE S b Γ s1 (mb s1) fun y => sh (G y)) : JE S (.BinOp a op b pos) Γ s (ma.bind fun p => (mb p.2).bind fun q => (f p.1 q.1).bind fun z => some (z, q.2)) R := fun σ W F sta z hz Q k =>
  ⟨tOp r (tOf S a) (tOf S b), fun X hX => pe_op (ho X hX) (peO hX) (peO hX), tOp_runE ha hb hr sta hz k⟩
theorem je_cmp {op : CmpOp} {r : R2} {E : α → SP} {G : β → SP} {f : α → β → Option γ} {R : γ → OP} {ma : Option (α × τ)} {mb : τ → Option (β × τ)} (ho : ∀ X, S.In X → OpR X (compareOp op) r) (hr : OpV r E G f R)
    (ha : JE S a Γ s ma fun x => sh (E x)) (hb : ∀ s1, JE S b Γ s1 (mb s1) fun y => sh (G y)) (hm : behindInMarks op b = false := by first | exact nomark _ | rfl) : JE S (.Compare a [op] [b] pos) Γ s (ma.bind fun p => (mb p.2).bind fun q => (f p.1 q.1).bind fun z => some (z, q.2)) R := fun σ W F sta z hz Q k =>
  ⟨tOp r (tOf S a) (tOf S b), fun X hX => pe_cmpR (ho X hX) (peO hX) (peO hX) hm, tOp_runE ha hb hr sta hz k⟩
theorem jte_cmp {op : CmpOp} {r : R2} {E : α → SP} {G : β → SP} {f : α → β → Option Bool} {ma : Option (α × τ)} {mb : τ → Option (β × τ)} (ho : ∀ X, S.In X → OpR X (compareOp op) r) (hr : OpV r E G f fun z => sh (boolS z))
    (ha : JE S a Γ s ma fun x => sh (E x)) (hb : ∀ s1, JE S b Γ s1 (mb s1) fun y => sh (G y)) (hm : behindInMarks op b = false := by first | exact nomark _ | rfl) : JTE S (.Compare a [op] [b] pos) Γ s (ma.bind fun p => (mb p.2).bind fun q => (f p.1 q.1).bind fun z => some (z, q.2)) := fun σ W F sta z hz Q k =>
  ⟨tTest (tOp r (tOf S a) (tOf S b)), fun X hX => pt_cmpR (ho X hX) (peO hX) (peO hX) hm, tOp_runE ha hb hr sta hz fun v W' F' Fv stp sa fp rr => by
    obtain ⟨rfl, h⟩ := rr
    rw [List.append_nil] at stp
    exact ⟨z.1, h, k W' F' stp sa⟩⟩
theorem jte_val {m : Option (Bool × τ)} (h : JE S e Γ s m fun z => sh (boolS z)) (he : ∀ env whole, isTrue e env whole = (do let v ← whole; standAt e.pos; holding [v] (truthy v)) := by intro _ _; rfl) : JTE S e Γ s m := fun σ W F sta z hz Q k =>
  ⟨tB (tOf S e), fun X hX => pt_val (peO hX) (he _), h.sh sta hz fun v W' F' stp sa r => ⟨z.1, r, k W' F' stp sa⟩⟩
theorem jte_not {m : Option (Bool × τ)} (h : JTE S e Γ s m) : JTE S (.UnaryOp .Not e pos) Γ s (m.bind fun x => some (!x.1, x.2)) := fun σ W F sta z hz Q k => by
  obtain ⟨x, h1, h2⟩ := run1 hz
  cases h2
  exact ⟨tNot (ttOf S e), fun X hX => pt_not (ptO hX), h σ W F sta x h1 _ fun W' F' stp sa => k W' F' stp sa⟩
theorem jwe_and1 {m : Option (Bool × τ)} (h : JTE S a Γ s m) : JWE S (.BoolOp .And [a] pos) Γ s m := fun σ W F sta z hz Q k => ⟨ttOf S a, fun X hX => pw_and1 (ptO hX), h σ W F sta z hz _ k⟩
theorem jwe_or1 {m : Option (Bool × τ)} (h : JTE S a Γ s m) : JWE S (.BoolOp .Or [a] pos) Γ s m := fun σ W F sta z hz Q k => ⟨ttOf S a, fun X hX => pw_or1 (ptO hX), h σ W F sta z hz _ k⟩
theorem jwe_and {ma : Option (Bool × τ)} {mb : τ → Option (Bool × τ)} (ha : JTE S a Γ s ma) (hb : ∀ s1, JWE S (.BoolOp .And (b :: es) pos) Γ s1 (mb s1)) : JWE S (.BoolOp .And (a :: b :: es) pos) Γ s (ma.bind fun p => bif p.1 then mb p.2 else some (false, p.2)) := fun σ W F sta z hz Q k => by
  obtain ⟨x, h1, h2⟩ := run1 hz
  refine ⟨tAnd (ttOf S a) (twOf S (.BoolOp .And (b :: es) pos)), fun X hX => pw_and (ptO hX) (pwO hX), ha σ W F sta x h1 _ fun W' F' stp sa => ?_⟩
  obtain ⟨x1, x2⟩ := x
  cases x1 with
  | true => exact iteT (hb x2 σ W' F' sa z h2 Q fun W2 F2 stp2 sa2 => k W2 F2 (stp.trans stp2) sa2)
  | false =>
    cases h2
    exact iteF (k W' F' stp sa)
theorem jwe_or {ma : Option (Bool × τ)} {mb : τ → Option (Bool × τ)} (ha : JTE S a Γ s ma) (hb : ∀ s1, JWE S (.BoolOp .Or (b :: es) pos) Γ s1 (mb s1)) : JWE S (.BoolOp .Or (a :: b :: es) pos) Γ s (ma.bind fun p => bif p.1 then some (true, p.2) else mb p.2) := fun σ W F sta z hz Q k => by
  obtain ⟨x, h1, h2⟩ := run1 hz
  refine ⟨tOr (ttOf S a) (twOf S (.BoolOp .Or (b :: es) pos)), fun X hX => pw_or (ptO hX) (pwO hX), ha σ W F sta x h1 _ fun W' F' stp sa => ?_⟩
  obtain ⟨x1, x2⟩ := x
  cases x1 with
  | false => exact iteF (hb x2 σ W' F' sa z h2 Q fun W2 F2 stp2 sa2 => k W2 F2 (stp.trans stp2) sa2)
  | true =>
    cases h2
    exact iteT (k W' F' stp sa)
theorem jte_w {m : Option (Bool × τ)} (h : JWE S e Γ s m) : JTE S e Γ s m := fun σ W F sta z hz Q k => ⟨twOf S e, fun X hX => (pwO hX).pt, h σ W F sta z hz Q k⟩
theorem je_if {mc : Option (Bool × τ)} {ma mb : τ → Option (α × τ)} {R : α → OP} (hc : JTE S c Γ s mc) (ha : ∀ s1, JE S a Γ s1 (ma s1) R) (hb : ∀ s1, JE S b Γ s1 (mb s1) R) : JE S (.IfExp c a b pos) Γ s (mc.bind fun p => bif p.1 then ma p.2 else mb p.2) R := fun σ W F sta z hz Q k => by
  obtain ⟨x, h1, h2⟩ := run1 hz
  refine ⟨tIf (ttOf S c) (tOf S a) (tOf S b), fun X hX => pe_ifExp (ptO hX) (peO hX) (peO hX), hc σ W F sta x h1 _ fun W' F' stp sa => ?_⟩
  obtain ⟨x1, x2⟩ := x
  cases x1 with
  | true => exact iteT (ha x2 σ W' F' sa z h2 Q fun v W2 F2 Fv stp2 sa2 fp r => k v W2 F2 Fv (stp.trans stp2) sa2 fp r)
  | false => exact iteF (hb x2 σ W' F' sa z h2 Q fun v W2 F2 Fv stp2 sa2 fp r => k v W2 F2 Fv (stp.trans stp2) sa2 fp r)
/-- a shared thing's item at a drawn place -/
theorem je_ix {r : R2} {P : α → SP} {G : β → SP} {f : α → β → Option γ} {E : γ → SP} {ma : Option (α × τ)} {mb : τ → Option (β × τ)} (ho : ∀ X, S.In X → IxR X r) (hr : IxV r (fun x => sh (P x)) G f fun z => sh (E z))
    (ha : JE S a Γ s ma fun x => sh (P x)) (hb : ∀ s1, JE S b Γ s1 (mb s1) fun y => sh (G y)) (hs : PlainIx b := by exact fun _ _ => rfl) : JE S (.Subscript a b pos) Γ s (ma.bind fun p => (mb p.2).bind fun q => (f p.1 q.1).bind fun z => some (z, q.2)) fun z => sh (E z) := JE.of_sh fun σ W F sta z hz Q k => by
  refine ⟨tOp r (tOf S a) (tOf S b), fun X hX => pe_ix (ho X hX) (peO hX) (peO hX) hs, ?_⟩
  obtain ⟨p, h1, h2⟩ := run1 hz
  obtain ⟨q, h3, h4⟩ := run1 (f := fun q : β × τ => (f p.1 q.1).bind fun z => some (z, q.2)) h2
  obtain ⟨y, h5, h6⟩ := run1 (f := fun z : γ => some (z, q.2)) h4
  cases h6
  refine ha.sh sta h1 fun v W1 F1 stp1 sa1 r1 => ?_
  refine (hb p.2).sh sa1 h3 fun u W2 F2 stp2 sa2 r2 => ?_
  exact hr W2 p.1 q.1 v u y [] sa2.ok ⟨rfl, SP.mono _ r1 stp2.b⟩ r2 h5 _ fun t ⟨F3, q1, _⟩ => k t W2 F2 (stp1.trans stp2) sa2 q1.2
/-- builtins of one argument -/
theorem je_b1 {x : Str} {id : String} {p : Pos} {r : List V → Hp → VK → Prop} {m : Option (α × τ)} {E : α → SP} {f : α → Option γ} {R : γ → OP} (hc : ∀ X, S.In X → CallR X (.builtin id) r)
    (hr : ∀ W x v z, Ex W.B W.H → (E x).P W.B v → f x = some z → ∀ Q : VK, Got (R z) W Q → r [v] W.H Q) (hm : S.mg x = none) (ha : JE S a Γ s m fun x => sh (E x))
    (hg : GlS S x := by rfl) (hv : bootBuiltins x = some (.builtin id) := by decide +kernel) (hn : x ≠ "__name__" := by decide) (hdb : (x == ("__debug__" : Str)) = false := by decide)
    (hs : ∀ env, starEach [a] env = [(false, eval a env)] := by intro _; rfl) : JE S (.Call (.Name x p) [a] [] pos) Γ s (m.bind fun q => (f q.1).bind fun z => some (z, q.2)) R := fun σ W F sta z hz Q k => by
  obtain ⟨q, h1, h2⟩ := run1 hz
  obtain ⟨y, h3, h4⟩ := run1 (f := fun z : γ => some (z, q.2)) h2
  cases h4
  refine ⟨tCB r (tCons (tOf S a) tNil), fun X hX => pe_callB (hc X hX) (hg.gl hX) (mgS hm hX) hv (pa_cons (peO hX) pa_nil (hs _)) hn hdb (hs _) rfl, ha.sh sta h1 fun v W1 F1 stp1 sa1 r1 => ?_⟩
  exact hr W1 q.1 v y sa1.ok r1 h3 Q fun t W3 Fv ext fr fp rr => k t W3 F1 Fv (stp1.trans (ext.stp fr)) (sa1.ext ext) (sa1.fp.fresh ext fp fr) rr
theorem je_t1 {x : Str} {T : String} {p : Pos} {r : List V → Hp → VK → Prop} {m : Option (α × τ)} {E : α → SP} {f : α → Option γ} {R : γ → OP} (hc : ∀ X, S.In X → CallR X (.type T) r)
    (hr : ∀ W x v z, Ex W.B W.H → (E x).P W.B v → f x = some z → ∀ Q : VK, Got (R z) W Q → r [v] W.H Q) (hm : S.mg x = none) (ha : JE S a Γ s m fun x => sh (E x))
    (hg : GlS S x := by rfl) (hv : bootBuiltins x = some (.type T) := by decide +kernel) (hn : x ≠ "__name__" := by decide) (hdb : (x == ("__debug__" : Str)) = false := by decide)
    (hs : ∀ env, starEach [a] env = [(false, eval a env)] := by intro _; rfl) : JE S (.Call (.Name x p) [a] [] pos) Γ s (m.bind fun q => (f q.1).bind fun z => some (z, q.2)) R := fun σ W F sta z hz Q k => by
  obtain ⟨q, h1, h2⟩ := run1 hz
  obtain ⟨y, h3, h4⟩ := run1 (f := fun z : γ => some (z, q.2)) h2
  cases h4
  refine ⟨tCB r (tCons (tOf S a) tNil), fun X hX => pe_callTy (hc X hX) (hg.gl hX) (mgS hm hX) hv (pa_cons (peO hX) pa_nil (hs _)) hn hdb (hs _) rfl, ha.sh sta h1 fun v W1 F1 stp1 sa1 r1 => ?_⟩
  exact hr W1 q.1 v y sa1.ok r1 h3 Q fun t W3 Fv ext fr fp rr => k t W3 F1 Fv (stp1.trans (ext.stp fr)) (sa1.ext ext) (sa1.fp.fresh ext fp fr) rr
theorem je_int {m : Option (Int × τ)} {p : Pos} (hm : S.mg "int" = none) (h : JE S a Γ s m fun x => sh (intS x)) (hg : GlS S "int" := by rfl) (hs : ∀ env, starEach [a] env = [(false, eval a env)] := by intro _; rfl) : JE S (.Call (.Name "int" p) [a] [] pos) Γ s (m.bind fun q => some (q.1, q.2)) fun z => sh (intS z) :=
  je_t1 (f := fun x : Int => some x) (fun X hX => call_int1) (fun W x v z ok hh e Q k => by
    cases e
    cases hh
    exact .inl ⟨_, rfl, k.val ok rfl⟩) hm h hg (by decide +kernel) (by decide) (by decide) hs
/-- a fresh value frozen on the way -/
theorem JE.frz {m : Option (α × τ)} {R : α → OP} {P : α → SP} (f : ∀ x, FrzN (R x) (P x)) (h : JE S e Γ s m R) : JE S e Γ s m fun x => CC.sh (P x) := JE.of_sh fun σ W F sta x hx Q k =>
  h σ W F sta x hx Q fun v W' F' Fv stp sa fp r => by
    obtain ⟨B', b1, b2, b3, b4⟩ := (f x.1).run r fp.right.nd fp.right.fr stp.ok
    have fpB : FpOk ⟨W'.H, B'⟩ F' := ⟨fp.left.nd, fp.left.al, fun a ha => b3 a (fp.left.fr a ha) (fp.disj a ha)⟩
    refine k v ⟨W'.H, B'⟩ F' ⟨b2, stp.b.trans b1, stp.h, stp.al, fun a h1 h2 n => b3 a (stp.fr a h1 h2 n) fun z => ?_, fun a ha => stp.fp a (List.mem_append_left _ ha)⟩ ⟨b2, fpB, sa.len, sa.hold.loc b1 fun _ _ => rfl⟩ b4
    rcases stp.fp a (List.mem_append_right _ z) with q | q
    · exact n q
    · exact h1 q
/-- a call of a def that changes its first argument, the slot i -/
theorem je_callS {x y : Str} {p p1 : Pos} {f : Addr} {fd : FuncData} {ps : List Str} {k : Nat} {O : υ → OP} {G : α → List SP} {fM : α → υ → Option (ρ × υ)} {R : ρ → OP} {m : Option (α × τ)} (i : Nat) (get : τ → υ) (put : τ → υ → τ) (Fn : FnOk S.P S.w S.K S.mg S.base CX0 k f fd ps (spS O G fM R)) (hm : S.mg x = some (.ref f)) (kp : PySem.W.keepIn S.K (.ref f) = true) (hb : Binds S.K fd ps [])
    (hk : k ≤ S.k) (ha : JEA S es Γ s m G) (hi : ∀ s, (Γ s)[i]? = some (some (O (get s))) := by intro _; rfl) (hp : ∀ s u, (Γ s).set i (some (O u)) = Γ (put s u) := by intro _ _; rfl) (hN : S.N[i]? = some y := by rfl) (hv : Vis S.sc y := by first | exact Or.inl rfl | exact Or.inr (Or.inl rfl) | exact Or.inr (Or.inr rfl))
    (hd : (y == ("__debug__" : Str)) = false := by decide) (hcd : (y == ("__classdict__" : Str)) = false := by decide) (hg : GlS S x := by rfl) (hdb : (x == ("__debug__" : Str)) = false := by decide)
    (he : ∀ env, starEach (Expr.Name y p1 :: es) env = (false, eval (.Name y p1) env) :: starEach es env := by intro _; rfl) (hpl : ∀ env, (backTo pos (starEach es env)).any (·.1) = false := by intro _; rfl) (hcm : S.calm = true := by rfl) :
    JE S (.Call (.Name x p) (.Name y p1 :: es) [] pos) Γ s (m.bind fun q => (fM q.1 (get q.2)).bind fun r => some (r.1, put q.2 r.2)) R := fun σ W F sta z hz Q kk => by
  obtain ⟨q, h1, h2⟩ := run1 hz
  obtain ⟨r, h3, h4⟩ := run1 (f := fun r : ρ × υ => some (r.1, put q.2 r.2)) h2
  cases h4
  refine ⟨tCall (spS O G fM R) [] E0 (tCons (tVar i) (taOf S es)), fun X hX => pe_call (fnokS Fn hX) ((hX.room hcm).mono hk) (hg.gl hX) (mgS hm hX) (by rw [hX.K]; exact kp) (bindsS hX hb) .nil passE0 (pa_cons (pe_var (by rw [hX.N]; exact hN) (visS hv hX) hd hcd) (paO hX) (he _)) hdb (he _) (hpl _), ?_⟩
  obtain ⟨v0, F1, F2, a1, _, _, _⟩ := sta.hold.at (hi s)
  refine ⟨v0, a1, ha σ W F sta q h1 _ fun vs W1 Fa stp1 sa1 hh => ?_⟩
  show spS O G fM R ((v0 :: vs) ++ []) W1.H Q E0
  rw [List.append_nil]
  obtain ⟨v1, F1, F2, b1, b2, b3, b4⟩ := sa1.hold.at (hi q.2)
  have ev : v1 = v0 := by rw [a1] at b1; exact (Option.some.inj (Option.some.inj b1)).symm
  subst ev
  have fpP := sa1.fp.perm b3
  refine ⟨q.1, get q.2, W1, F1, v1, vs, r, rfl, rfl, sa1.ok, fpP.left, b2, hh, h3, fun v W2 F1' Fv stp2 fp2 o2 r2 => ?_⟩
  have ne2 : ∀ a ∈ F2, a ∉ F1 := fun a ha h => fpP.disj a h ha
  have hH : ∀ a ∈ F2, W2.H a = W1.H a := fun a ha => by
    cases qa : W1.H a with
    | none => exact absurd qa (fpP.right.al a ha)
    | some o => exact stp2.h a o qa (ne2 a ha)
  obtain ⟨F', c1, c2⟩ := b4 W2 (O r.2) v1 F1' stp2.b hH o2
  rw [set_back b1, hp] at c1
  have fpN : FpOk W2 ((F1' ++ F2) ++ Fv) := by
    have fA : FpOk W2 ((F1' ++ Fv) ++ F2) := fp2.app ⟨fpP.right.nd, fun a ha => stp2.al a (fpP.right.al a ha), fun a ha => stp2.fr a (fpP.right.al a ha) (fpP.right.fr a ha) (ne2 a ha)⟩ fun a ha h => by
      rcases stp2.fp a ha with z | z
      · exact ne2 a h z
      · exact fpP.right.al a h z
    refine fA.perm ?_
    rw [List.append_assoc, List.append_assoc]
    exact List.Perm.append_left _ List.perm_append_comm
  have fpF : FpOk W2 (F' ++ Fv) := fpN.perm (List.Perm.append_right Fv c2.symm)
  refine kk v W2 F' Fv (stp1.trans ?_) ⟨stp2.ok, fpF.left, by rw [← hp, List.length_set]; exact sa1.len, c1⟩ fpF r2
  refine ⟨stp2.ok, stp2.b, fun a o h n => stp2.h a o h fun z => n (b3.mem_iff.mpr (List.mem_append_left _ z)), stp2.al, fun a x1 x2 n => stp2.fr a x1 x2 fun z => n (b3.mem_iff.mpr (List.mem_append_left _ z)), fun a ha => ?_⟩
  rcases List.mem_append.mp ha with z | z
  · rcases List.mem_append.mp (c2.mem_iff.mp z) with z | z
    · exact (stp2.fp a (List.mem_append_left _ z)).imp (fun w => b3.mem_iff.mpr (List.mem_append_left _ w)) id
    · exact .inl (b3.mem_iff.mpr (List.mem_append_right _ z))
  · exact (stp2.fp a (List.mem_append_right _ z)).imp (fun w => b3.mem_iff.mpr (List.mem_append_left _ w)) id
/-- a pure def with such arguments -/
theorem je_call {x : Str} {p : Pos} {f : Addr} {fd : FuncData} {ps : List Str} {k : Nat} {G : α → List SP} {fM : α → Option ρ} {R : ρ → OP} {m : Option (α × τ)} (Fn : FnOk S.P S.w S.K S.mg S.base CX0 k f fd ps (spP G fM R)) (hm : S.mg x = some (.ref f)) (kp : PySem.W.keepIn S.K (.ref f) = true) (hb : Binds S.K fd ps [])
    (hk : k ≤ S.k) (ha : JEA S (e :: es) Γ s m G) (hg : GlS S x := by rfl) (hdb : (x == ("__debug__" : Str)) = false := by decide) (he : ∀ env, starEach (e :: es) env = (false, eval e env) :: starEach es env := by intro _; rfl) (hpl : ∀ env, (backTo pos (starEach es env)).any (·.1) = false := by intro _; rfl) (hcm : S.calm = true := by rfl) :
    JE S (.Call (.Name x p) (e :: es) [] pos) Γ s (m.bind fun q => (fM q.1).bind fun r => some (r, q.2)) R := fun σ W F sta z hz Q kk => by
  obtain ⟨q, h1, h2⟩ := run1 hz
  obtain ⟨r, h3, h4⟩ := run1 (f := fun r : ρ => some (r, q.2)) h2
  cases h4
  refine ⟨tCall (spP G fM R) [] E0 (taOf S (e :: es)), fun X hX => pe_call (fnokS Fn hX) ((hX.room hcm).mono hk) (hg.gl hX) (mgS hm hX) (by rw [hX.K]; exact kp) (bindsS hX hb) .nil passE0 (paO hX) hdb (he _) (hpl _), ha σ W F sta q h1 _ fun vs W1 F1 stp1 sa1 hh => ?_⟩
  show spP G fM R (vs ++ []) W1.H Q E0
  rw [List.append_nil]
  exact ⟨q.1, W1, r, rfl, sa1.ok, hh, h3, fun v W2 Fv ext fr fp rr => kk v W2 F1 Fv (stp1.trans (ext.stp fr)) (sa1.ext ext) (sa1.fp.fresh ext fp fr) rr⟩
/-- xs.pop(i) of an owned list -/
def popAt (xs : List α) (i : Int) : Option (α × List α) := if 0 ≤ i ∧ xs.length ≤ LIM then (xs[i.toNat]?).bind fun x => some (x, xs.eraseIdx i.toNat) else none
theorem Owns.erase {E : α → OP} {W : Wd} : ∀ {vs : List V} {xs : List α} {F : List Addr} {i : Nat} {x : α}, Owns E W vs xs F → xs[i]? = some x →
    ∃ v F1 F2, vs[i]? = some v ∧ (E x).C W v F1 ∧ F.Perm (F1 ++ F2) ∧ Owns E W (vs.eraseIdx i) (xs.eraseIdx i) F2
  | [], [], _, _, _, _, e => by simp at e
  | v :: vs, y :: xs, _, 0, x, ⟨F1, F2, h1, h2, h3⟩, e => by
    have : y = x := by simpa using e
    subst this h1
    exact ⟨v, F1, F2, rfl, h2, .refl _, h3⟩
  | v :: vs, y :: xs, _, i + 1, x, ⟨F1, F2, h1, h2, h3⟩, e => by
    subst h1
    obtain ⟨u, G1, G2, a1, a2, a3, a4⟩ := Owns.erase (i := i) h3 (by simpa using e)
    refine ⟨u, G1, F1 ++ G2, by simpa using a1, a2, ?_, F1, G2, rfl, h2, a4⟩
    refine (List.Perm.append_left F1 a3).trans ?_
    rw [← List.append_assoc, ← List.append_assoc]
    exact List.Perm.append_right G2 List.perm_append_comm
  | [], _ :: _, _, _, _, h, _ => h.elim
  | _ :: _, [], _, _, _, h, _ => h.elim
theorem je_popAt {x : Str} {p0 apos : Pos} {E : α → OP} {m : Option (Int × τ)} (i : Nat) (get : τ → List α) (put : τ → List α → τ) (h : JE S e Γ s m fun z => sh (intS z)) (hi : ∀ s, (Γ s)[i]? = some (some (lstO E (get s))) := by intro _; rfl) (hp : ∀ s u, (Γ s).set i (some (lstO E u)) = Γ (put s u) := by intro _ _; rfl)
    (hN : S.N[i]? = some x := by rfl) (hv : Vis S.sc x := by first | exact Or.inl rfl | exact Or.inr (Or.inl rfl) | exact Or.inr (Or.inr rfl)) (hd : (x == ("__debug__" : Str)) = false := by decide) (hcd : (x == ("__classdict__" : Str)) = false := by decide)
    (hbase : ∀ env, attributeBase (.Name x p0) "pop" env (eval (.Name x p0) env) = eval (.Name x p0) env := by intro _; rfl)
    (hfew : ∀ env, ((backTo pos (starEach [e] env)).all (fun x => !x.1) && (backToKw pos (keywordEach [] env)).all (fun x => x.1.isSome) && decide ([e].length + ([] : List Keyword).length + (if ([] : List Keyword).isEmpty then 0 else 1) < 30)) = true := by intro _; rfl)
    (hline : (apos.endLine == pos.line) = true := by rfl) (hs : ∀ env, starEach [e] env = (false, eval e env) :: starEach [] env := by intro _; rfl) :
    JE S (.Call (.Attribute (.Name x p0) "pop" apos) [e] [] pos) Γ s (m.bind fun q => (popAt (get q.2) q.1).bind fun r => some (r.1, put q.2 r.2)) E := fun σ W F sta z hz Q kk => by
  obtain ⟨q, h1, h2⟩ := run1 hz
  obtain ⟨r, h3, h4⟩ := run1 (f := fun r : α × List α => some (r.1, put q.2 r.2)) h2
  cases h4
  unfold popAt at h3
  split at h3
  · rename_i hb
    obtain ⟨y, h5, h6⟩ := run1 (f := fun y : α => some (y, (get q.2).eraseIdx q.1.toNat)) h3
    cases h6
    refine ⟨tBM S.K "list" rPopAt (tVar i) (tCons (tOf S e) tNil), fun X hX => hX.K ▸ pe_bm PySem.F.plainAttrs_list PySem.F.slot_list_pop PySem.F.type_list_pop mt_popAt (pe_var (by rw [hX.N]; exact hN) (visS hv hX) hd hcd) (pa_cons (peO hX) pa_nil (hs _)) (hbase _) (hfew _) hline (hs _) rfl, ?_⟩
    obtain ⟨v, F1, F2, a1, a2, a3, a4⟩ := sta.hold.at (hi s)
    obtain ⟨p, vs, G2, rfl, b2, rfl, b4⟩ := id a2
    refine ⟨.ref p, a1, .inl ⟨rfl, vs, .inl (.inl b2)⟩, h.sh sta h1 fun u W1 Fa stp1 sa1 r1 => ?_⟩
    cases r1
    obtain ⟨v', F1', F2', c1, c2, c3, c4⟩ := sa1.hold.at (hi q.2)
    have ev : v' = .ref p := by rw [a1] at c1; exact (Option.some.inj (Option.some.inj c1)).symm
    subst ev
    obtain ⟨p', vs', G2', e1, d2, rfl, d4⟩ := c2
    cases e1
    have hB : W1.B p = none := (sa1.fp.perm c3).fr p (by simp)
    obtain ⟨w, K1, K2, k1, k2, k3, k4⟩ := d4.erase h5
    have hlen := d4.len
    have hlt : q.1.toNat < (get q.2).length := (List.getElem?_eq_some_iff.mp h5).1
    have z : LIM = 1000000 := rfl
    have fpA := (sa1.fp.perm c3).left
    have fpK : FpOk W1 (p :: (K2 ++ K1)) := fpA.perm (List.Perm.cons p (k3.trans List.perm_append_comm))
    have nP : ∀ a ∈ K2 ++ K1, a ≠ p := fun a ha z => (List.nodup_cons.mp fpK.nd).1 (z ▸ ha)
    have eseq : seqIndex? q.1 vs'.length = some q.1.toNat := by
      have hx : ixN vs'.length q.1 = some q.1.toNat := by
        unfold ixN
        rw [if_pos hb.1, if_pos (by omega)]
      exact (ixN_seq hx).1
    refine ⟨p, vs', q.1, q.1.toNat, w, rfl, rfl, d2, by omega, by omega, eseq, k1, ?_⟩
    have ke : (lstO E ((get q.2).eraseIdx q.1.toNat)).C ⟨upd W1.H p (.lst (vs'.eraseIdx q.1.toNat)), W1.B⟩ (.ref p) (p :: K2) :=
      ⟨p, _, K2, rfl, upd_same, rfl, Owns.loc (W := W1) (W' := ⟨upd W1.H p (.lst (vs'.eraseIdx q.1.toNat)), W1.B⟩) (fun _ _ h => h) k4 fun a ha => by
        show upd W1.H p (.lst (vs'.eraseIdx q.1.toNat)) a = W1.H a
        exact upd_ne (nP a (List.mem_append_left _ ha))⟩
    have fpN : FpOk W1 ((p :: K2) ++ K1) := fpK
    -- the item's own things leave the list
    have fpG : FpOk W1 (((p :: K2) ++ F2') ++ K1) := by
      refine (sa1.fp.perm c3).perm ?_
      have e1 : ((p :: G2') ++ F2').Perm ((p :: (K2 ++ K1)) ++ F2') := List.Perm.append_right F2' (List.Perm.cons p (k3.trans List.perm_append_comm))
      refine e1.trans ?_
      show ((p :: K2) ++ K1 ++ F2').Perm _
      rw [List.append_assoc, List.append_assoc]
      exact List.Perm.append_left _ List.perm_append_comm
    obtain ⟨F', s1, s2⟩ := c4 ⟨upd W1.H p (.lst (vs'.eraseIdx q.1.toNat)), W1.B⟩ _ (.ref p) (p :: K2) (fun _ _ h => h) (fun a ha => by
      show upd W1.H p (.lst (vs'.eraseIdx q.1.toNat)) a = W1.H a
      refine upd_ne fun z => ?_
      exact (sa1.fp.perm c3).disj p List.mem_cons_self (z ▸ ha)) ke
    rw [set_back c1, hp] at s1
    have fpF : FpOk ⟨upd W1.H p (.lst (vs'.eraseIdx q.1.toNat)), W1.B⟩ (F' ++ K1) := by
      have := fpG.perm (List.Perm.append_right K1 s2.symm)
      exact ⟨this.nd, fun a ha => wr_al a (this.al a ha), this.fr⟩
    refine kk w ⟨upd W1.H p (.lst (vs'.eraseIdx q.1.toNat)), W1.B⟩ F' K1 (stp1.trans ?_) ⟨wr_ok sa1.ok hB, fpF.left, by rw [← hp, List.length_set]; exact sa1.len, s1⟩ fpF ?_
    · refine ⟨wr_ok sa1.ok hB, Ex.refl _, fun a o h n => ?_, wr_al, fun a _ h2 _ => h2, fun a ha => .inl (c3.mem_iff.mpr ?_)⟩
      · show upd W1.H p _ a = some o
        rw [upd_ne fun z => n (c3.mem_iff.mpr (by rw [z]; simp))]
        exact h
      · rcases List.mem_append.mp ha with z | z
        · rcases List.mem_append.mp (s2.mem_iff.mp z) with z | z
          · rcases List.mem_cons.mp z with z | z
            · rw [z]; simp
            · exact List.mem_append_left _ (List.mem_cons_of_mem _ (k3.mem_iff.mpr (List.mem_append_right _ z)))
          · exact List.mem_append_right _ z
        · exact List.mem_append_left _ (List.mem_cons_of_mem _ (k3.mem_iff.mpr (List.mem_append_left _ z)))
    · exact OP.loc _ k2 (fun _ _ h => h) fun a ha => by
        show upd W1.H p (.lst (vs'.eraseIdx q.1.toNat)) a = W1.H a
        exact upd_ne (nP a (List.mem_append_right _ ha))
  · cases h3
/-! ### statements -/
theorem js_setE {x : Str} {pos' : Pos} {m : Option (α × τ)} {R : α → OP} (i : Nat) (nd : S.N.Nodup) (h : JE S e Γ s m R) (hi : ∀ s, ((Γ s)[i]?).isSome = true := by intro _; rfl) (hN : S.N[i]? = some x := by rfl) (hx : Loc S.sc x := by first | exact Or.inl rfl | exact Or.inr rfl) (hp : (S.prot.contains i) = false := by rfl)
    (hs : ∀ env, swapsWith e (some (.Name x pos')) pos.line env = pure false := by intro _; rfl) (hf : S.fn x = true ∨ S.sc.names.lookup x = some .local := by first | exact .inl rfl | exact .inr rfl) : JS S (.Assign [.Name x pos'] e pos) (Γ s) m fun q => .nx ((Γ q.2).set i (some (R q.1))) := fun σ W F sta y hy E k => by
  refine ⟨tAsg (tOf S e) (gName i), fun X hX => ps_set (by rw [hX.N]; exact nd) (by rw [hX.N]; exact hN) (locS hx hX) (peO hX) (hs _) (by rw [hX.fn, hX.sc]; exact hf), h σ W F sta y hy _ fun v W' F' Fv stp sa fp r => ?_⟩
  have hl : i < (Γ y.2).length := by
    have := hi y.2
    cases h : (Γ y.2)[i]? with
    | none => rw [h] at this; cases this
    | some o => exact (List.getElem?_eq_some_iff.mp h).1
  obtain ⟨F2, s', sub⟩ := sa.put hl r fp
  exact k _ W' F2 (Keep.set (ncon hp)) (stp.perm sub) s'
theorem js_asgE {m : Option (α × τ)} {E : α → SP} {up : α → Ctx → Ctx} {ws : List Nat} (h : JE S e Γ s m fun x => sh (E x)) (hg : JG S tg E up ws) (hl : ∀ s, ∀ i ∈ ws, i < (Γ s).length) (hs : ∀ env, swapsWithSole [tg] e pos.line env = pure false := by intro _; rfl) (hw : ∀ env, swappedStores [tg] e env = pure none := by intro _; rfl)
    (h1 : ∀ env, (assignEach [tg] env).map (·.2) = [assign tg env] := by intro _; rfl) : JS S (.Assign [tg] e pos) (Γ s) m fun q => .nx (up q.1 (Γ q.2)) := fun σ W F sta y hy Ed k => by
  refine ⟨tAsg (tOf S e) (tgOf S tg), fun X hX => ps_asg (peO hX) (pgO hX) (hs _) (hw _) (h1 _), h.sh sta hy fun v W' F' stp sa r => ?_⟩
  refine hg _ σ W' F' y.1 v sa (hl _) r _ fun σ' F2 _ kp s' sub => ?_
  exact k σ' W' F2 kp (stp.perm sub) s'
theorem js_drop {m : Option (α × τ)} {R : α → OP} (h : JE S e Γ s m R) (hs : ∀ env, swapsWith e none pos.line env = pure false := by intro _; rfl) : JS S (.Expr e pos) (Γ s) m fun q => .nx (Γ q.2) := fun σ W F sta y hy Ed k => by
  refine ⟨tDrop (tOf S e), fun X hX => ps_expr (peO hX) (hs _), h σ W F sta y hy _ fun v W' F' Fv stp sa fp r => ?_⟩
  exact k σ W' F' Keep.refl (stp.perm fun a ha => List.mem_append_left _ ha) sa
theorem js_ifE {mc : Option (Bool × τ)} {ma mb : τ → Option ω} {D : ω → Kd} (hc : JTE S c Γ s mc) (ha : ∀ s1, JB S A (Γ s1) (ma s1) D) (hb : ∀ s1, JB S B (Γ s1) (mb s1) D) : JS S (.If c A B pos) (Γ s) (mc.bind fun p => bif p.1 then ma p.2 else mb p.2) D := fun σ W F sta z hz E k => by
  obtain ⟨x, h1, h2⟩ := run1 hz
  refine ⟨tIfS (ttOf S c) (tbOf S A) (tbOf S B), fun X hX => ps_if (ptO hX) (pbO hX) (pbO hX), ?_⟩
  refine hc σ W F sta x h1 _ fun W' F' stp sa => ?_
  obtain ⟨x1, x2⟩ := x
  cases x1 with
  | true => exact iteT (ha x2 σ W' F' sa z h2 _ (k.before Keep.refl stp))
  | false => exact iteF (hb x2 σ W' F' sa z h2 _ (k.before Keep.refl stp))
theorem jb_ifrE {mc : Option (Bool × τ)} {ma mr : τ → Option ω} {D : ω → Kd} (hc : JTE S c Γ s mc) (ha : ∀ s1, JB S A (Γ s1) (ma s1) D) (hn : ∀ x, NoNx (D x)) (hr : ∀ s1, JB S rest (Γ s1) (mr s1) D) : JB S (.If c A [] pos :: rest) (Γ s) (mc.bind fun p => bif p.1 then ma p.2 else mr p.2) D := fun σ W F sta z hz E k => by
  obtain ⟨x, h1, h2⟩ := run1 hz
  refine ⟨tSeq (tIfS (ttOf S c) (tbOf S A) tNext) (tbOf S rest), fun X hX => pss_cons (ps_if (ptO hX) (pbO hX) pss_nil) (pbO hX), ?_⟩
  refine hc σ W F sta x h1 _ fun W' F' stp sa => ?_
  obtain ⟨x1, x2⟩ := x
  cases x1 with
  | true => exact iteT (ha x2 σ W' F' sa z h2 _ (post_nox (k.before Keep.refl stp) (hn z)))
  | false => exact iteF (hr x2 σ W' F' sa z h2 E (k.before Keep.refl stp))
theorem jb_ifxE {mc : Option (Bool × τ)} {ma : τ → Option υ} {mr : τ → Option ω} {D : ω → Kd} {D' : υ → Kd} (ι : υ → ω) (hc : JTE S c Γ s mc) (ha : ∀ s1, JB S A (Γ s1) (ma s1) D') (hι : ∀ x, D (ι x) = D' x) (hn : ∀ x, NoNx (D' x)) (hr : ∀ s1, JB S rest (Γ s1) (mr s1) D) :
    JB S (.If c A [] pos :: rest) (Γ s) (mc.bind fun p => bif p.1 then (ma p.2).bind fun x => some (ι x) else mr p.2) D := fun σ W F sta z hz E k => by
  obtain ⟨x, h1, h2⟩ := run1 hz
  refine ⟨tSeq (tIfS (ttOf S c) (tbOf S A) tNext) (tbOf S rest), fun X hX => pss_cons (ps_if (ptO hX) (pbO hX) pss_nil) (pbO hX), ?_⟩
  refine hc σ W F sta x h1 _ fun W' F' stp sa => ?_
  obtain ⟨x1, x2⟩ := x
  cases x1 with
  | true =>
    obtain ⟨y, h3, h4⟩ := run1 h2
    cases h4
    refine iteT (ha x2 σ W' F' sa y h3 _ ?_)
    rw [hι] at k
    exact post_nox (k.before Keep.refl stp) (hn y)
  | false => exact iteF (hr x2 σ W' F' sa z h2 E (k.before Keep.refl stp))
theorem jb_retE {m : Option (α × τ)} {R : α → OP} {Δ : τ → Ctx} (w : ∀ s, Weak (Γ s) (Δ s)) (h : JE S e Γ s m R) : JB S (.Return (some e) pos :: rest) (Γ s) m fun q => .rt (Δ q.2) (R q.1) := fun σ W F sta x hx E k => by
  refine ⟨tSeq (tRet (tOf S e)) tNever, fun X hX => pss_cons (ps_ret (peO hX)) pss_never, h σ W F sta x hx _ fun v W' F' Fv stp sa fp r => ?_⟩
  obtain ⟨F2, s', sub⟩ := sa.weak (w x.2)
  have fpB : FpOk W' (F2 ++ Fv) := s'.fp.app fp.right fun a ha => fp.disj a (sub a ha)
  refine k v σ W' F2 Fv Keep.refl (stp.perm fun a ha => ?_) s' fpB r
  rcases List.mem_append.mp ha with h | h
  · exact List.mem_append_left _ (sub a h)
  · exact List.mem_append_right _ h
/-- found.append(e) -/
theorem js_appE {x : Str} {p0 apos cpos spos : Pos} {E : α → OP} {m : Option (α × τ)} (i : Nat) (get : τ → List α) (h : JE S e Γ s m E) (hi : ∀ s, (Γ s)[i]? = some (some (lstO E (get s))) := by intro _; rfl) (hN : S.N[i]? = some x := by rfl) (hv : Vis S.sc x := by first | exact Or.inl rfl | exact Or.inr (Or.inl rfl) | exact Or.inr (Or.inr rfl))
    (hd : (x == ("__debug__" : Str)) = false := by decide) (hcd : (x == ("__classdict__" : Str)) = false := by decide)
    (hbase : ∀ env, attributeBase (.Name x p0) "append" env (eval (.Name x p0) env) = eval (.Name x p0) env := by intro _; rfl)
    (hfew : ∀ env, ((backTo cpos (starEach [e] env)).all (fun x => !x.1) && (backToKw cpos (keywordEach [] env)).all (fun x => x.1.isSome) && decide ([e].length + ([] : List Keyword).length + (if ([] : List Keyword).isEmpty then 0 else 1) < 30)) = true := by intro _; rfl)
    (hline : (apos.endLine == cpos.line) = true := by rfl) (hs : ∀ env, starEach [e] env = (false, eval e env) :: starEach [] env := by intro _; rfl) (hsw : ∀ env, swapsWith (.Call (.Attribute (.Name x p0) "append" apos) [e] [] cpos) none spos.line env = pure false := by intro _; rfl) :
    JS S (.Expr (.Call (.Attribute (.Name x p0) "append" apos) [e] [] cpos) spos) (Γ s) (m.bind fun q => (appM (get q.2) q.1).bind fun ys => some (ys, q.2)) fun q => .nx ((Γ q.2).set i (some (lstO E q.1))) := fun σ W F sta z hz Ed k => by
  obtain ⟨q, h1, h2⟩ := run1 hz
  obtain ⟨ys, h3, h4⟩ := run1 (f := fun ys : List α => some (ys, q.2)) h2
  cases h4
  unfold appM at h3
  split at h3
  · rename_i hlen
    cases h3
    refine ⟨tDrop (tBM S.K "list" rAppend (tVar i) (tCons (tOf S e) tNil)), fun X hX => ps_expr (hX.K ▸ pe_bm PySem.F.plainAttrs_list PySem.F.slot_list_append PySem.F.type_list_append mt_append (pe_var (by rw [hX.N]; exact hN) (visS hv hX) hd hcd) (pa_cons (peO hX) pa_nil (hs _)) (hbase _) (hfew _) hline (hs _) rfl) (hsw _), ?_⟩
    obtain ⟨v, F1, F2, a1, a2, a3, a4⟩ := sta.hold.at (hi s)
    obtain ⟨p, vs, G2, rfl, b2, rfl, b4⟩ := id a2
    refine ⟨.ref p, a1, .inl ⟨rfl, vs, .inl (.inl b2)⟩, h σ W F sta q h1 _ fun u W1 Fa Fv stp1 sa1 fp1 r => ?_⟩
    obtain ⟨v', F1', F2', c1, c2, c3, c4⟩ := sa1.hold.at (hi q.2)
    have ev : v' = .ref p := by rw [a1] at c1; exact (Option.some.inj (Option.some.inj c1)).symm
    subst ev
    obtain ⟨p', vs', G2', e1, d2, rfl, d4⟩ := c2
    cases e1
    have hB : W1.B p = none := (sa1.fp.perm c3).fr p (by simp)
    have fpA : FpOk W1 ((p :: G2') ++ Fv) := by
      have q2 : FpOk W1 (((p :: G2') ++ F2') ++ Fv) := fp1.perm (List.Perm.append_right Fv c3)
      refine FpOk.left (F' := F2') (q2.perm ?_)
      rw [List.append_assoc, List.append_assoc]
      exact List.Perm.append_left _ List.perm_append_comm
    refine ⟨p, vs', u, rfl, rfl, d2, lim_lt (by rw [d4.len]; exact hlen), ?_⟩
    have nP : ∀ a ∈ G2' ++ Fv, a ≠ p := fun a ha z => (List.nodup_cons.mp fpA.nd).1 (z ▸ ha)
    have A3 : Owns E W1 (vs' ++ [u]) (get q.2 ++ [q.1]) (G2' ++ Fv) := d4.app ⟨Fv, [], (List.append_nil _).symm, r, rfl⟩
    have A4 : Owns E ⟨upd W1.H p (.lst (vs' ++ [u])), W1.B⟩ (vs' ++ [u]) (get q.2 ++ [q.1]) (G2' ++ Fv) := Owns.loc (W := W1) (W' := ⟨upd W1.H p (.lst (vs' ++ [u])), W1.B⟩) (fun _ _ h => h) A3 fun a ha => by
      show upd W1.H p (.lst (vs' ++ [u])) a = W1.H a
      exact upd_ne (nP a ha)
    obtain ⟨F', s', stp⟩ := sta_own (W' := ⟨upd W1.H p (.lst (vs' ++ [u])), W1.B⟩) (F1' := p :: (G2' ++ Fv)) (o' := lstO E (get q.2 ++ [q.1])) Fv sa1 fp1 c1 c3 c4 (wr_ok sa1.ok hB) rfl (fun a ha _ => upd_ne fun z => ha (z ▸ List.mem_cons_self)) wr_al
      ⟨fpA.nd, fun a ha => wr_al a (fpA.al a ha), fpA.fr⟩ (fun a ha => by
        rcases List.mem_cons.mp ha with z | z
        · exact .inl (z ▸ List.mem_cons_self)
        · rcases List.mem_append.mp z with z | z
          · exact .inl (List.mem_cons_of_mem _ z)
          · exact .inr (.inl z)) ⟨p, vs' ++ [u], G2' ++ Fv, rfl, upd_same, rfl, A4⟩
    exact k σ _ F' Keep.refl (stp1.trans stp) s'
  · cases h3
/-- range of a drawn number -/
theorem jie_rng1 {p : Pos} {m : Option (Int × τ)} (hm : S.mg "range" = none) (h : JE S a Γ s m fun x => sh (intS x)) (hg : GlS S "range" := by rfl) (hs : ∀ env, starEach [a] env = [(false, eval a env)] := by intro _; rfl) :
    JIE S tg (.Call (.Name "range" p) [a] [] pos) Γ s (m.bind fun q => (rng 0 q.1).bind fun xs => some (xs, q.2)) intS := fun σ W F sta z hz R k => by
  obtain ⟨q, h1, h2⟩ := run1 hz
  obtain ⟨xs, h3, h4⟩ := run1 (f := fun xs : List Int => some (xs, q.2)) h2
  cases h4
  unfold rng at h3
  split at h3
  · rename_i hb
    cases h3
    refine ⟨iRng1 (tCons (tOf S a) tNil), fun X hX => pi_range1 (hg.gl hX) (mgS hm hX) (pa_cons (peO hX) pa_nil (hs _)) (hs _), h.sh sta h1 fun v W' F' stp sa r => ?_⟩
    cases r
    have z : (LIM : Int) = 1000000 := rfl
    refine ⟨q.1, rfl, by omega, by omega, ?_⟩
    have e : (q.1 - 0).toNat = q.1.toNat := by rw [Int.sub_zero]
    rw [← e]
    exact k _ W' F' stp sa (ok_rng fun W1 c => c.1)
  · cases h3
/-- for over a walk that is drawn -/
theorem js_forE {mi : Option (List α × τ)} {E : α → SP} {up : α → Ctx → Ctx} {ws : List Nat} {Γl : τ → υ → Ctx} {T : ρ → Kd} {f : τ → α → υ → Option (Out υ ρ)} (s0 : τ → υ) (hi : JIE S tg iter Γ s mi E) (hg : JG S tg E up ws) (w : ∀ s, Weak (Γ s) (Γl s (s0 s))) (hl : ∀ t s, ∀ i ∈ ws, i < (Γl t s).length)
    (hT : ∀ r, NoNx (T r) ∧ (∀ Δ, T r ≠ .bk Δ) ∧ ∀ Δ, T r ≠ .ct Δ) (hb : ∀ t x s, JB S A (up x (Γl t s)) (f t x s) (DL (Γl t) T)) (hs : ∀ env x, foldedSetIterable iter env x = pure x := by intro _ _; rfl) (hcm : S.calm = true := by rfl) :
    JS S (.For tg iter A [] pos) (Γ s) (mi.bind fun q => (loopGo (f q.2) q.1 (s0 q.2)).bind fun o => some (q.2, o)) fun o => DF (Γl o.1) T o.2 := fun σ W F sta z hz Ed k => by
  obtain ⟨q, h1, h2⟩ := run1 hz
  obtain ⟨o, h3, h4⟩ := run1 (f := fun o : Out υ ρ => some (q.2, o)) h2
  cases h4
  refine ⟨tFor (tiOf S tg iter) (tgOf S tg) (tbOf S A), fun X hX => ps_for hX.pass (hX.calm.trans hcm) (piO hX) (pgO hX) (pbO hX) (hs _), ?_⟩
  refine hi σ W F sta q h1 _ fun J W' Fi stp0 sai iok => ?_
  obtain ⟨F0, sa0, sub0⟩ := sai.weak (w q.2)
  refine ⟨fun i m σ1 H => m = q.1.length - i ∧ i ≤ q.1.length ∧ ∃ (W1 : Wd) (F1 : List Addr) (s : υ), W1.H = H ∧ Keep S.prot σ σ1 ∧ Stp W' Fi W1 F1 ∧ Sta (Γl q.2 s) σ1 W1 F1 ∧ loopGo (f q.2) (q.1.drop i) s = some o,
    ⟨q.1.length, by simp, Nat.zero_le _, W', F0, s0 q.2, rfl, Keep.refl, (Stp.refl sai.ok).perm sub0, sa0, by simpa using h3⟩, ?_⟩
  rintro i m σ1 H ⟨rfl, hi', W1, F1, s, rfl, kp, stp, sa, go⟩
  obtain ⟨iok1, iok2⟩ := iok W1 ⟨sa.ok, stp.b⟩
  by_cases hlt : i < q.1.length
  · obtain ⟨g1, g2⟩ := iok1 i q.1[i] (List.getElem?_eq_getElem hlt)
    refine .inr ⟨g1, fun σ' H' => ∃ m', m' < q.1.length - i ∧ (m' = q.1.length - (i + 1) ∧ i + 1 ≤ q.1.length ∧ ∃ (W1 : Wd) (F1 : List Addr) (s : υ), W1.H = H' ∧ Keep S.prot σ σ' ∧ Stp W' Fi W1 F1 ∧ Sta (Γl q.2 s) σ' W1 F1 ∧ loopGo (f q.2) (q.1.drop (i + 1)) s = some o), fun σ' H' h => h, fun v H' y => ?_⟩
    obtain ⟨W2, rfl, e2, p2⟩ := g2 v H' y
    refine hg (Γl q.2 s) σ1 W2 F1 q.1[i] v (sa.ext e2) (hl _ s) p2 _ fun σ2 F2 _ kp2 sa2 sub2 => ?_
    rw [List.drop_eq_getElem_cons hlt] at go
    obtain ⟨oo, o1, o2⟩ := run1 (f := fun o : Out υ ρ => o.step fun s' => loopGo (f q.2) (q.1.drop (i + 1)) s') go
    have stpA : Stp W' Fi W2 F2 := (stp.trans e2.stp0).perm sub2
    refine hb q.2 q.1[i] s σ2 W2 F2 sa2 oo o1 _ ?_
    cases oo with
    | nx s' => exact fun σ3 W3 F3 k3 t3 a3 => ⟨q.1.length - (i + 1), by omega, rfl, hlt, W3, F3, s', rfl, (kp.trans kp2).trans k3, stpA.trans t3, a3, o2⟩
    | ct s' => exact fun σ3 W3 F3 k3 t3 a3 => ⟨q.1.length - (i + 1), by omega, rfl, hlt, W3, F3, s', rfl, (kp.trans kp2).trans k3, stpA.trans t3, a3, o2⟩
    | bk s' =>
      cases o2
      exact fun σ3 W3 F3 k3 t3 a3 => k σ3 W3 F3 ((kp.trans kp2).trans k3) (stp0.trans (stpA.trans t3)) a3
    | rt r =>
      cases o2
      obtain ⟨n1, n2, n3⟩ := hT r
      have k' : Post S.W S.prot σ W F Ed (T r) := k
      show Post S.W S.prot σ2 W2 F2 _ (T r)
      have k'' := k'.before (kp.trans kp2) (stp0.trans stpA)
      generalize hq : T r = qq at k'' n1
      cases qq with
      | nx Γ => exact n1.elim
      | bk Γ => exact absurd hq (n2 Γ)
      | ct Γ => exact absurd hq (n3 Γ)
      | rt Γ R => exact k''
      | xc Γ R => exact k''
  · have ei : i = q.1.length := by omega
    subst ei
    rw [List.drop_length] at go
    cases go
    exact .inl ⟨iok2 _ (Nat.le_refl _), k σ1 W1 F1 kp (stp0.trans stp) sa⟩
end
end CC
set_option maxHeartbeats 4000000
/-! Comprehensions whose items change what is owned; further operations. -/
namespace CC
open PySem PySem.Spec L2
open PyProof.Rows hiding St
variable {α β γ δ τ ω ρ υ : Type}
def compGoE (t : α → τ → Option (Bool × τ)) (f : α → τ → Option (β × τ)) : List α → τ → Option (List β × τ)
  | [], s => some ([], s)
  | x :: xs, s => (t x s).bind fun b => bif b.1 then (f x b.2).bind fun y => (compGoE t f xs y.2).bind fun r => some (y.1 :: r.1, r.2) else compGoE t f xs b.2
def compME (t : α → τ → Option (Bool × τ)) (f : α → τ → Option (β × τ)) (xs : List α) (s : τ) : Option (List β × τ) := if xs.length ≤ LIM then compGoE t f xs s else none
def mapGoE (f : α → τ → Option (β × τ)) : List α → τ → Option (List β × τ)
  | [], s => some ([], s)
  | x :: xs, s => (f x s).bind fun y => (mapGoE f xs y.2).bind fun r => some (y.1 :: r.1, r.2)
def mapME (f : α → τ → Option (β × τ)) (xs : List α) (s : τ) : Option (List β × τ) := if xs.length ≤ LIM then mapGoE f xs s else none
theorem compGoE_yes (f : α → τ → Option (β × τ)) : ∀ (xs : List α) (s : τ), compGoE (fun _ s => some (true, s)) f xs s = mapGoE f xs s
  | [], s => rfl
  | x :: xs, s => by
    show (f x s).bind (fun y => (compGoE (fun _ s => some (true, s)) f xs y.2).bind fun r => some (y.1 :: r.1, r.2)) = (f x s).bind fun y => (mapGoE f xs y.2).bind fun r => some (y.1 :: r.1, r.2)
    congr 1
    funext y
    rw [compGoE_yes f xs y.2]
theorem mapM_eq (f : α → Option β) (xs : List α) : compM (fun _ => some true) f xs = mapM f xs := by
  unfold compM mapM
  rw [compGo_yes]
theorem mapME_eq (f : α → τ → Option (β × τ)) (xs : List α) (s : τ) : compME (fun _ s => some (true, s)) f xs s = mapME f xs s := by
  unfold compME mapME
  rw [compGoE_yes]
theorem Holds.move {W : Wd} : ∀ {Γ Δ : Ctx} {σ σ2 : L2.St} {F : List Addr}, Γ.length = Δ.length → (∀ (i : Nat) (o : OP), Γ[i]? = some (some o) → Δ[i]? = some (some o) ∧ σ2[i]? = σ[i]?) → Holds Δ σ2 W F → ∃ F' G, Holds Γ σ W F' ∧ F.Perm (F' ++ G)
  | [], [], σ, σ2, F, _, _, h => ⟨[], F, rfl, .refl _⟩
  | [], _ :: _, _, _, _, h, _, _ => by simp at h
  | _ :: _, [], _, _, _, h, _, _ => by simp at h
  | g :: Γ, d :: Δ, σ, σ2, F, hl, hi, h => by
    have hi' : ∀ (i : Nat) (o : OP), Γ[i]? = some (some o) → Δ[i]? = some (some o) ∧ σ2.tail[i]? = σ.tail[i]? := fun i o e => by
      have q := hi (i + 1) o (by simpa using e)
      refine ⟨by simpa using q.1, ?_⟩
      rw [List.getElem?_tail, List.getElem?_tail]
      exact q.2
    have hl' : Γ.length = Δ.length := by simpa using hl
    cases g with
    | none =>
      cases d with
      | none => exact Holds.move (Γ := Γ) (Δ := Δ) (σ := σ.tail) (σ2 := σ2.tail) hl' hi' h
      | some o =>
        obtain ⟨v, F1, F2, h1, h2, h3, h4⟩ := h
        obtain ⟨F', G, a1, a2⟩ := Holds.move (Γ := Γ) (Δ := Δ) (σ := σ.tail) (σ2 := σ2.tail) hl' hi' h4
        subst h2
        refine ⟨F', G ++ F1, a1, ?_⟩
        rw [← List.append_assoc]
        exact (List.Perm.append_left F1 a2).trans List.perm_append_comm
    | some o =>
      obtain ⟨e1, e2⟩ := hi 0 o rfl
      have : d = some o := by simpa using e1
      subst this
      obtain ⟨v, F1, F2, h1, h2, h3, h4⟩ := h
      obtain ⟨F', G, a1, a2⟩ := Holds.move (Γ := Γ) (Δ := Δ) (σ := σ.tail) (σ2 := σ2.tail) hl' hi' h4
      subst h2
      refine ⟨F1 ++ F', G, ⟨v, F1, F', ?_, rfl, h3, a1⟩, ?_⟩
      · rw [List.head?_eq_getElem?] at h1 ⊢
        rw [← e2]
        exact h1
      · rw [List.append_assoc]
        exact List.Perm.append_left F1 a2
def JTsE (S : Stc) (ifs : List Expr) (Γ : τ → Ctx) (s : τ) (m : Option (Bool × τ)) : Prop :=
  ∀ σ W F, Sta (Γ s) σ W F → ∀ x, m = some x → ∀ Q : Bool → Hp → Prop, (∀ W' F', Stp W F W' F' → Sta (Γ x.2) σ W' F' → Q x.1 W'.H) → ttsOf S ifs σ W.H Q
def JCE (S : Stc) (elt tg iter : Expr) (ifs : List Expr) (scope : Scope) (Γ : τ → Ctx) (s : τ) (m : Option (α × τ)) (R : α → OP) : Prop :=
  ∃ own : List (Str × Nat), BlkOk S.N S.sc scope own ∧ ∀ σ W F, Sta (Γ s) σ W F → ∀ x, m = some x → ∀ Q : VK, (∀ v W' F' Fv, Stp W F W' (F' ++ Fv) → Sta (Γ x.2) σ W' F' → FpOk W' (F' ++ Fv) → (R x.1).C W' v Fv → Q v W'.H) →
    tLc (tiOf S tg iter) (tgOf (S.blk scope) tg) (ttsOf (S.blk scope) ifs) (tOf (S.blk scope) elt) (own.map (·.2)) σ W.H Q
section
variable {S : Stc} {Γ : τ → Ctx} {s : τ} {a b c e tg iter elt : Expr} {es ifs : List Expr} {pos : Pos} {st : Stmt} {rest A B : List Stmt}
theorem jtse_nil : JTsE S [] Γ s (some (true, s)) := fun σ W F sta b hb Q k => by
  cases hb
  exact ⟨tYes, fun _ _ => pts_nil, k W F (Stp.refl sta.ok) sta⟩
theorem jtse_one {m : Option (Bool × τ)} (h : JTE S c Γ s m) : JTsE S [c] Γ s m := fun σ W F sta b hb Q k => ⟨ttOf S c, fun X hX => pts_one (ptO hX), h σ W F sta b hb Q k⟩
theorem je_lc {scope : Scope} {m : Option (α × τ)} {R : α → OP} (nd : S.N.Nodup) (h : JCE S elt tg iter ifs scope Γ s m R) (hs : ∀ env x, foldedSetIterable iter env x = pure x := by intro _ _; rfl) (hcm : S.calm = true := by rfl) : JE S (.ListComp elt [⟨tg, iter, ifs, 0⟩] scope pos) Γ s m R := fun σ W F sta x hx Q k => by
  obtain ⟨own, ok, go⟩ := h
  exact ⟨_, fun X hX => pe_lc (hX.calm.trans hcm) (by rw [hX.N]; exact nd) (piO hX) (by rw [hX.N, hX.sc]; exact ok) (fun s H C cl fp => pgO (hX.blk scope s H C cl fp)) (fun s H C cl fp => ptsO (hX.blk scope s H C cl fp)) (fun s H C cl fp => peO (hX.blk scope s H C cl fp)) (hs _), go σ W F sta x hx Q k⟩
theorem js_setLcE {x : Str} {py spos : Pos} {scope : Scope} {m : Option (α × τ)} {R : α → OP} (i : Nat) (nd : S.N.Nodup) (h : JCE S elt tg iter ifs scope Γ s m R) (hi : ∀ s, ((Γ s)[i]?).isSome = true := by intro _; rfl) (hN : S.N[i]? = some x := by rfl) (hx : S.sc.names.lookup x = some .local := by rfl) (hp : (S.prot.contains i) = false := by rfl)
    (hk : S.sc.kind = .function := by rfl) (hl : (py.line == pos.line) = true := by rfl) (hown : (scope.names.any fun (n, k) => n == x && (k == .local || k == .cell)) = false := by decide +kernel) (hs : ∀ env x, foldedSetIterable iter env x = pure x := by intro _ _; rfl) (hcm : S.calm = true := by rfl) :
    JS S (.Assign [.Name x py] (.ListComp elt [⟨tg, iter, ifs, 0⟩] scope pos) spos) (Γ s) m fun q => .nx ((Γ q.2).set i (some (R q.1))) := fun σ W F sta y hy E k => by
  obtain ⟨own, ok, go⟩ := h
  refine ⟨_, fun X hX => ps_setLc (hX.calm.trans hcm) (by rw [hX.N]; exact nd) (by rw [hX.N]; exact hN) (by rw [hX.sc]; exact hx) (sw_true (by rw [hX.sc]; exact hk) (by rw [hX.sc]; exact hx) hl hown) (piO hX) (by rw [hX.N, hX.sc]; exact ok) (fun s H C cl fp => pgO (hX.blk scope s H C cl fp)) (fun s H C cl fp => ptsO (hX.blk scope s H C cl fp)) (fun s H C cl fp => peO (hX.blk scope s H C cl fp)) (hs _), go σ W F sta y hy _ fun v W' F' Fv stp sa fp r => ?_⟩
  have hl : i < (Γ y.2).length := by
    have := hi y.2
    cases h : (Γ y.2)[i]? with
    | none => rw [h] at this; cases this
    | some o => exact (List.getElem?_eq_some_iff.mp h).1
  obtain ⟨F2, s', sub⟩ := sa.put hl r fp
  exact k _ W' F2 (Keep.set (ncon hp)) (stp.perm sub) s'
theorem wipeC_get {Γ : Ctx} {i : Nat} : ∀ {vs : List Nat}, i ∉ vs → (wipeC Γ vs)[i]? = Γ[i]?
  | [], _ => rfl
  | v :: vs, h => by
    show ((wipeC Γ vs).set v none)[i]? = _
    rw [List.getElem?_set_ne fun z => h (by rw [z]; exact List.mem_cons_self), wipeC_get fun z => h (List.mem_cons_of_mem _ z)]
/-- the block's turns; the block's own slots hold nothing outside -/
theorem jce_of {scope : Scope} {mi : Option (List α × τ)} {E : α → SP} {up : α → Ctx → Ctx} {ws : List Nat} {mt : α → τ → Option (Bool × τ)} {me : α → τ → Option (β × τ)} {R : β → OP} (own : List (Str × Nat)) (hi : JIE S tg iter Γ s mi E) (ok : blkC S.N S.sc scope own = true) (hg : JG (S.blk scope) tg E up ws)
    (hw : ∀ i ∈ ws, i ∈ own.map (·.2)) (hl : ∀ s, ∀ i ∈ ws, i < (Γ s).length) (hu : ∀ x Γ i, i ∉ ws → (up x Γ)[i]? = Γ[i]?) (hul : ∀ x Γ, (up x Γ).length = Γ.length) (hz : ∀ s, ∀ i ∈ own.map (·.2), (Γ s)[i]? = some none)
    (ht : ∀ x s, JTsE (S.blk scope) ifs (fun s => up x (wipeC (Γ s) (own.map (·.2)))) s (mt x s)) (he : ∀ x s, JE (S.blk scope) elt (fun s => up x (wipeC (Γ s) (own.map (·.2)))) s (me x s) R) :
    JCE S elt tg iter ifs scope Γ s (mi.bind fun q => compME mt me q.1 q.2) fun ys => lstO R ys := by
  refine ⟨own, blkOk_by ok, fun σ W F sta ys hx Q k => ?_⟩
  obtain ⟨q0, h1, h2⟩ := run1 hx
  unfold compME at h2
  split at h2
  · rename_i hlen
    refine hi σ W F sta q0 h1 _ fun J W' Fi stp0 sai iok => fun D hD => ?_
    have back : ∀ {x : α} {s : τ} {σ2 : L2.St} {W1 : Wd} {F1 : List Addr}, (∀ i, i ∉ own.map (·.2) → σ2[i]? = σ[i]?) → Sta (up x (wipeC (Γ s) (own.map (·.2)))) σ2 W1 F1 → ∃ F', Sta (Γ s) σ W1 F' ∧ ∀ a ∈ F', a ∈ F1 := by
      intro x s σ2 W1 F1 hσ sa
      have hlen : (Γ s).length = (up x (wipeC (Γ s) (own.map (·.2)))).length := by rw [hul, wipeC_len]
      obtain ⟨F', G, a1, a2⟩ := sa.hold.move (Γ := Γ s) (σ := σ) hlen fun i o e => by
        have hn : i ∉ own.map (·.2) := fun z => by
          rw [hz s i z] at e
          cases e
        refine ⟨?_, hσ i hn⟩
        rw [hu x _ i fun z => hn (hw i z), wipeC_get hn]
        exact e
      refine ⟨F', ⟨sa.ok, (sa.fp.perm a2).left, ?_, a1⟩, fun a ha => a2.mem_iff.mpr (List.mem_append_left _ ha)⟩
      have l1 : σ.length = (Γ s).length := by
        have e1 := sai.len
        have e2 : (Γ q0.2).length = σ.length := e1.symm
        have e3 := sa.len
        -- all contexts have the slots' number
        rw [hul, wipeC_len] at e3
        have e4 : σ2.length = σ.length := by
          have i1 : ∀ i, i ∉ own.map (·.2) → σ2[i]? = σ[i]? := hσ
          refine Nat.le_antisymm ?_ ?_
          · refine Nat.le_of_not_lt fun h => ?_
            by_cases hm : σ.length ∈ own.map (·.2)
            · have := hz q0.2 _ hm
              rw [List.getElem?_eq_none (by omega)] at this
              cases this
            · have := i1 σ.length hm
              rw [List.getElem?_eq_getElem h, List.getElem?_eq_none (Nat.le_refl _)] at this
              cases this
          · refine Nat.le_of_not_lt fun h => ?_
            by_cases hm : σ2.length ∈ own.map (·.2)
            · have := hz s _ hm
              rw [List.getElem?_eq_none (by omega)] at this
              cases this
            · have := i1 σ2.length hm
              rw [List.getElem?_eq_getElem h, List.getElem?_eq_none (Nat.le_refl _)] at this
              cases this
        omega
      exact l1
    refine ⟨fun i m H => m = q0.1.length - i ∧ i ≤ q0.1.length ∧ ∃ (W1 : Wd) (Fs : List Addr) (s : τ) (acc : List V) (as : List β) (bs : List β × τ) (Fa : List Addr), W1.H = H ∧ Stp W F W1 (Fs ++ (D :: Fa)) ∧ Ex W'.B W1.B ∧ Sta (Γ s) σ W1 Fs ∧ W1.H D = some (.lst acc) ∧ as.length ≤ i ∧
      compGoE mt me (q0.1.drop i) s = some bs ∧ (as ++ bs.1, bs.2) = ys ∧ Owns R W1 acc as Fa ∧ FpOk W1 (Fs ++ (D :: Fa)),
      ⟨q0.1.length, by simp, Nat.zero_le _, ⟨upd W'.H D (.lst []), W'.B⟩, Fi, q0.2, [], [], ys, [], rfl, ?_, Ex.refl _, sai.ext (Ext.new sai.ok hD), upd_same, Nat.le_refl _, by simpa using h2, rfl, rfl, ?_⟩, ?_⟩
    · refine stp0.trans ((Ext.new (o := .lst []) sai.ok hD).stp fun a ha => ?_)
      rw [List.mem_singleton.mp ha]
      exact hD
    · exact sai.fp.fresh (Ext.new (o := .lst []) sai.ok hD) (fp_one (sai.ok.back hD)) fun a ha => by rw [List.mem_singleton.mp ha]; exact hD
    rintro i m H ⟨rfl, hi', W1, Fs, s1, acc, as, bs, Fa, rfl, stp1, eb1, sa1, d1, la, c1, c2, o1, f1⟩
    obtain ⟨iok1, iok2⟩ := iok W1 ⟨sa1.ok, eb1⟩
    by_cases hlt : i < q0.1.length
    · obtain ⟨g1, g2⟩ := iok1 i q0.1[i] (List.getElem?_eq_getElem hlt)
      refine .inr ⟨g1, fun H' => ∃ m', m' < q0.1.length - i ∧ (m' = q0.1.length - (i + 1) ∧ i + 1 ≤ q0.1.length ∧ ∃ (W1 : Wd) (Fs : List Addr) (s : τ) (acc : List V) (as : List β) (bs : List β × τ) (Fa : List Addr), W1.H = H' ∧ Stp W F W1 (Fs ++ (D :: Fa)) ∧ Ex W'.B W1.B ∧ Sta (Γ s) σ W1 Fs ∧ W1.H D = some (.lst acc) ∧ as.length ≤ i + 1 ∧
        compGoE mt me (q0.1.drop (i + 1)) s = some bs ∧ (as ++ bs.1, bs.2) = ys ∧ Owns R W1 acc as Fa ∧ FpOk W1 (Fs ++ (D :: Fa))), fun H' h => h, fun v H' y => ?_⟩
      obtain ⟨W2, rfl, e2, p2⟩ := g2 v H' y
      have hDrop : q0.1.drop i = q0.1[i] :: q0.1.drop (i + 1) := List.drop_eq_getElem_cons hlt
      rw [hDrop] at c1
      obtain ⟨b, t1, t2⟩ := run1 (f := fun b : Bool × τ => bif b.1 then (me q0.1[i] b.2).bind fun y => (compGoE mt me (q0.1.drop (i + 1)) y.2).bind fun r => some (y.1 :: r.1, r.2) else compGoE mt me (q0.1.drop (i + 1)) b.2) c1
      obtain ⟨Fw, sw, subw⟩ := (sa1.ext e2).wipe (own.map (·.2))
      refine hg _ _ W2 Fw q0.1[i] v sw (fun j hj => by rw [wipeC_len]; exact hl s1 j hj) p2 _ fun σ2 F2 wp _ s2 sub2 => ?_
      have hσ : ∀ i, i ∉ own.map (·.2) → σ2[i]? = σ[i]? := fun i hn => by
        have e := wp _ hw
        have e1 : (wipe σ2 (own.map (·.2)))[i]? = (wipe (wipe σ (own.map (·.2))) (own.map (·.2)))[i]? := by rw [e]
        rw [wipe_out hn, wipe_out hn, wipe_out hn] at e1
        exact e1
      refine ⟨by rw [wp _ hw]; exact jc_of.wipe_wipe σ (own.map (·.2)), ?_⟩
      have sub12 : ∀ a ∈ F2, a ∈ Fs := fun a ha => subw a (sub2 a ha)
      refine ht q0.1[i] s1 σ2 W2 F2 s2 b t1 _ fun W3 F3 stp3 sa3 => ?_
      -- what is owned beside the block stays
      have keep3 : ∀ a, a ∈ D :: Fa → W3.H a = W1.H a := fun a ha => by
        have n1 : a ∉ Fs := fun z => f1.disj a z ha
        have al := f1.al a (List.mem_append_right _ ha)
        have h2 := e2.h.eq al
        cases q : W2.H a with
        | none => rw [h2] at q; exact absurd q al
        | some o => rw [stp3.h a o q fun z => n1 (sub12 a z), ← q, h2]
      have fr3 : ∀ a, a ∈ D :: Fa → W3.B a = none := fun a ha => by
        have n1 : a ∉ Fs := fun z => f1.disj a z ha
        have al := f1.al a (List.mem_append_right _ ha)
        exact stp3.fr a (e2.h.ne al) (e2.fr a al (f1.fr a (List.mem_append_right _ ha))) fun z => n1 (sub12 a z)
      have al3 : ∀ a, a ∈ D :: Fa → W3.H a ≠ none := fun a ha => by rw [keep3 a ha]; exact f1.al a (List.mem_append_right _ ha)
      have stp13 : Stp W1 Fs W3 F3 := (((e2.stp0 (F := Fs)).perm sub12).trans stp3)
      have stpT : ∀ {W4 : Wd} {F4 G : List Addr}, Stp W1 Fs W4 (F4 ++ G) → Stp W1 (Fs ++ (D :: Fa)) W4 (F4 ++ ((D :: Fa) ++ G)) := fun {W4 F4 G} st => by
        refine ⟨st.ok, st.b, fun a o h n => st.h a o h fun z => n (List.mem_append_left _ z), st.al, fun a h1 h2 n => st.fr a h1 h2 fun z => n (List.mem_append_left _ z), fun a ha => ?_⟩
        rcases List.mem_append.mp ha with z | z
        · exact (st.fp a (List.mem_append_left _ z)).imp (fun w => List.mem_append_left _ w) id
        · rcases List.mem_append.mp z with z | z
          · exact .inl (List.mem_append_right _ z)
          · exact (st.fp a (List.mem_append_right _ z)).imp (fun w => List.mem_append_left _ w) id
      obtain ⟨b1, b2⟩ := b
      cases b1 with
      | true =>
        obtain ⟨y1, t3, t4⟩ := run1 (f := fun y : β × τ => (compGoE mt me (q0.1.drop (i + 1)) y.2).bind fun r => some (y.1 :: r.1, r.2)) t2
        obtain ⟨r1, t5, t6⟩ := run1 (f := fun r : List β × τ => some (y1.1 :: r.1, r.2)) t4
        cases t6
        refine iteT (he q0.1[i] b2 σ2 W3 F3 sa3 y1 t3 _ fun u W4 F4 Fu stp4 sa4 fp4 r4 => ?_)
        obtain ⟨F5, sa5, sub5⟩ := back hσ sa4
        have stp14 : Stp W1 Fs W4 (F4 ++ Fu) := stp13.trans stp4
        have keep4 : ∀ a, a ∈ D :: Fa → W4.H a = W1.H a := fun a ha => by
          have n1 : a ∉ Fs := fun z => f1.disj a z ha
          have al := f1.al a (List.mem_append_right _ ha)
          cases q : W1.H a with
          | none => exact absurd q al
          | some o => exact stp14.h a o q n1
        have fr4 : ∀ a, a ∈ D :: Fa → W4.B a = none := fun a ha => by
          have n1 : a ∉ Fs := fun z => f1.disj a z ha
          exact stp14.fr a (f1.al a (List.mem_append_right _ ha)) (f1.fr a (List.mem_append_right _ ha)) n1
        have hD4 : W4.H D = some (.lst acc) := (keep4 D List.mem_cons_self).trans d1
        have ha4 : acc.length < LIM := by
          have := o1.len
          omega
        have nd1 := List.nodup_cons.mp f1.right.nd
        have apart : ∀ a ∈ F4 ++ Fu, a ∉ D :: Fa := fun a ha z => by
          rcases stp14.fp a ha with w | w
          · exact f1.disj a w z
          · exact f1.al a (List.mem_append_right _ z) w
        have nD : ∀ a ∈ Fa ++ Fu, a ≠ D := fun a ha z => by
          rcases List.mem_append.mp ha with h | h
          · exact nd1.1 (z ▸ h)
          · exact apart a (List.mem_append_right _ h) (z ▸ List.mem_cons_self)
        have nD5 : ∀ a ∈ F5, a ≠ D := fun a ha z => apart a (List.mem_append_left _ (sub5 a ha)) (z ▸ List.mem_cons_self)
        have A1 : Owns R W4 acc as Fa := o1.loc stp14.b fun a ha => keep4 a (List.mem_cons_of_mem _ ha)
        have A3 : Owns R W4 (acc ++ [u]) (as ++ [y1.1]) (Fa ++ Fu) := A1.app ⟨Fu, [], (List.append_nil _).symm, r4, rfl⟩
        have fA : FpOk W4 (F5 ++ ((D :: Fa) ++ Fu)) := by
          have x1 : FpOk W4 (D :: Fa) := ⟨f1.right.nd, fun a ha => by rw [keep4 a ha]; exact f1.al a (List.mem_append_right _ ha), fr4⟩
          have x2 : FpOk W4 ((D :: Fa) ++ Fu) := x1.app fp4.right fun a ha z => apart a (List.mem_append_right _ z) ha
          refine sa5.fp.app x2 fun a ha z => ?_
          rcases List.mem_append.mp z with z | z
          · exact apart a (List.mem_append_left _ (sub5 a ha)) z
          · exact fp4.disj a (sub5 a ha) z
        have hBD : W4.B D = none := fr4 D List.mem_cons_self
        refine ⟨acc, hD4, lim_lt ha4, q0.1.length - (i + 1), by omega, rfl, hlt, ⟨upd W4.H D (.lst (acc ++ [u])), W4.B⟩, F5, y1.2, acc ++ [u], as ++ [y1.1], r1, Fa ++ Fu, rfl, ?_, eb1.trans stp14.b, ?_, upd_same, ?_, t5, ?_, ?_, ?_⟩
        · have z1 : Stp W F W4 (F4 ++ ((D :: Fa) ++ Fu)) := stp1.trans (stpT stp14)
          have z2 : Stp W F W4 (F5 ++ ((D :: Fa) ++ Fu)) := z1.perm fun a ha => by
            rcases List.mem_append.mp ha with h | h
            · exact List.mem_append_left _ (sub5 a h)
            · exact List.mem_append_right _ h
          refine z2.trans ⟨wr_ok sa5.ok hBD, Ex.refl _, fun a o h n => ?_, wr_al, fun a _ h2 _ => h2, fun a ha => .inl ha⟩
          show upd W4.H D _ a = some o
          rw [upd_ne fun z => n (by rw [z]; simp)]
          exact h
        · refine ⟨wr_ok sa5.ok hBD, ⟨sa5.fp.nd, fun a ha => wr_al a (sa5.fp.al a ha), sa5.fp.fr⟩, sa5.len, Holds.loc (W := W4) (W' := ⟨upd W4.H D (.lst (acc ++ [u])), W4.B⟩) (fun _ _ h => h) sa5.hold fun a ha => ?_⟩
          show upd W4.H D _ a = W4.H a
          exact upd_ne (nD5 a ha)
        · rw [List.length_append, List.length_singleton]
          omega
        · rw [← c2]
          simp
        · exact Owns.loc (W := W4) (W' := ⟨upd W4.H D (.lst (acc ++ [u])), W4.B⟩) (fun _ _ h => h) A3 fun a ha => by
            show upd W4.H D (.lst (acc ++ [u])) a = W4.H a
            exact upd_ne (nD a ha)
        · exact ⟨fA.nd, fun a ha => wr_al a (fA.al a ha), fA.fr⟩
      | false =>
        obtain ⟨F5, sa5, sub5⟩ := back hσ sa3
        have stp14 : Stp W1 Fs W3 (F3 ++ []) := by rw [List.append_nil]; exact stp13
        refine iteF ⟨q0.1.length - (i + 1), by omega, rfl, hlt, W3, F5, b2, acc, as, bs, Fa, rfl, ?_, eb1.trans stp13.b, sa5, (keep3 D List.mem_cons_self).trans d1, by omega, t2, c2, o1.loc stp13.b fun a ha => keep3 a (List.mem_cons_of_mem _ ha), ?_⟩
        · have z1 := stp1.trans (stpT stp14)
          rw [List.append_nil] at z1
          exact z1.perm fun a ha => by
            rcases List.mem_append.mp ha with h | h
            · exact List.mem_append_left _ (sub5 a h)
            · exact List.mem_append_right _ h
        · refine sa5.fp.app ⟨f1.right.nd, al3, fr3⟩ fun a ha z => ?_
          rcases stp13.fp a (sub5 a ha) with w | w
          · exact f1.disj a w z
          · exact f1.al a (List.mem_append_right _ z) w
    · have ei : i = q0.1.length := by omega
      subst ei
      rw [List.drop_length] at c1
      cases c1
      rw [List.append_nil] at c2
      subst c2
      exact .inl ⟨iok2 _ (Nat.le_refl _), k (.ref D) W1 Fs (D :: Fa) stp1 sa1 f1 ⟨D, acc, Fa, rfl, d1, rfl, o1⟩⟩
  · cases h2
/-- what a target changes -/
theorem up1 {E : α → SP} (i : Nat) : ∀ (x : α) (Γ : Ctx) (j : Nat), j ∉ [i] → (Γ.set i (some (sh (E x))))[j]? = Γ[j]? := fun x Γ j h => List.getElem?_set_ne fun z => h (by simp [z])
theorem up1l {E : α → SP} (i : Nat) : ∀ (x : α) (Γ : Ctx), (Γ.set i (some (sh (E x)))).length = Γ.length := fun x Γ => List.length_set
theorem up2 {E : α → SP} {G : β → SP} (i k : Nat) : ∀ (x : α × β) (Γ : Ctx) (j : Nat), j ∉ [i, k] → ((Γ.set i (some (sh (E x.1)))).set k (some (sh (G x.2))))[j]? = Γ[j]? := fun x Γ j h => by
  rw [List.getElem?_set_ne fun z => h (by simp [z]), List.getElem?_set_ne fun z => h (by simp [z])]
theorem up2l {E : α → SP} {G : β → SP} (i k : Nat) : ∀ (x : α × β) (Γ : Ctx), ((Γ.set i (some (sh (E x.1)))).set k (some (sh (G x.2)))).length = Γ.length := fun x Γ => by rw [List.length_set, List.length_set]
/-- without tests -/
theorem JC.cong {scope : Scope} {Γ : Ctx} {m m' : Option α} {R : α → OP} (h : JC S elt tg iter ifs scope Γ m R) (q : m = m') : JC S elt tg iter ifs scope Γ m' R := q ▸ h
theorem JCE.cong {scope : Scope} {m m' : Option (α × τ)} {R : α → OP} (h : JCE S elt tg iter ifs scope Γ s m R) (q : m = m') : JCE S elt tg iter ifs scope Γ s m' R := q ▸ h
theorem jc_map {scope : Scope} {Γ : Ctx} {mi : Option (List α)} {E : α → SP} {up : α → Ctx → Ctx} {ws : List Nat} {me : α → Option β} {R : β → OP} (own : List (Str × Nat)) (hi : JIc S tg iter Γ mi E) (ok : blkC S.N S.sc scope own = true) (hg : JG (S.blk scope) tg E up ws)
    (hw : ∀ i ∈ ws, i ∈ own.map (·.2)) (hl : ∀ i ∈ ws, i < Γ.length) (he : ∀ x, JN (S.blk scope) elt (up x (wipeC Γ (own.map (·.2)))) (me x) R) : JC S elt tg iter [] scope Γ (mi.bind fun xs => mapM me xs) fun ys => lstO R ys :=
  (jc_of own hi ok hg hw hl (fun _ => jts_nil) he).cong (by simp only [mapM_eq])
theorem jce_map {scope : Scope} {mi : Option (List α × τ)} {E : α → SP} {up : α → Ctx → Ctx} {ws : List Nat} {me : α → τ → Option (β × τ)} {R : β → OP} (own : List (Str × Nat)) (hi : JIE S tg iter Γ s mi E) (ok : blkC S.N S.sc scope own = true) (hg : JG (S.blk scope) tg E up ws)
    (hw : ∀ i ∈ ws, i ∈ own.map (·.2)) (hl : ∀ s, ∀ i ∈ ws, i < (Γ s).length) (hu : ∀ x Γ i, i ∉ ws → (up x Γ)[i]? = Γ[i]?) (hul : ∀ x Γ, (up x Γ).length = Γ.length) (hz : ∀ s, ∀ i ∈ own.map (·.2), (Γ s)[i]? = some none)
    (he : ∀ x s, JE (S.blk scope) elt (fun s => up x (wipeC (Γ s) (own.map (·.2)))) s (me x s) R) : JCE S elt tg iter [] scope Γ s (mi.bind fun q => mapME me q.1 q.2) fun ys => lstO R ys :=
  (jce_of own hi ok hg hw hl hu hul hz (fun _ _ => jtse_nil) he).cong (by simp only [mapME_eq])
end
end CC
set_option maxHeartbeats 4000000
/-! Further rules: keywords, moves, sorting, isinstance. -/
namespace CC
open PySem PySem.Spec L2
open PyProof.Rows hiding St
variable {α β γ δ τ ω ρ υ : Type}
/-! ### what is reckoned -/
def maskC : List Bool → Ctx → Ctx
  | b :: bs, e :: Γ => (if b then e else none) :: maskC bs Γ
  | _, Γ => Γ.map fun _ => none
theorem weak_none : ∀ Γ : Ctx, Weak Γ (Γ.map fun _ => none)
  | [] => .nil
  | _ :: Γ => .drop (weak_none Γ)
theorem weak_mask : ∀ (bs : List Bool) (Γ : Ctx), Weak Γ (maskC bs Γ)
  | [], [] => .nil
  | [], e :: Γ => .drop (weak_none Γ)
  | _ :: _, [] => .nil
  | true :: bs, e :: Γ => .same (weak_mask bs Γ)
  | false :: bs, e :: Γ => .drop (weak_mask bs Γ)
theorem all_lt {ws : List Nat} {Γ : Ctx} (h : (ws.all fun i => (Γ[i]?).isSome) = true) : ∀ i ∈ ws, i < Γ.length := fun i hi => by
  have := List.all_eq_true.mp h i hi
  cases q : Γ[i]? with
  | none => rw [q] at this; cases this
  | some o => exact (List.getElem?_eq_some_iff.mp q).1
def isNon : Option (Option OP) → Bool
  | some none => true
  | _ => false
theorem all_non {ws : List Nat} {Γ : Ctx} (h : (ws.all fun i => isNon Γ[i]?) = true) : ∀ i ∈ ws, Γ[i]? = some none := fun i hi => by
  have := List.all_eq_true.mp h i hi
  cases q : Γ[i]? with
  | none => rw [q] at this; cases this
  | some o =>
    rw [q] at this
    cases o with
    | none => rfl
    | some o => cases this
/-! ### sorting -/
def ins (le : α → α → Bool) (x : α) : List α → List α
  | [] => [x]
  | y :: ys => if le x y then x :: y :: ys else y :: ins le x ys
def isort (le : α → α → Bool) : List α → List α
  | [] => []
  | x :: xs => ins le x (isort le xs)
theorem ins_perm (le : α → α → Bool) (x : α) : ∀ ys : List α, (ins le x ys).Perm (x :: ys)
  | [] => .refl _
  | y :: ys => by
    show (if le x y then x :: y :: ys else y :: ins le x ys).Perm _
    split
    · exact .refl _
    · exact (List.Perm.cons y (ins_perm le x ys)).trans (.swap x y ys)
theorem isort_perm (le : α → α → Bool) : ∀ xs : List α, (isort le xs).Perm xs
  | [] => .refl _
  | x :: xs => (ins_perm le x _).trans (.cons x (isort_perm le xs))
theorem ins_srt {le : α → α → Bool} (tot : ∀ a b, le a b = true ∨ le b a = true) (tr : ∀ a b c, le a b = true → le b c = true → le a c = true) (x : α) : ∀ ys : List α, ys.Pairwise (fun a b => le a b = true) → (ins le x ys).Pairwise fun a b => le a b = true
  | [], _ => by simp [ins]
  | y :: ys, h => by
    obtain ⟨h1, h2⟩ := List.pairwise_cons.mp h
    show (if le x y then x :: y :: ys else y :: ins le x ys).Pairwise _
    split
    · rename_i hle
      refine List.pairwise_cons.mpr ⟨fun z hz => ?_, h⟩
      rcases List.mem_cons.mp hz with e | hz
      · rw [e]; exact hle
      · exact tr x y z hle (h1 z hz)
    · rename_i hle
      refine List.pairwise_cons.mpr ⟨fun z hz => ?_, ins_srt tot tr x ys h2⟩
      rcases List.mem_cons.mp ((ins_perm le x ys).mem_iff.mp hz) with e | hz
      · rw [e]; exact (tot x y).resolve_left hle
      · exact h1 z hz
theorem isort_srt {le : α → α → Bool} (tot : ∀ a b, le a b = true ∨ le b a = true) (tr : ∀ a b c, le a b = true → le b c = true → le a c = true) : ∀ xs : List α, (isort le xs).Pairwise fun a b => le a b = true
  | [] => .nil
  | x :: xs => ins_srt tot tr x _ (isort_srt tot tr xs)
/-- two sorted lists of the same things are one -/
theorem srt_uniq {le : α → α → Bool} (an : ∀ a b, le a b = true → le b a = true → a = b) : ∀ {xs ys : List α}, xs.Pairwise (fun a b => le a b = true) → ys.Pairwise (fun a b => le a b = true) → xs.Perm ys → xs = ys
  | [], ys, _, _, p => (List.Perm.nil_eq p)
  | x :: xs, [], _, _, p => by have := p.length_eq; simp at this
  | x :: xs, y :: ys, h, k, p => by
    obtain ⟨h1, h2⟩ := List.pairwise_cons.mp h
    obtain ⟨k1, k2⟩ := List.pairwise_cons.mp k
    have e : x = y := by
      rcases List.mem_cons.mp (p.mem_iff.mp List.mem_cons_self) with e | m1
      · exact e
      rcases List.mem_cons.mp (p.mem_iff.mpr List.mem_cons_self) with e | m2
      · exact e.symm
      exact an x y (h1 y m2) (k1 x m1)
    subst e
    rw [srt_uniq an h2 k2 (List.Perm.cons_inv p)]
def leI (a b : Int) : Bool := decide (a ≤ b)
def leP (a b : Int × Int) : Bool := decide (a.1 < b.1) || (decide (a.1 = b.1) && decide (a.2 ≤ b.2))
theorem leP_iff {a b : Int × Int} : leP a b = true ↔ a.1 < b.1 ∨ (a.1 = b.1 ∧ a.2 ≤ b.2) := by
  unfold leP
  simp
theorem leP_tot (a b : Int × Int) : leP a b = true ∨ leP b a = true := by rw [leP_iff, leP_iff]; omega
theorem leP_tr (a b c : Int × Int) (h : leP a b = true) (k : leP b c = true) : leP a c = true := by rw [leP_iff] at *; omega
theorem leP_an (a b : Int × Int) (h : leP a b = true) (k : leP b a = true) : a = b := by
  rw [leP_iff] at *
  obtain ⟨a1, a2⟩ := a
  obtain ⟨b1, b2⟩ := b
  simp only at h k
  have e1 : a1 = b1 := by omega
  have e2 : a2 = b2 := by omega
  rw [e1, e2]
theorem leI_tot (a b : Int) : leI a b = true ∨ leI b a = true := by unfold leI; simp; omega
theorem leI_tr (a b c : Int) (h : leI a b = true) (k : leI b c = true) : leI a c = true := by unfold leI at *; simp at *; omega
theorem leI_an (a b : Int) (h : leI a b = true) (k : leI b a = true) : a = b := by unfold leI at *; simp at *; omega
def sortP (xs : List (Int × Int)) : List (Int × Int) := isort leP xs
def sortI (xs : List Int) : List Int := isort leI xs
section
variable {S : Stc} {Γ Δ : Ctx} {a b c e tg iter elt : Expr} {es ifs : List Expr} {pos : Pos} {st : Stmt} {rest A B : List Stmt}
/-- an owned slot is handed back, or moved -/
theorem sta_take {σ : L2.St} {W : Wd} {F : List Addr} {i : Nat} {o : OP} (sta : Sta Γ σ W F) (hi : Γ[i]? = some (some o)) : ∃ v F1 F2, σ[i]? = some (some v) ∧ o.C W v F1 ∧ F.Perm (F2 ++ F1) ∧ Sta (Γ.set i none) σ W F2 := by
  have go : ∀ {Γ : Ctx} {σ : L2.St} {F : List Addr} {i : Nat}, Holds Γ σ W F → Γ[i]? = some (some o) → ∃ v F1 F2, σ[i]? = some (some v) ∧ o.C W v F1 ∧ F.Perm (F2 ++ F1) ∧ Holds (Γ.set i none) σ W F2 := by
    intro Γ
    induction Γ with
    | nil => intro σ F i h e; simp at e
    | cons g Γ ih =>
      intro σ F i h e
      cases i with
      | zero =>
        have : g = some o := by simpa using e
        subst this
        obtain ⟨v, F1, F2, h1, h2, h3, h4⟩ := h
        refine ⟨v, F1, F2, ?_, h3, by subst h2; exact List.perm_append_comm, h4⟩
        rw [← List.head?_eq_getElem?]
        exact h1
      | succ i =>
        cases g with
        | none =>
          obtain ⟨v, F1, F2, a1, a2, a3, a4⟩ := ih (σ := σ.tail) (i := i) h (by simpa using e)
          rw [List.getElem?_tail] at a1
          exact ⟨v, F1, F2, a1, a2, a3, a4⟩
        | some p =>
          obtain ⟨u, G1, G2, h1, h2, h3, h4⟩ := h
          obtain ⟨v, F1, F2, a1, a2, a3, a4⟩ := ih (σ := σ.tail) (i := i) h4 (by simpa using e)
          rw [List.getElem?_tail] at a1
          subst h2
          refine ⟨v, F1, G1 ++ F2, a1, a2, ?_, u, G1, F2, h1, rfl, h3, a4⟩
          rw [List.append_assoc]
          exact List.Perm.append_left G1 a3
  obtain ⟨v, F1, F2, a1, a2, a3, a4⟩ := go sta.hold hi
  exact ⟨v, F1, F2, a1, a2, a3, sta.ok, (sta.fp.perm a3).left, by rw [List.length_set]; exact sta.len, a4⟩
theorem jb_retO {x : Str} {p0 : Pos} {R : α → OP} {a : α} (i : Nat) (w : Weak (Γ.set i none) Δ) (hi : Γ[i]? = some (some (R a)) := by rfl) (hN : S.N[i]? = some x := by rfl) (hv : Vis S.sc x := by first | exact Or.inl rfl | exact Or.inr (Or.inl rfl) | exact Or.inr (Or.inr rfl))
    (hd : (x == ("__debug__" : Str)) = false := by decide) (hcd : (x == ("__classdict__" : Str)) = false := by decide) : JB S (.Return (some (.Name x p0)) pos :: rest) Γ (some a) fun r => .rt Δ (R r) := fun σ W F sta y hy E k => by
  cases hy
  obtain ⟨v, F1, F2, h1, h2, h3, h4⟩ := sta_take sta hi
  obtain ⟨F', s', sub⟩ := h4.weak w
  have fp := sta.fp.perm h3
  refine ⟨tSeq (tRet (tVar i)) tNever, fun X hX => pss_cons (ps_ret (pe_var (by rw [hX.N]; exact hN) (visS hv hX) hd hcd)) pss_never, v, h1, ?_⟩
  refine k v σ W F' F1 Keep.refl ((Stp.refl sta.ok).perm fun a ha => ?_) s' (s'.fp.app fp.right fun a ha => fp.disj a (sub a ha)) h2
  rcases List.mem_append.mp ha with h | h
  · exact h3.mem_iff.mpr (List.mem_append_left _ (sub a h))
  · exact h3.mem_iff.mpr (List.mem_append_right _ h)
/-- the same beside a state -/
theorem jb_retOS {x : Str} {p0 : Pos} {R : α → OP} {a : α} {s : τ} {Δ : τ → Ctx} (i : Nat) (w : Weak (Γ.set i none) (Δ s)) (hi : Γ[i]? = some (some (R a)) := by rfl) (hN : S.N[i]? = some x := by rfl) (hv : Vis S.sc x := by first | exact Or.inl rfl | exact Or.inr (Or.inl rfl) | exact Or.inr (Or.inr rfl))
    (hd : (x == ("__debug__" : Str)) = false := by decide) (hcd : (x == ("__classdict__" : Str)) = false := by decide) : JB S (.Return (some (.Name x p0)) pos :: rest) Γ (some (a, s)) fun q => .rt (Δ q.2) (R q.1) := fun σ W F sta y hy E k => by
  cases hy
  obtain ⟨v, F1, F2, h1, h2, h3, h4⟩ := sta_take sta hi
  obtain ⟨F', s', sub⟩ := h4.weak w
  have fp := sta.fp.perm h3
  refine ⟨tSeq (tRet (tVar i)) tNever, fun X hX => pss_cons (ps_ret (pe_var (by rw [hX.N]; exact hN) (visS hv hX) hd hcd)) pss_never, v, h1, ?_⟩
  refine k v σ W F' F1 Keep.refl ((Stp.refl sta.ok).perm fun a ha => ?_) s' (s'.fp.app fp.right fun a ha => fp.disj a (sub a ha)) h2
  rcases List.mem_append.mp ha with h | h
  · exact h3.mem_iff.mpr (List.mem_append_left _ (sub a h))
  · exact h3.mem_iff.mpr (List.mem_append_right _ h)
/-- a pure expression handed back beside a state -/
theorem jb_retS {m : Option α} {s : τ} {R : α → OP} {Δ : τ → Ctx} (w : Weak Γ (Δ s)) (h : JN S e Γ m R) : JB S (.Return (some e) pos :: rest) Γ (m.bind fun x => some (x, s)) fun q => .rt (Δ q.2) (R q.1) := fun σ W F sta z hz E k => by
  obtain ⟨x, h1, h2⟩ := run1 hz
  cases h2
  exact jb_ret (rest := rest) (pos := pos) w h σ W F sta x h1 E k
/-- y = x, what x owned is y's now -/
theorem js_move {x y : Str} {p0 p1 : Pos} {o : OP} (i j : Nat) (nd : S.N.Nodup) (hj : Γ[j]? = some (some o) := by rfl) (hi : (Γ[i]?).isSome = true := by rfl) (hNj : S.N[j]? = some y := by rfl) (hN : S.N[i]? = some x := by rfl) (hv : Vis S.sc y := by first | exact Or.inl rfl | exact Or.inr (Or.inl rfl) | exact Or.inr (Or.inr rfl)) (hx : Loc S.sc x := by first | exact Or.inl rfl | exact Or.inr rfl)
    (hp : (S.prot.contains i) = false := by rfl) (hd : (y == ("__debug__" : Str)) = false := by decide) (hcd : (y == ("__classdict__" : Str)) = false := by decide) (hs : ∀ env, swapsWith (.Name y p1) (some (.Name x p0)) pos.line env = pure false := by intro _; rfl) (hf : S.fn x = true ∨ S.sc.names.lookup x = some .local := by first | exact .inl rfl | exact .inr rfl) :
    JS S (.Assign [.Name x p0] (.Name y p1) pos) Γ (some ()) fun _ => .nx ((Γ.set j none).set i (some o)) := fun σ W F sta z hz E k => by
  obtain ⟨v, F1, F2, h1, h2, h3, h4⟩ := sta_take sta hj
  have hl : i < (Γ.set j none).length := by
    rw [List.length_set]
    cases h : Γ[i]? with
    | none => rw [h] at hi; cases hi
    | some o => exact (List.getElem?_eq_some_iff.mp h).1
  obtain ⟨F', s', sub⟩ := h4.put hl h2 (sta.fp.perm h3)
  refine ⟨tAsg (tVar j) (gName i), fun X hX => ps_set (by rw [hX.N]; exact nd) (by rw [hX.N]; exact hN) (locS hx hX) (pe_var (by rw [hX.N]; exact hNj) (visS hv hX) hd hcd) (hs _) (by rw [hX.fn, hX.sc]; exact hf), v, h1, ?_⟩
  exact k _ W F' (Keep.set fun z => by rw [List.contains_iff_mem.mpr z] at hp; cases hp) ((Stp.refl sta.ok).perm fun a ha => h3.mem_iff.mpr (sub a ha)) s'
/-! ### xs[::-1], xs + ys -/
theorem jn_revL {E : α → SP} {m : Option (List α)} {k : Nat} {p1 p2 p3 : Pos} (h : JR S a Γ m (lstO fun x => sh (E x))) : JN S (.Subscript a (.Slice none none (some (.UnaryOp .USub (.Constant (.int 1) k p1) p2)) p3) pos) Γ (m.bind fun xs => some xs.reverse) (lstO fun x => sh (E x)) := fun σ W F sta z hz Q kq => by
  obtain ⟨x, h1, h2⟩ := run1 hz
  cases h2
  refine ⟨tRevL S.K (tOf S a), fun X hX => hX.K ▸ pe_revL (peO hX), h σ W F sta x h1 _ fun v W' ext ⟨F1, r, al⟩ => ?_⟩
  obtain ⟨p, vs, F2, rfl, q2, rfl, q3⟩ := r
  obtain ⟨_, q4⟩ := q3.each
  exact ⟨p, vs, rfl, .inl (.inl q2), (kq.ext ext).newL ext.ok q4.rev⟩
theorem jn_revS {E : α → SP} {m : Option (List α)} {k : Nat} {p1 p2 p3 : Pos} (h : JN S a Γ m fun x => sh (lstS E x)) : JN S (.Subscript a (.Slice none none (some (.UnaryOp .USub (.Constant (.int 1) k p1) p2)) p3) pos) Γ (m.bind fun xs => some xs.reverse) (lstO fun x => sh (E x)) := fun σ W F sta z hz Q kq => by
  obtain ⟨x, h1, h2⟩ := run1 hz
  cases h2
  refine ⟨tRevL S.K (tOf S a), fun X hX => hX.K ▸ pe_revL (peO hX), h σ W F sta x h1 _ fun v W' Fv ext _ _ r => ?_⟩
  obtain ⟨_, p, vs, rfl, q2, q3⟩ := r
  exact ⟨p, vs, rfl, .inl (.inl (ext.ok p _ q2)), (kq.ext ext).newL ext.ok q3.rev⟩
def catM (xs ys : List α) : Option (List α) := if xs.length + ys.length ≤ LIM then some (xs ++ ys) else none
theorem ov_cat {E : α → SP} : OpV rCat (lstS E) (lstS E) catM (lstO fun x => sh (E x)) := fun W x y v u z ok hx hy e Q k => by
  unfold catM at e
  split at e
  · rename_i hl
    cases e
    obtain ⟨a, vs, rfl, a2, a3⟩ := hx
    obtain ⟨b, us, rfl, b2, b3⟩ := hy
    exact ⟨a, b, vs, us, rfl, rfl, ok a _ a2, ok b _ b2, lim_le (by rw [a3.len, b3.len]; exact hl), k.newL ok (a3.app b3)⟩
  · cases e
theorem oCat : ∀ X, S.In X → OpR X (binaryOp .Add) rCat := fun _ _ => op_cat
/-! ### isinstance -/
class HasTy (E : α → SP) (n : outParam String) : Prop where
  ty : ∀ K x B H v, Ex B H → (E x).P B v → TyX K H v (.type n)
instance : HasTy intS "int" := ⟨fun K x B H v _ h => by cases h; exact .base (.int x)⟩
instance : HasTy boolS "bool" := ⟨fun K x B H v _ h => by cases h; exact .base (.bl x)⟩
instance : HasTy strS "str" := ⟨fun K x B H v _ h => by cases h; exact .base (.str x)⟩
instance : HasTy (fun _ : Unit => nonS) "NoneType" := ⟨fun K x B H v _ h => by cases h; exact .base .non⟩
instance {E : α → SP} : HasTy (lstS E) "list" := ⟨fun K x B H v e h => by obtain ⟨a, vs, rfl, h2, _⟩ := h; exact .base (.lst (e a _ h2))⟩
instance {E : α → SP} : HasTy (tupS E) "tuple" := ⟨fun K x B H v e h => by obtain ⟨a, vs, rfl, h2, _⟩ := h; exact .base (.tup (e a _ h2))⟩
instance {E : α → SP} {G : β → SP} : HasTy (prS E G) "tuple" := ⟨fun K x B H v e h => by obtain ⟨a, vs, rfl, h2, _⟩ := h; exact .base (.tup (e a _ h2))⟩
theorem jn_ty {x : Str} {n : String} (hm : S.mg x = none) (hg : GlS S x := by rfl) (hv : bootBuiltins x = some (.type n) := by decide +kernel) (hn : x ≠ "__name__" := by decide) (hdb : (x == ("__debug__" : Str)) = false := by decide) : JN S (.Name x pos) Γ (some ()) fun _ => sh (valS (.ty n)) :=
  jn_c (E := fun _ : Unit => valS (.ty n)) (fun X hX => pe_bltn (v := .ty n) (hg.gl hX) (mgS hm hX) hv rfl hn hdb) fun _ => rfl
theorem jn_isi {p pc : Pos} {c : Str} {E : α → SP} {n cn : String} [ht : HasTy E n] {m : Option α} (bb : Bool) (hm : S.mg "isinstance" = none) (hmc : S.mg c = none) (h : JN S a Γ m fun x => sh (E x)) (hk : kitB n cn = some bb := by decide +kernel) (hg : GlS S "isinstance" := by rfl) (hgc : GlS S c := by rfl) (hvc : bootBuiltins c = some (.type cn) := by decide +kernel) (hn : c ≠ "__name__" := by decide) (hdb : (c == ("__debug__" : Str)) = false := by decide)
    (hs : ∀ env, starEach [a, .Name c pc] env = [(false, eval a env), (false, eval (.Name c pc) env)] := by intro _; rfl) (hs2 : ∀ env, starEach [Expr.Name c pc] env = [(false, eval (.Name c pc) env)] := by intro _; rfl) : JN S (.Call (.Name "isinstance" p) [a, .Name c pc] [] pos) Γ (m.bind fun _ => some bb) fun z => sh (boolS z) := fun σ W F sta z hz Q kq => by
  obtain ⟨x, h1, h2⟩ := run1 hz
  cases h2
  refine ⟨tCB (rIsi S.K) (tCons (tOf S a) (tCons (tC (.ty cn)) tNil)), fun X hX => pe_callB (hX.K ▸ call_isi) (hg.gl hX) (mgS hm hX) (by decide +kernel) (pa_cons (peO hX) (pa_cons (pe_bltn (v := .ty cn) (hgc.gl hX) (mgS hmc hX) hvc rfl hn hdb) pa_nil (hs2 _)) ((hs _).trans (by rw [hs2]))) (by decide) (by decide) ((hs _).trans (by rw [hs2])) (by rw [hs2]; rfl), h σ W F sta x h1 _ fun v W' Fv ext _ _ r => ?_⟩
  exact ⟨v, .ty cn, .type n, .type cn, bb, rfl, .ty cn, ht.ty S.K x W'.B W'.H v ext.ok r.2, kit_ty hk, (kq.ext ext).val ext.ok rfl⟩
/-! ### all, any, sorted -/
theorem each_bl {B : Hp} : ∀ {vs : List V} {xs : List Bool}, Each boolS B vs xs → vs = xs.map V.bl
  | [], [], _ => rfl
  | v :: vs, x :: xs, h => by
    have e : v = .bl x := h.1
    rw [e, each_bl h.2]
    rfl
  | [], _ :: _, h => h.elim
  | _ :: _, [], h => h.elim
theorem each_int {B : Hp} : ∀ {vs : List V} {xs : List Int}, Each intS B vs xs → vs = xs.map V.int
  | [], [], _ => rfl
  | v :: vs, x :: xs, h => by
    have e : v = .int x := h.1
    rw [e, each_int h.2]
    rfl
  | [], _ :: _, h => h.elim
  | _ :: _, [], h => h.elim
theorem each_of_int {B : Hp} : ∀ xs : List Int, Each intS B (xs.map V.int) xs
  | [] => trivial
  | x :: xs => ⟨rfl, each_of_int xs⟩
theorem all_lst {m : Option (List Bool)} {p : Pos} (hm : S.mg "all" = none) (h : JN S a Γ m fun x => sh (lstS boolS x)) (hg : GlS S "all" := by rfl) (hs : ∀ env, starEach [a] env = [(false, eval a env)] := by intro _; rfl) (hcm : S.calm = true := by rfl) : JN S (.Call (.Name "all" p) [a] [] pos) Γ (m.bind fun xs => some (xs.all id)) fun z => sh (boolS z) :=
  jn_b1 (f := fun xs : List Bool => some (xs.all id)) (fun X hX => hX.K ▸ cr_all (hX.calm.trans hcm)) (fun W x v z ok hh e Q k => by
    cases e
    obtain ⟨a, vs, rfl, h2, h3⟩ := hh
    rw [each_bl h3] at h2
    exact ⟨a, x, rfl, .inl (.inl (ok a _ h2)), k.val ok rfl⟩) hm h hg (by decide +kernel) (by decide) (by decide) hs
theorem any_lst {m : Option (List Bool)} {p : Pos} (hm : S.mg "any" = none) (h : JN S a Γ m fun x => sh (lstS boolS x)) (hg : GlS S "any" := by rfl) (hs : ∀ env, starEach [a] env = [(false, eval a env)] := by intro _; rfl) (hcm : S.calm = true := by rfl) : JN S (.Call (.Name "any" p) [a] [] pos) Γ (m.bind fun xs => some (xs.any id)) fun z => sh (boolS z) :=
  jn_b1 (f := fun xs : List Bool => some (xs.any id)) (fun X hX => hX.K ▸ cr_any (hX.calm.trans hcm)) (fun W x v z ok hh e Q k => by
    cases e
    obtain ⟨a, vs, rfl, h2, h3⟩ := hh
    rw [each_bl h3] at h2
    exact ⟨a, x, rfl, .inl (.inl (ok a _ h2)), k.val ok rfl⟩) hm h hg (by decide +kernel) (by decide) (by decide) hs
theorem each_mem {E : α → SP} {B : Hp} : ∀ {vs : List V} {xs : List α} {v : V}, Each E B vs xs → v ∈ vs → ∃ x, x ∈ xs ∧ (E x).P B v
  | [], [], v, _, h => by simp at h
  | u :: vs, x :: xs, v, h, hv => by
    rcases List.mem_cons.mp hv with e | hv
    · rw [e]; exact ⟨x, List.mem_cons_self, h.1⟩
    · obtain ⟨y, h1, h2⟩ := each_mem h.2 hv
      exact ⟨y, List.mem_cons_of_mem _ h1, h2⟩
  | [], _ :: _, _, h, _ => h.elim
  | _ :: _, [], _, h, _ => h.elim
theorem pr_tup {B : Hp} {p : Int × Int} {v : V} (h : (prS intS intS p).P B v) : ∃ t, v = .ref t ∧ B t = some (.tup [.int p.1, .int p.2]) := by
  obtain ⟨t, vs, rfl, h2, h3⟩ := h
  obtain ⟨v, u, rfl, h4, h5⟩ := hets2 h3
  cases h4
  cases h5
  exact ⟨t, rfl, h2⟩
theorem tup_pr {B : Hp} {p : Int × Int} {t : Addr} (h : B t = some (.tup [.int p.1, .int p.2])) : (prS intS intS p).P B (.ref t) := ⟨t, _, rfl, h, rfl, rfl, trivial⟩
open Classical in
/-- sorted of a list of pairs of whole numbers -/
theorem sorted_prs {m : Option (List (Int × Int))} {p : Pos} (hm : S.mg "sorted" = none) (h : JN S a Γ m fun x => sh (lstS (prS intS intS) x)) (hg : GlS S "sorted" := by rfl) (hs : ∀ env, starEach [a] env = [(false, eval a env)] := by intro _; rfl) : JN S (.Call (.Name "sorted" p) [a] [] pos) Γ (m.bind fun xs => some (sortP xs)) (lstO fun x => sh (prS intS intS x)) :=
  jn_b1 (f := fun xs : List (Int × Int) => some (sortP xs)) (fun X hX => hX.K ▸ cr_sortedPO) (fun W x v z ok hh e Q k => by
    cases e
    obtain ⟨a, vs, rfl, h2, h3⟩ := hh
    -- the pair behind a value
    let kk : V → Int × Int := fun u => if h : ∃ q : Int × Int, (prS intS intS q).P W.B u then h.choose else (0, 0)
    have kspec : ∀ (q : Int × Int) (u : V), (prS intS intS q).P W.B u → kk u = q := fun q u hu => by
      have hex : ∃ q : Int × Int, (prS intS intS q).P W.B u := ⟨q, hu⟩
      have e1 : kk u = hex.choose := dif_pos hex
      have e2 := hex.choose_spec
      rw [← e1] at e2
      obtain ⟨t, rfl, b1⟩ := pr_tup hu
      obtain ⟨t', e3, b2⟩ := pr_tup e2
      cases e3
      rw [b1] at b2
      injection b2 with b2
      injection b2 with b2
      injection b2 with c1 c2
      injection c2 with c2 _
      injection c1 with c1
      injection c2 with c2
      exact Prod.ext c1.symm c2.symm
    refine ⟨a, vs, kk, rfl, .inl (.inl (ok a _ h2)), fun u hu => ?_, fun ys p srt stb np => ?_⟩
    · obtain ⟨q, _, hq⟩ := each_mem h3 hu
      obtain ⟨t, rfl, b1⟩ := pr_tup hq
      rw [kspec q _ hq]
      exact ⟨t, rfl, ok t _ b1⟩
    · have perm : ys.Perm vs := SrtO.Stb.perm stb
      have hmap : vs.map kk = x := by
        clear stb perm h2 k srt np
        induction vs generalizing x with
        | nil => cases x with
          | nil => rfl
          | cons _ _ => exact h3.elim
        | cons u vs ih => cases x with
          | nil => exact h3.elim
          | cons q x => rw [List.map_cons, kspec q u h3.1, ih _ h3.2]
      have hys : ∀ u ∈ ys, (prS intS intS (kk u)).P W.B u := fun u hu => by
        obtain ⟨q, _, hq⟩ := each_mem h3 (perm.mem_iff.mp hu)
        rw [kspec q u hq]
        exact hq
      have hE : Each (prS intS intS) W.B ys (ys.map kk) := by
        clear stb perm srt
        induction ys with
        | nil => trivial
        | cons u ys ih => exact ⟨hys u List.mem_cons_self, ih fun w hw => hys w (List.mem_cons_of_mem _ hw)⟩
      have hsrt : (ys.map kk).Pairwise fun a b => leP a b = true := by
        rw [List.pairwise_map]
        refine List.Pairwise.imp (fun {u w} hn => ?_) srt
        have := SrtO.lexB_no.mp hn
        rw [leP_iff]
        omega
      have e : ys.map kk = sortP x := srt_uniq leP_an hsrt (isort_srt leP_tot leP_tr x) (by
        refine (perm.map kk).trans ?_
        rw [hmap]
        exact (isort_perm leP x).symm)
      rw [e] at hE
      exact k.newL ok hE p np) hm h hg (by decide +kernel) (by decide) (by decide) hs
/-! ### keywords and defaults -/
def tkOf (S : Stc) (kws : List Keyword) : TA := fun σ H Q => ∃ t : TA, (∀ X, S.In X → PK X kws t) ∧ t σ H Q
theorem pkO {X : Cx} {kws : List Keyword} (h : S.In X) : PK X kws (tkOf S kws) := ⟨fun pos pins s σ H Q I ⟨_, p, q⟩ => (p X h).run pos pins s σ H Q I q⟩
def JK (S : Stc) (kws : List Keyword) (Γ : Ctx) (m : Option α) (R : α → List SP) : Prop :=
  ∀ σ W F, Sta Γ σ W F → ∀ x, m = some x → ∀ Q : List V → Hp → Prop, (∀ vs W', Ext W W' → Hets W'.B vs (R x) → Q vs W'.H) → tkOf S kws σ W.H Q
theorem jk_nil : JK S [] Γ (some ()) fun _ => [] := fun σ W F st x hx Q k => ⟨tNil, fun _ _ => pk_nil, k [] W (Ext.refl st.ok) trivial⟩
theorem jk_cons {nm : Option Str} {kpos : Pos} {kws : List Keyword} {ma : Option α} {mb : Option β} {E : α → SP} {G : β → List SP} (ha : JN S e Γ ma fun x => sh (E x)) (hb : JK S kws Γ mb G) : JK S (⟨nm, e, kpos⟩ :: kws) Γ (ma.bind fun x => mb.bind fun y => some (x, y)) fun p => E p.1 :: G p.2 := fun σ W F st z hz Q k => by
  obtain ⟨x, y, h1, h2, h3⟩ := run2 hz
  cases h3
  refine ⟨tCons (tOf S e) (tkOf S kws), fun X hX => pk_cons (peO hX) (pkO hX), ?_⟩
  refine ha σ W F st x h1 _ fun v W1 F1 e1 _ _ r1 => ?_
  exact hb σ W1 F (st.ext e1) y h2 _ fun vs W2 e2 h => k (v :: vs) W2 (e1.trans e2) ⟨SP.mono _ r1.2 e2.b, h⟩
theorem Hets.app {B : Hp} : ∀ {vs us : List V} {ps qs : List SP}, Hets B vs ps → Hets B us qs → Hets B (vs ++ us) (ps ++ qs)
  | [], _, [], _, _, k => k
  | _ :: _, _, _ :: _, _, h, k => ⟨h.1, Hets.app h.2 k⟩
  | [], _, _ :: _, _, h, _ => h.elim
  | _ :: _, _, [], _, h, _ => h.elim
/-- f(e, ..), the lacking parameters by their defaults dvs -/
theorem jn_callD {x : Str} {p : Pos} {f : Addr} {fd : FuncData} {ps : List Str} {k : Nat} {G : γ → List SP} {Ga : α → List SP} {fM : γ → Option ρ} {R : ρ → OP} {m : Option α} {ds : List Value} (dvs : List V) (g : α → γ) (Fn : FnOk S.P S.w S.K S.mg S.base CX0 k f fd ps (spP G fM R)) (hm : S.mg x = some (.ref f)) (kp : PySem.W.keepIn S.K (.ref f) = true) (hd : Vals dvs ds) (hb : Binds S.K fd ps ds)
    (hG : ∀ x B vs, Hets B vs (Ga x) → Hets B (vs ++ dvs) (G (g x))) (hk : k ≤ S.k) (ha : JA S (e :: es) Γ m Ga) (hg : GlS S x := by rfl) (hdb : (x == ("__debug__" : Str)) = false := by decide) (he : ∀ env, starEach (e :: es) env = (false, eval e env) :: starEach es env := by intro _; rfl) (hpl : ∀ env, (backTo pos (starEach es env)).any (·.1) = false := by intro _; rfl) (hcm : S.calm = true := by rfl) :
    JN S (.Call (.Name x p) (e :: es) [] pos) Γ (m.bind fun y => fM (g y)) R := fun σ W F st z hz Q kk => by
  obtain ⟨y, h1, h2⟩ := run1 hz
  refine ⟨tCall (spP G fM R) dvs E0 (taOf S (e :: es)), fun X hX => pe_call (fnokS Fn hX) ((hX.room hcm).mono hk) (hg.gl hX) (mgS hm hX) (by rw [hX.K]; exact kp) (bindsS hX hb) hd passE0 (paO hX) hdb (he _) (hpl _), ha σ W F st y h1 _ fun vs W' ext hh => ?_⟩
  exact ⟨g y, W', z, rfl, ext.ok, hG y _ vs hh, h2, kk.ext ext⟩
theorem kbnS {X : Cx} {fd : FuncData} {ps ks : List Str} {n : Nat} {g : List Value → List Value → List Value} {gV : List V → List V → List V} (h : S.In X) (b : KBn S.K fd ps n ks g gV) : KBn X.K fd ps n ks g gV := by rw [h.K]; exact b
theorem jn_callN {x : Str} {p : Pos} {f : Addr} {fd : FuncData} {ps ks : List Str} {k n : Nat} {G : γ → List SP} {Ga : α → List SP} {Gk : β → List SP} {fM : γ → Option ρ} {R : ρ → OP} {m : Option α} {mk : Option β} {kws : List Keyword} {gv : List Value → List Value → List Value} {gV : List V → List V → List V} (g : α → β → γ) (Fn : FnOk S.P S.w S.K S.mg S.base CX0 k f fd ps (spP G fM R)) (hm : S.mg x = some (.ref f)) (kp : PySem.W.keepIn S.K (.ref f) = true) (hb : KBn S.K fd ps n ks gv gV)
    (hG : ∀ x z B vs zs, Hets B vs (Ga x) → Hets B zs (Gk z) → Hets B (gV vs zs) (G (g x z))) (hl : ∀ x, (Ga x).length = n) (hlk : ∀ z, (Gk z).length = ks.length) (hk : k ≤ S.k) (ha : JA S (e :: es) Γ m Ga) (hkw : JK S kws Γ mk Gk) (hg : GlS S x := by rfl) (hdb : (x == ("__debug__" : Str)) = false := by decide)
    (hall : ∀ env, (backToKw pos (keywordEach kws env)).all (·.1.isSome) = true := by intro _; rfl) (hks : ∀ env, (backToKw pos (keywordEach kws env)).filterMap (·.1) = ks := by intro _; rfl) (he : ∀ env, starEach (e :: es) env = (false, eval e env) :: starEach es env := by intro _; rfl)
    (hpl : ∀ env, ((backTo pos (starEach (e :: es) env)).any (·.1) || (backToKw pos (keywordEach kws env)).any (·.1.isNone)) = false := by intro _; rfl) (hcm : S.calm = true := by rfl) : JN S (.Call (.Name x p) (e :: es) kws pos) Γ (m.bind fun y => mk.bind fun z => fM (g y z)) R := fun σ W F st z hz Q kk => by
  obtain ⟨y, w, h1, h2, h3⟩ := run2 hz
  refine ⟨tCallN n ks.length (spP G fM R) gV E0 (taOf S (e :: es)) (tkOf S kws), fun X hX => pe_callN (fnokS Fn hX) ((hX.room hcm).mono hk) (hg.gl hX) (mgS hm hX) (by rw [hX.K]; exact kp) (kbnS hX hb) passE0 (paO hX) (pkO hX) (hall _) (hks _) hdb (he _) (hpl _), ?_⟩
  refine ha σ W F st y h1 _ fun vs W1 e1 hh => ?_
  refine hkw σ W1 F (st.ext e1) w h2 _ fun zs W2 e2 hz => ⟨hh.len.trans (hl y), hz.len.trans (hlk w), ?_⟩
  exact ⟨g y w, W2, z, rfl, e2.ok, hG y w _ vs zs (hh.mono e2.b) hz, h3, kk.ext (e1.trans e2)⟩
/-- f(k = v, ..) -/
def tCall0N (m : Nat) (sp : Sp) (gV : List V → List V → List V) (E : XK) (tk : TA) : TE := fun σ H Q => tk σ H fun zs H2 => zs.length = m ∧ sp (gV [] zs) H2 Q E
theorem pe_call0N {X : Cx} {CX : CXT} {k : Nat} {f : Addr} {fd : FuncData} {ps ks : List Str} {sp : Sp} {E : XK} {x : Str} {p pos : Pos} {kws : List Keyword} {tk : TA} {g : List Value → List Value → List Value} {gV : List V → List V → List V} (F : FnOk X.prog X.w X.K X.mg X.base CX k f fd ps sp) (hr : Room k X.A) (hg : Gl X x) (hm : X.mg x = some (.ref f)) (hk : PySem.W.keepIn X.K (.ref f) = true) (hb : KBn X.K fd ps 0 ks g gV) (hx : Passes CX X E) (hkw : PK X kws tk)
    (hall : (backToKw pos (keywordEach kws X.env)).all (·.1.isSome) = true) (hks : (backToKw pos (keywordEach kws X.env)).filterMap (·.1) = ks) (hdb : (x == ("__debug__" : Str)) = false)
    (hpl : ((backTo pos (starEach [] X.env)).any (·.1) || (backToKw pos (keywordEach kws X.env)).any (·.1.isNone)) = false) : PE X (.Call (.Name x p) [] kws pos) (tCall0N ks.length sp gV E tk) := by
  refine ⟨fun pins s σ H Q I h => ?_⟩
  refine wpAny_Call_Name_kw (ld_glob I hg hm ?_ hdb)
  refine PySem.W.callWith_KW0 (h₀ := X.base) I.ok.mod.kin hk hall ?_ hpl
  refine thn (hkw.run pos pins s σ H _ I h) fun ws s2 ⟨zs, H2, I2, rz, l2, q2⟩ => ⟨I2.kIn, ?_⟩
  rw [hks]
  exact run_fnN (us := []) (vs := []) F hr hb hx I2 .nil rz rfl l2 q2
theorem jn_call0N {x : Str} {p : Pos} {f : Addr} {fd : FuncData} {ps ks : List Str} {k : Nat} {G : γ → List SP} {Gk : β → List SP} {fM : γ → Option ρ} {R : ρ → OP} {mk : Option β} {kws : List Keyword} {gv : List Value → List Value → List Value} {gV : List V → List V → List V} (g : β → γ) (Fn : FnOk S.P S.w S.K S.mg S.base CX0 k f fd ps (spP G fM R)) (hm : S.mg x = some (.ref f)) (kp : PySem.W.keepIn S.K (.ref f) = true) (hb : KBn S.K fd ps 0 ks gv gV)
    (hG : ∀ z B zs, Hets B zs (Gk z) → Hets B (gV [] zs) (G (g z))) (hlk : ∀ z, (Gk z).length = ks.length) (hk : k ≤ S.k) (hkw : JK S kws Γ mk Gk) (hg : GlS S x := by rfl) (hdb : (x == ("__debug__" : Str)) = false := by decide)
    (hall : ∀ env, (backToKw pos (keywordEach kws env)).all (·.1.isSome) = true := by intro _; rfl) (hks : ∀ env, (backToKw pos (keywordEach kws env)).filterMap (·.1) = ks := by intro _; rfl)
    (hpl : ∀ env, ((backTo pos (starEach [] env)).any (·.1) || (backToKw pos (keywordEach kws env)).any (·.1.isNone)) = false := by intro _; rfl) (hcm : S.calm = true := by rfl) : JN S (.Call (.Name x p) [] kws pos) Γ (mk.bind fun z => fM (g z)) R := fun σ W F st z hz Q kk => by
  obtain ⟨w, h2, h3⟩ := run1 hz
  refine ⟨tCall0N ks.length (spP G fM R) gV E0 (tkOf S kws), fun X hX => pe_call0N (fnokS Fn hX) ((hX.room hcm).mono hk) (hg.gl hX) (mgS hm hX) (by rw [hX.K]; exact kp) (kbnS hX hb) passE0 (pkO hX) (hall _) (hks _) hdb (hpl _), ?_⟩
  refine hkw σ W F st w h2 _ fun zs W2 e2 hz => ⟨hz.len.trans (hlk w), ?_⟩
  exact ⟨g w, W2, z, rfl, e2.ok, hG w _ zs hz, h3, kk.ext e2⟩
end
/-- a def with keyword-only defaults -/
theorem fnd_pure {P : Program} {w : World} {K : PySem.W.Frag} {mg : Str → Option Value} {base : Heap} {x qual : Str} {st : Stmt} {f : Addr} {fd : FuncData} {dvs : List V} {kwd : List (Str × V)} {N ps : List Str} {k : Nat} {G : α → List SP} {fM : α → Option ρ} {R : ρ → OP} {Δ : Ctx} (F : FunD K x qual (defArgs st) (defBody st) (defScope st) dvs kwd f fd) (Sc : FnScope N ps (defScope st)) (hG : ∀ a, (G a).length = ps.length) (hn : ps.length ≤ N.length)
    (body : ∀ a, JB (stcOf P w K mg base N (defScope st) k []) (defBody st) (shC (G a) ++ nonC (N.length - ps.length)) (fM a) fun r => .rt Δ (R r)) : FnOk P w K mg base CX0 (k + 1) f fd ps (spP G fM R) := by
  refine F.ok Sc (fun vs H Q E h => ?_) (fun cdv A outer s H vs Q E hr h => ?_)
  · obtain ⟨a, W, r, _, _, h3, _⟩ := h
    rw [h3.len, hG]
  · obtain ⟨a, W, r, rfl, ok, h3, h4, kq⟩ := h
    refine ⟨tbOf (stcOf P w K mg base N (defScope st) k []) (defBody st), (pbO (in_cx hr)).nox, ?_⟩
    have hl : vs.length = ps.length := h3.len.trans (hG a)
    have sta : Sta (shC (G a) ++ nonC (N.length - ps.length)) (L2.start N vs) W [] := ⟨ok, FpOk.nil, by unfold L2.start shC nonC; simp [h3.len, hG, hl], by unfold L2.start; rw [hl]; exact holds_sh h3⟩
    exact body a _ W [] sta r h4 _ fun v σ' W' F' Fv _ stp _ fp rr => by
      obtain ⟨ext, fr⟩ := stp.ext
      exact kq v W' Fv ext (fun a ha => fr a (List.mem_append_right _ ha)) fp.right rr
end CC
set_option maxHeartbeats 4000000
/-! Tuples and lists of several kinds. -/
namespace CC
open PySem PySem.Spec L2
open PyProof.Rows hiding St
variable {α β γ δ τ υ ω ρ : Type}
theorem sb (x : α) (f : α → Option β) : (some x).bind f = f x := rfl
def t3S (E : α → SP) (G : β → SP) (I : γ → SP) (p : α × β × γ) : SP := htupS [E p.1, G p.2.1, I p.2.2]
def t4S (E : α → SP) (G : β → SP) (I : γ → SP) (J : δ → SP) (p : α × β × γ × δ) : SP := htupS [E p.1, G p.2.1, I p.2.2.1, J p.2.2.2]
def t5S (E : α → SP) (G : β → SP) (I : γ → SP) (J : δ → SP) (L : τ → SP) (p : α × β × γ × δ × τ) : SP := htupS [E p.1, G p.2.1, I p.2.2.1, J p.2.2.2.1, L p.2.2.2.2]
def l2S (E : α → SP) (G : β → SP) (p : α × β) : SP := hlstS [E p.1, G p.2]
def l3S (E : α → SP) (G : β → SP) (I : γ → SP) (p : α × β × γ) : SP := hlstS [E p.1, G p.2.1, I p.2.2]
def l4S (E : α → SP) (G : β → SP) (I : γ → SP) (J : δ → SP) (p : α × β × γ × δ) : SP := hlstS [E p.1, G p.2.1, I p.2.2.1, J p.2.2.2]
def l5S (E : α → SP) (G : β → SP) (I : γ → SP) (J : δ → SP) (L : τ → SP) (p : α × β × γ × δ × τ) : SP := hlstS [E p.1, G p.2.1, I p.2.2.1, J p.2.2.2.1, L p.2.2.2.2]
section
variable {S : Stc} {Γ : Ctx} {a b e : Expr} {es : List Expr} {pos : Pos}
theorem jn_nilT {E : α → SP} {k : Nat} : JN S (.Tuple [] k pos) Γ (some []) fun x => sh (tupS E x) := jn_dispT (E := E) (g := fun _ : Unit => ([] : List α)) ja_nil
theorem jn_tupG {m : Option α} {R : α → List SP} {P : β → SP} {g : α → β} {k : Nat} (h : JA S es Γ m R) (hR : ∀ x, htupS (R x) = P (g x) := by intro _; rfl) (hl : ∀ x, (R x).length ≤ 1000 := by intro _; exact Nat.le_of_ble_eq_true rfl) : JN S (.Tuple es k pos) Γ (m.bind fun x => some (g x)) fun y => sh (P y) := fun σ W F sta z hz Q kk => by
  obtain ⟨x, h1, h2⟩ := run1 hz
  cases h2
  have q := jn_tup (k := k) (pos := pos) (p := fun _ => True) h hl σ W F sta x h1 Q
  simp only [hR] at q
  exact q kk
theorem jn_hl {m : Option α} {R : α → List SP} {T : β → OP} {g : α → β} (h : JA S es Γ m R) (hR : ∀ x, hetO ((R x).map sh) = T (g x) := by intro _; rfl) (hl : ∀ x, (R x).length ≤ 1000 := by intro _; exact Nat.le_of_ble_eq_true rfl) : JN S (.List es pos) Γ (m.bind fun x => some (g x)) T := fun σ W F sta z hz Q kk => by
  obtain ⟨x, h1, h2⟩ := run1 hz
  cases h2
  have q := jn_het (pos := pos) h hl σ W F sta x h1 Q
  simp only [hR] at q
  exact q kk
theorem jn_hlS {m : Option α} {R : α → List SP} {T : β → SP} {g : α → β} (h : JA S es Γ m R) (hR : ∀ x, hlstS (R x) = T (g x) := by intro _; rfl) (hl : ∀ x, (R x).length ≤ 1000 := by intro _; exact Nat.le_of_ble_eq_true rfl) : JN S (.List es pos) Γ (m.bind fun x => some (g x)) fun y => sh (T y) := fun σ W F sta z hz Q kk => by
  obtain ⟨x, h1, h2⟩ := run1 hz
  cases h2
  have q := jn_hetS (pos := pos) h hl σ W F sta x h1 Q
  simp only [hR] at q
  exact q kk
theorem len_scr {m : Option (List Int)} {p : Pos} (hm : S.mg "len" = none) (h : JN S a Γ m fun x => sh (scrS S.K x)) (hg : GlS S "len" := by rfl) (hs : ∀ env, starEach [a] env = [(false, eval a env)] := by intro _; rfl) : JN S (.Call (.Name "len" p) [a] [] pos) Γ (m.bind fun xs => some (xs.length : Int)) fun z => sh (intS z) :=
  jn_b1 (r := fun xs H Q => ∃ p ys, xs = [.ref p] ∧ (SqL S.K H p ys ∨ SqT S.K H p ys) ∧ Q (.int ys.length) H) (f := fun xs : List Int => some (xs.length : Int)) (fun X hX => hX.K ▸ call_len_seq) (fun W x v z ok hh e Q k => by
    cases e
    obtain ⟨a, rfl, h2⟩ := hh
    have hq : SqL S.K W.H a (x.map V.int) := by
      rcases h2 with (h | ⟨o, h⟩) | h
      · exact .inl (.inl (ok _ _ h))
      · exact .inl (.inr ⟨o, ok _ _ h⟩)
      · exact .inr h
    exact ⟨a, _, rfl, .inl hq, k.val ok (by rw [List.length_map]; rfl)⟩) hm h hg PySem.boot_len (by decide) (by decide) hs
end
section
variable {S : Stc} {Γ : τ → Ctx} {s : τ} {a b e : Expr} {es : List Expr} {pos : Pos}
theorem je_tup {E : α → SP} {m : Option (List α × τ)} {p : Pos} (hm : S.mg "tuple" = none) (h : JE S a Γ s m fun x => sh (lstS E x)) (hg : GlS S "tuple" := by rfl) (hs : ∀ env, starEach [a] env = [(false, eval a env)] := by intro _; rfl) : JE S (.Call (.Name "tuple" p) [a] [] pos) Γ s (m.bind fun q => some (q.1, q.2)) fun x => sh (tupS E x) :=
  je_t1 (f := fun x : List α => some x) (fun X hX => hX.K ▸ call_tuple_of) (fun W x v z ok hh e Q k => by
    cases e
    obtain ⟨a, vs, rfl, h2, h3⟩ := hh
    exact ⟨a, vs, rfl, .inl ⟨.inl (.inl (ok a _ h2)), k.newT ok h3⟩⟩) hm h hg (by decide +kernel) (by decide) (by decide) hs
theorem je_tupG {m : Option (α × τ)} {R : α → List SP} {P : β → SP} {g : α → β} {k : Nat} (h : JEA S es Γ s m R) (hR : ∀ x, htupS (R x) = P (g x) := by intro _; rfl) (hl : ∀ x, (R x).length ≤ 1000 := by intro _; exact Nat.le_of_ble_eq_true rfl) : JE S (.Tuple es k pos) Γ s (m.bind fun q => some (g q.1, q.2)) fun y => sh (P y) := JE.of_sh fun σ W F sta z hz Q kk => by
  obtain ⟨q, h1, h2⟩ := run1 hz
  cases h2
  refine ⟨tTup (taOf S es), fun X hX => pe_tup (paO hX), h σ W F sta q h1 _ fun vs W' F' stp sa hh => ?_⟩
  refine ⟨Nat.le_trans (by rw [hh.len]; exact hl q.1) (by decide), fun l hq => ?_⟩
  have e2 := Ext.newB sa.ok (o := .tup vs) hq
  exact kk (.ref l) ⟨upd W'.H l (.tup vs), upd W'.B l (.tup vs)⟩ F' (stp.trans e2.stp0) (sa.ext e2) (by rw [← hR]; exact ⟨l, vs, rfl, upd_same, hh.mono e2.b⟩)
theorem je_dispL {E : β → SP} {m : Option (α × τ)} {R : α → List SP} {g : α → List β} (h : JEA S es Γ s m R) (hR : ∀ x, R x = (g x).map E := by intro _; rfl) (hl : ∀ x, (R x).length ≤ 1000 := by intro _; exact Nat.le_of_ble_eq_true rfl) : JE S (.List es pos) Γ s (m.bind fun q => some (g q.1, q.2)) fun y => lstO (fun x => sh (E x)) y := fun σ W F sta z hz Q kk => by
  obtain ⟨q, h1, h2⟩ := run1 hz
  cases h2
  refine ⟨tLst (taOf S es), fun X hX => pe_lst (paO hX), h σ W F sta q h1 _ fun vs W' F' stp sa hh => ?_⟩
  refine ⟨Nat.le_trans (by rw [hh.len]; exact hl q.1) (by decide), fun l hq => ?_⟩
  have e2 := Ext.new sa.ok (o := .lst vs) hq
  rw [hR] at hh
  have fr : ∀ x ∈ [l], W'.H x = none := fun x hx => by rw [List.mem_singleton.mp hx]; exact hq
  have fp1 : FpOk ⟨upd W'.H l (.lst vs), W'.B⟩ [l] := fp_one (sa.ok.back hq)
  exact kk (.ref l) ⟨upd W'.H l (.lst vs), W'.B⟩ F' [l] (stp.trans (e2.stp fr)) (sa.ext e2) (sa.fp.fresh e2 fp1 fr) ⟨l, vs, [], rfl, upd_same, rfl, Owns.of_each (W := ⟨upd W'.H l (.lst vs), W'.B⟩) hh.each⟩
theorem je_hlS {m : Option (α × τ)} {R : α → List SP} {P : β → SP} {g : α → β} (h : JEA S es Γ s m R) (hR : ∀ x, hlstS (R x) = P (g x) := by intro _; rfl) (hl : ∀ x, (R x).length ≤ 1000 := by intro _; exact Nat.le_of_ble_eq_true rfl) : JE S (.List es pos) Γ s (m.bind fun q => some (g q.1, q.2)) fun y => sh (P y) := JE.of_sh fun σ W F sta z hz Q kk => by
  obtain ⟨q, h1, h2⟩ := run1 hz
  cases h2
  refine ⟨tLst (taOf S es), fun X hX => pe_lst (paO hX), h σ W F sta q h1 _ fun vs W' F' stp sa hh => ?_⟩
  refine ⟨Nat.le_trans (by rw [hh.len]; exact hl q.1) (by decide), fun l hq => ?_⟩
  have e2 := Ext.newB sa.ok (o := .lst vs) hq
  exact kk (.ref l) ⟨upd W'.H l (.lst vs), upd W'.B l (.lst vs)⟩ F' (stp.trans e2.stp0) (sa.ext e2) (by rw [← hR]; exact ⟨l, vs, rfl, upd_same, hh.mono e2.b⟩)
end
/-- a def with state first -/
theorem fnd_state {P : Program} {w : World} {K : PySem.W.Frag} {mg : Str → Option Value} {base : Heap} {x qual : Str} {st : Stmt} {f : Addr} {fd : FuncData} {dvs : List V} {kwd : List (Str × V)} {N ps : List Str} {k : Nat} {O : τ → OP} {G : α → List SP} {fM : α → τ → Option (ρ × τ)} {R : ρ → OP} (F : FunD K x qual (defArgs st) (defBody st) (defScope st) dvs kwd f fd) (Sc : FnScope N ps (defScope st)) (hG : ∀ a, (G a).length + 1 = ps.length) (hn : ps.length ≤ N.length)
    (body : ∀ a s, JB (stcOf P w K mg base N (defScope st) k [0]) (defBody st) (some (O s) :: (shC (G a) ++ nonC (N.length - ps.length))) (fM a s) fun r => .rt (some (O r.2) :: nonC (N.length - 1)) (R r.1)) : FnOk P w K mg base CX0 (k + 1) f fd ps (spS O G fM R) := by
  refine F.ok Sc (fun vs H Q E h => ?_) (fun cdv A outer s H vs Q E hr h => ?_)
  · obtain ⟨a, s, W, F, v0, vr, r, rfl, _, _, _, _, h3, _⟩ := h
    rw [List.length_cons, h3.len, hG]
  · obtain ⟨a, s0, W, Fp, v0, vr, r, rfl, rfl, ok, fp0, h0, h3, h4, kq⟩ := h
    refine ⟨tbOf (stcOf P w K mg base N (defScope st) k [0]) (defBody st), (pbO (in_cx hr)).nox, ?_⟩
    have hl : (v0 :: vr).length = ps.length := by rw [List.length_cons, h3.len]; exact hG a
    have sta : Sta (some (O s0) :: (shC (G a) ++ nonC (N.length - ps.length))) (L2.start N (v0 :: vr)) W Fp := ⟨ok, fp0, by
      unfold L2.start shC nonC
      have := hG a
      simp [h3.len]
      omega, ⟨v0, Fp, [], rfl, (List.append_nil _).symm, h0, by
      unfold L2.start
      rw [hl]
      exact holds_sh h3⟩⟩
    refine body a s0 _ W Fp sta r h4 _ fun v σ' W' F' Fv kp stp sa fp rr => ?_
    obtain ⟨u, F1, F2, b1, b2, b3, b4⟩ := sa.hold
    have e0 : σ'[0]? = some (some v0) := (kp 0 (by simp)).trans rfl
    have eu : u = v0 := by
      rw [List.head?_eq_getElem?] at b1
      rw [e0] at b1
      exact (Option.some.inj (Option.some.inj b1)).symm
    subst eu
    have eF : F2 = [] := by
      have : ∀ (n : Nat) (σ : L2.St) (F : List Addr), Holds (nonC n) σ W' F → F = [] := by
        intro n
        induction n with
        | zero => intro σ F h; exact h
        | succ n ih => intro σ F h; exact ih σ.tail F h
      exact this _ _ _ b4
    subst eF
    rw [List.append_nil] at b2
    subst b2
    exact kq v W' F' Fv stp fp b3 rr
abbrev FnP (K : PySem.W.Frag) (x : Str) (st : Stmt) (f : Addr) (fd : FuncData) : Prop := FunD K x x (defArgs st) (defBody st) (defScope st) [] [] f fd
theorem hets_d {B : Hp} {vs dvs : List V} {ps qs rs : List SP} (h : Hets B vs ps) (hd : Hets B dvs qs) (e : rs = ps ++ qs) : Hets B (vs ++ dvs) rs := e ▸ h.app hd
/-- the law is called with its script -/
theorem law_in {K : PySem.W.Frag} {H : Hp} {a : Addr} {ns : List Int} {fM : List Int × Unit → Option Bool} {E : XK} (hS : SqL K H a (ns.map V.int)) (h : fM (ns, ()) = some true) : spP (fun a : List Int × Unit => [scrS K a.1]) fM (fun b => sh (boolS b)) [.ref a] H (fun v _ => v = .bl true) E :=
  ⟨(ns, ()), ⟨H, H⟩, true, rfl, Ex.refl _, ⟨⟨a, rfl, hS⟩, trivial⟩, h, fun v W' Fv _ _ _ r => r.2⟩
theorem sw_cell {elt : Expr} {gs : List Comprehension} {scope : Scope} {pos py : Pos} {y : Str} {l : Nat} {env : Env} (hy : env.scope.names.lookup y = some .cell) : swapsWith (.ListComp elt gs scope pos) (some (.Name y py)) l env = pure false := by
  have ky : env.kindOf y = some .cell := hy
  unfold swapsWith
  simp only [ky]
  rw [show ((some NameKind.cell == some NameKind.local) : Bool) = false from rfl, Bool.and_false, Bool.false_and, Bool.false_and]
section
variable {S : Stc} {Γ : Ctx}
theorem js_setLcC {x : Str} {py spos pos : Pos} {elt : Expr} {gs : List Comprehension} {scope : Scope} {m : Option α} {R : α → OP} (i : Nat) (nd : S.N.Nodup) (h : JN S (.ListComp elt gs scope pos) Γ m R) (hi : (Γ[i]?).isSome = true := by rfl) (hN : S.N[i]? = some x := by rfl) (hx : S.sc.names.lookup x = some .cell := by rfl) (hp : (S.prot.contains i) = false := by rfl) (hf : S.fn x = true := by rfl) :
    JS S (.Assign [.Name x py] (.ListComp elt gs scope pos) spos) Γ m fun a => .nx (Γ.set i (some (R a))) := fun σ W F sta y hy E k => by
  refine ⟨tAsg (tOf S _) (gName i), fun X hX => ps_set (by rw [hX.N]; exact nd) (by rw [hX.N]; exact hN) (locS (.inr hx) hX) (peO hX) (sw_cell (by rw [hX.sc]; exact hx)) (by rw [hX.fn]; exact .inl hf), h σ W F sta y hy _ fun v W' Fv ext fr fp r => ?_⟩
  obtain ⟨F', s', stp⟩ := sta_set sta ext fr fp r hi
  exact k _ W' F' (Keep.set (ncon hp)) stp s'
end
section
variable {S : Stc} {Γ : τ → Ctx} {s : τ}
theorem js_setLcCE {x : Str} {py spos pos : Pos} {elt : Expr} {gs : List Comprehension} {scope : Scope} {m : Option (α × τ)} {R : α → OP} (i : Nat) (nd : S.N.Nodup) (h : JE S (.ListComp elt gs scope pos) Γ s m R) (hi : ∀ s, ((Γ s)[i]?).isSome = true := by intro _; rfl) (hN : S.N[i]? = some x := by rfl) (hx : S.sc.names.lookup x = some .cell := by rfl) (hp : (S.prot.contains i) = false := by rfl) (hf : S.fn x = true := by rfl) :
    JS S (.Assign [.Name x py] (.ListComp elt gs scope pos) spos) (Γ s) m fun q => .nx ((Γ q.2).set i (some (R q.1))) := fun σ W F sta y hy E k => by
  refine ⟨tAsg (tOf S _) (gName i), fun X hX => ps_set (by rw [hX.N]; exact nd) (by rw [hX.N]; exact hN) (locS (.inr hx) hX) (peO hX) (sw_cell (by rw [hX.sc]; exact hx)) (by rw [hX.fn]; exact .inl hf), h σ W F sta y hy _ fun v W' F' Fv stp sa fp r => ?_⟩
  have hl : i < (Γ y.2).length := by
    have := hi y.2
    cases h : (Γ y.2)[i]? with
    | none => rw [h] at this; cases this
    | some o => exact (List.getElem?_eq_some_iff.mp h).1
  obtain ⟨F2, b1, b2⟩ := sa.put hl r fp
  exact k _ W' F2 (Keep.set (ncon hp)) (stp.perm b2) b1
end
end CC
set_option maxHeartbeats 4000000
/-! Values of any kind. -/
namespace CC
open PySem PySem.Spec L2
open PyProof.Rows hiding St
variable {α β γ δ τ υ ω ρ : Type}
inductive PV where
  | non
  | bl (b : Bool)
  | int (i : Int)
  | str (z : Str)
  | tup (xs : List PV)
  | lst (xs : List PV)
mutual
def anyP (B : Hp) : PV → V → Prop
  | .non, v => v = .non
  | .bl b, v => v = .bl b
  | .int i, v => v = .int i
  | .str z, v => v = .str z
  | .tup xs, v => ∃ a vs, v = .ref a ∧ B a = some (.tup vs) ∧ anysP B xs vs
  | .lst xs, v => ∃ a vs, v = .ref a ∧ B a = some (.lst vs) ∧ anysP B xs vs
def anysP (B : Hp) : List PV → List V → Prop
  | [], [] => True
  | x :: xs, v :: vs => anyP B x v ∧ anysP B xs vs
  | [], _ :: _ => False
  | _ :: _, [] => False
end
mutual
theorem anyP_mono {B B' : Hp} (e : Ex B B') : ∀ (x : PV) (v : V), anyP B x v → anyP B' x v
  | .non, v, h => by unfold anyP at h ⊢; exact h
  | .bl b, v, h => by unfold anyP at h ⊢; exact h
  | .int i, v, h => by unfold anyP at h ⊢; exact h
  | .str z, v, h => by unfold anyP at h ⊢; exact h
  | .tup xs, v, h => by
    unfold anyP at h ⊢
    obtain ⟨a, vs, h1, h2, h3⟩ := h
    exact ⟨a, vs, h1, e a _ h2, anysP_mono e xs vs h3⟩
  | .lst xs, v, h => by
    unfold anyP at h ⊢
    obtain ⟨a, vs, h1, h2, h3⟩ := h
    exact ⟨a, vs, h1, e a _ h2, anysP_mono e xs vs h3⟩
theorem anysP_mono {B B' : Hp} (e : Ex B B') : ∀ (xs : List PV) (vs : List V), anysP B xs vs → anysP B' xs vs
  | [], [], h => by unfold anysP; trivial
  | x :: xs, v :: vs, h => by
    unfold anysP at h ⊢
    exact ⟨anyP_mono e x v h.1, anysP_mono e xs vs h.2⟩
  | [], _ :: _, h => by unfold anysP at h; exact h.elim
  | _ :: _, [], h => by unfold anysP at h; exact h.elim
end
def anyS (x : PV) : SP := ⟨fun B v => anyP B x v, fun h e => anyP_mono e x _ h⟩
theorem anys_each {B : Hp} : ∀ {xs : List PV} {vs : List V}, anysP B xs vs → Each anyS B vs xs
  | [], [], h => trivial
  | x :: xs, v :: vs, h => by
    unfold anysP at h
    exact ⟨h.1, anys_each h.2⟩
  | [], _ :: _, h => by unfold anysP at h; exact h.elim
  | _ :: _, [], h => by unfold anysP at h; exact h.elim
theorem each_anys {B : Hp} : ∀ {xs : List PV} {vs : List V}, Each anyS B vs xs → anysP B xs vs
  | [], [], h => by unfold anysP; trivial
  | x :: xs, v :: vs, h => by
    unfold anysP
    exact ⟨h.1, each_anys h.2⟩
  | [], _ :: _, h => h.elim
  | _ :: _, [], h => h.elim
theorem pv_tup {B : Hp} {xs : List PV} {v : V} (h : (anyS (.tup xs)).P B v) : (tupS anyS xs).P B v := by
  have h' : anyP B (.tup xs) v := h
  unfold anyP at h'
  obtain ⟨a, vs, h1, h2, h3⟩ := h'
  exact ⟨a, vs, h1, h2, anys_each h3⟩
theorem pv_lst {B : Hp} {xs : List PV} {v : V} (h : (anyS (.lst xs)).P B v) : (lstS anyS xs).P B v := by
  have h' : anyP B (.lst xs) v := h
  unfold anyP at h'
  obtain ⟨a, vs, h1, h2, h3⟩ := h'
  exact ⟨a, vs, h1, h2, anys_each h3⟩
/-- a description that is one of any kind -/
structure AnyOf (E : α → SP) (f : α → PV) : Prop where
  go : ∀ B x v, (E x).P B v → (anyS (f x)).P B v
theorem ao_any : AnyOf anyS (fun x => x) := ⟨fun _ _ _ h => h⟩
theorem ao_int : AnyOf intS PV.int := ⟨fun B x v h => by show anyP B (.int x) v; unfold anyP; exact h⟩
theorem ao_bool : AnyOf boolS PV.bl := ⟨fun B x v h => by show anyP B (.bl x) v; unfold anyP; exact h⟩
theorem ao_str : AnyOf strS PV.str := ⟨fun B x v h => by show anyP B (.str x) v; unfold anyP; exact h⟩
theorem ao_non : AnyOf (fun _ : Unit => nonS) (fun _ => PV.non) := ⟨fun B x v h => by show anyP B .non v; unfold anyP; exact h⟩
def optV (f : α → PV) : Option α → PV
  | none => .non
  | some x => f x
theorem ao_opt {E : α → SP} {f : α → PV} (h : AnyOf E f) : AnyOf (optS E) (optV f) := ⟨fun B x v hx => by
  cases x with
  | none => exact ao_non.go B () v hx
  | some x => exact h.go B x v hx⟩
theorem ao_each {E : α → SP} {f : α → PV} (h : AnyOf E f) {B : Hp} : ∀ {xs : List α} {vs : List V}, Each E B vs xs → anysP B (xs.map f) vs
  | [], [], _ => by show anysP B [] []; unfold anysP; trivial
  | x :: xs, v :: vs, e => by
    show anysP B (f x :: xs.map f) (v :: vs)
    unfold anysP
    exact ⟨h.go B x v e.1, ao_each h e.2⟩
  | [], _ :: _, e => e.elim
  | _ :: _, [], e => e.elim
theorem ao_tup {E : α → SP} {f : α → PV} (h : AnyOf E f) : AnyOf (tupS E) (fun xs => PV.tup (xs.map f)) := ⟨fun B x v hx => by
  show anyP B (.tup _) v
  unfold anyP
  obtain ⟨a, vs, h1, h2, h3⟩ := hx
  exact ⟨a, vs, h1, h2, ao_each h h3⟩⟩
theorem ao_lst {E : α → SP} {f : α → PV} (h : AnyOf E f) : AnyOf (lstS E) (fun xs => PV.lst (xs.map f)) := ⟨fun B x v hx => by
  show anyP B (.lst _) v
  unfold anyP
  obtain ⟨a, vs, h1, h2, h3⟩ := hx
  exact ⟨a, vs, h1, h2, ao_each h h3⟩⟩
theorem hts2 {B : Hp} {p q : SP} {vs : List V} (h : Hets B vs [p, q]) : ∃ u v, vs = [u, v] ∧ p.P B u ∧ q.P B v := by
  match vs, h with
  | [u, v], h => exact ⟨u, v, rfl, h.1, h.2.1⟩
theorem hts3 {B : Hp} {p q r : SP} {vs : List V} (h : Hets B vs [p, q, r]) : ∃ u v w, vs = [u, v, w] ∧ p.P B u ∧ q.P B v ∧ r.P B w := by
  match vs, h with
  | [u, v, w], h => exact ⟨u, v, w, rfl, h.1, h.2.1, h.2.2.1⟩
theorem hts4 {B : Hp} {p q r s : SP} {vs : List V} (h : Hets B vs [p, q, r, s]) : ∃ u v w x, vs = [u, v, w, x] ∧ p.P B u ∧ q.P B v ∧ r.P B w ∧ s.P B x := by
  match vs, h with
  | [u, v, w, x], h => exact ⟨u, v, w, x, rfl, h.1, h.2.1, h.2.2.1, h.2.2.2.1⟩
theorem ao_pr {E : α → SP} {G : β → SP} {f : α → PV} {g : β → PV} (h : AnyOf E f) (k : AnyOf G g) : AnyOf (prS E G) (fun p => PV.tup [f p.1, g p.2]) := ⟨fun B x v hx => by
  show anyP B (.tup _) v
  unfold anyP
  obtain ⟨a, vs, h1, h2, h3⟩ := hx
  obtain ⟨u, w, rfl, a1, a2⟩ := hts2 h3
  exact ⟨a, _, h1, h2, each_anys ⟨h.go B _ _ a1, k.go B _ _ a2, trivial⟩⟩⟩
theorem ao_t3 {E : α → SP} {G : β → SP} {I : γ → SP} {f : α → PV} {g : β → PV} {i : γ → PV} (h : AnyOf E f) (k : AnyOf G g) (l : AnyOf I i) : AnyOf (t3S E G I) (fun p => PV.tup [f p.1, g p.2.1, i p.2.2]) := ⟨fun B x v hx => by
  show anyP B (.tup _) v
  unfold anyP
  obtain ⟨a, vs, h1, h2, h3⟩ := hx
  obtain ⟨u, w, y, rfl, a1, a2, a3⟩ := hts3 h3
  exact ⟨a, _, h1, h2, each_anys ⟨h.go B _ _ a1, k.go B _ _ a2, l.go B _ _ a3, trivial⟩⟩⟩
theorem ao_t4 {E : α → SP} {G : β → SP} {I : γ → SP} {J : δ → SP} {f : α → PV} {g : β → PV} {i : γ → PV} {j : δ → PV} (h : AnyOf E f) (k : AnyOf G g) (l : AnyOf I i) (m : AnyOf J j) : AnyOf (t4S E G I J) (fun p => PV.tup [f p.1, g p.2.1, i p.2.2.1, j p.2.2.2]) := ⟨fun B x v hx => by
  show anyP B (.tup _) v
  unfold anyP
  obtain ⟨a, vs, h1, h2, h3⟩ := hx
  obtain ⟨u, w, y, z, rfl, a1, a2, a3, a4⟩ := hts4 h3
  exact ⟨a, _, h1, h2, each_anys ⟨h.go B _ _ a1, k.go B _ _ a2, l.go B _ _ a3, m.go B _ _ a4, trivial⟩⟩⟩
def PV.tyn : PV → String
  | .non => "NoneType"
  | .bl _ => "bool"
  | .int _ => "int"
  | .str _ => "str"
  | .tup _ => "tuple"
  | .lst _ => "list"
def pT : PV → Bool
  | .tup _ => true
  | _ => false
def pL : PV → Bool
  | .lst _ => true
  | _ => false
def pI : PV → Bool
  | .int _ => true
  | .bl _ => true
  | _ => false
def pB : PV → Bool
  | .bl _ => true
  | _ => false
def pS : PV → Bool
  | .str _ => true
  | _ => false
def pN : PV → Bool
  | .non => true
  | _ => false
theorem any_ty {K : PySem.W.Frag} {B H : Hp} (e : Ex B H) : ∀ {x : PV} {v : V}, (anyS x).P B v → TyX K H v (.type x.tyn)
  | .non, v, h => by
    have h' : anyP B .non v := h
    unfold anyP at h'
    subst h'
    exact .base .non
  | .bl b, v, h => by
    have h' : anyP B (.bl b) v := h
    unfold anyP at h'
    subst h'
    exact .base (.bl b)
  | .int i, v, h => by
    have h' : anyP B (.int i) v := h
    unfold anyP at h'
    subst h'
    exact .base (.int i)
  | .str z, v, h => by
    have h' : anyP B (.str z) v := h
    unfold anyP at h'
    subst h'
    exact .base (.str z)
  | .tup xs, v, h => by
    obtain ⟨a, vs, rfl, h2, _⟩ := pv_tup h
    exact .base (.tup (e a _ h2))
  | .lst xs, v, h => by
    obtain ⟨a, vs, rfl, h2, _⟩ := pv_lst h
    exact .base (.lst (e a _ h2))
/-- == of plain values -/
def eqA : PV → PV → Option Bool
  | .non, .non => some true
  | .bl x, .bl y => some (decide (x = y))
  | .int x, .int y => some (decide (x = y))
  | .str x, .str y => some (decide (x = y))
  | _, _ => none
def lenA : PV → Option Int
  | .tup xs => some (xs.length : Int)
  | .lst xs => some (xs.length : Int)
  | _ => none
def ixA (x : PV) (i : Int) : Option PV := match x with
  | .tup xs => atI xs i
  | .lst xs => atI xs i
  | _ => none
def rIxA (K : PySem.W.Frag) : R2 := fun x y H Q => rIxL K x y H Q ∨ rIxT K x y H Q
theorem oIxA {S : Stc} : ∀ X, S.In X → IxR X (rIxA S.K) := fun _ h => h.K ▸ ix_list.or ix_tup
section
variable {S : Stc} {Γ : Ctx} {a b e : Expr} {es : List Expr} {pos : Pos}
theorem jn_any {E : α → SP} {f : α → PV} {m : Option α} (ao : AnyOf E f) (h : JN S e Γ m fun x => sh (E x)) : JN S e Γ (m.bind fun x => some (f x)) fun y => sh (anyS y) :=
  JN.map h fun x W v F r => ⟨r.1, ao.go W.B x v r.2⟩
theorem jn_isiA {p pc : Pos} {c : Str} {cn : String} {m : Option PV} (f : PV → Bool) (hm : S.mg "isinstance" = none) (hmc : S.mg c = none) (h : JN S a Γ m fun x => sh (anyS x)) (hk : (kitB "NoneType" cn, kitB "bool" cn, kitB "int" cn, kitB "str" cn, kitB "tuple" cn, kitB "list" cn) = (some (f .non), some (f (.bl true)), some (f (.int 0)), some (f (.str ⟨#[]⟩)), some (f (.tup [])), some (f (.lst []))) := by decide +kernel) (hf : ∀ b i z xs ys, f (.bl b) = f (.bl true) ∧ f (.int i) = f (.int 0) ∧ f (.str z) = f (.str ⟨#[]⟩) ∧ f (.tup xs) = f (.tup []) ∧ f (.lst ys) = f (.lst []) := by exact fun _ _ _ _ _ => ⟨rfl, rfl, rfl, rfl, rfl⟩) (hg : GlS S "isinstance" := by rfl) (hgc : GlS S c := by rfl) (hvc : bootBuiltins c = some (.type cn) := by decide +kernel) (hn : c ≠ "__name__" := by decide) (hdb : (c == ("__debug__" : Str)) = false := by decide)
    (hs : ∀ env, starEach [a, .Name c pc] env = [(false, eval a env), (false, eval (.Name c pc) env)] := by intro _; rfl) (hs2 : ∀ env, starEach [Expr.Name c pc] env = [(false, eval (.Name c pc) env)] := by intro _; rfl) : JN S (.Call (.Name "isinstance" p) [a, .Name c pc] [] pos) Γ (m.bind fun x => some (f x)) fun z => sh (boolS z) := fun σ W F sta z hz Q kq => by
  have hk' : ∀ x : PV, kitB x.tyn cn = some (f x) := fun x => by
    obtain ⟨k1, k⟩ := Prod.mk.inj hk
    obtain ⟨k2, k⟩ := Prod.mk.inj k
    obtain ⟨k3, k⟩ := Prod.mk.inj k
    obtain ⟨k4, k⟩ := Prod.mk.inj k
    obtain ⟨k5, k6⟩ := Prod.mk.inj k
    cases x with
    | non => exact k1
    | bl b => rw [(hf b 0 ⟨#[]⟩ [] []).1]; exact k2
    | int i => rw [(hf true i ⟨#[]⟩ [] []).2.1]; exact k3
    | str z => rw [(hf true 0 z [] []).2.2.1]; exact k4
    | tup xs => rw [(hf true 0 ⟨#[]⟩ xs []).2.2.2.1]; exact k5
    | lst xs => rw [(hf true 0 ⟨#[]⟩ [] xs).2.2.2.2]; exact k6
  obtain ⟨x, h1, h2⟩ := run1 hz
  cases h2
  refine ⟨tCB (rIsi S.K) (tCons (tOf S a) (tCons (tC (.ty cn)) tNil)), fun X hX => pe_callB (hX.K ▸ call_isi) (hg.gl hX) (mgS hm hX) (by decide +kernel) (pa_cons (peO hX) (pa_cons (pe_bltn (v := .ty cn) (hgc.gl hX) (mgS hmc hX) hvc rfl hn hdb) pa_nil (hs2 _)) ((hs _).trans (by rw [hs2]))) (by decide) (by decide) ((hs _).trans (by rw [hs2])) (by rw [hs2]; rfl), h σ W F sta x h1 _ fun v W' Fv ext _ _ r => ?_⟩
  exact ⟨v, .ty cn, .type x.tyn, .type cn, f x, rfl, .ty cn, any_ty ext.ok r.2, kit_ty (hk' x), (kq.ext ext).val ext.ok rfl⟩
theorem any_non {B : Hp} : ∀ {x : PV} {v : V}, (anyS x).P B v → decide (v = V.non) = pN x
  | .non, v, h => by
    have h' : anyP B .non v := h
    unfold anyP at h'
    subst h'
    rfl
  | .bl b, v, h => by
    have h' : anyP B (.bl b) v := h
    unfold anyP at h'
    subst h'
    rfl
  | .int i, v, h => by
    have h' : anyP B (.int i) v := h
    unfold anyP at h'
    subst h'
    rfl
  | .str z, v, h => by
    have h' : anyP B (.str z) v := h
    unfold anyP at h'
    subst h'
    rfl
  | .tup xs, v, h => by
    obtain ⟨a, vs, rfl, h2, _⟩ := pv_tup h
    rfl
  | .lst xs, v, h => by
    obtain ⟨a, vs, rfl, h2, _⟩ := pv_lst h
    rfl
theorem ov_isNA : OpV (fun x y H Q => y = .non ∧ Q (.bl (decide (x = .non))) H) anyS (fun _ : Unit => nonS) (fun x _ => some (pN x)) fun z => sh (boolS z) := fun W x y v u z ok hx hy e Q k => by
  cases e
  cases hy
  refine ⟨rfl, ?_⟩
  rw [any_non hx]
  exact k.val ok rfl
theorem ov_notNA : OpV (fun x y H Q => y = .non ∧ Q (.bl (!decide (x = .non))) H) anyS (fun _ : Unit => nonS) (fun x _ => some (!pN x)) fun z => sh (boolS z) := fun W x y v u z ok hx hy e Q k => by
  cases e
  cases hy
  refine ⟨rfl, ?_⟩
  rw [any_non hx]
  exact k.val ok rfl
theorem any_flat {B : Hp} : ∀ {x y : PV} {v u : V} {z : Bool}, (anyS x).P B v → (anyS y).P B u → eqA x y = some z → scal v u = true ∧ decide (v = u) = z
  | .non, .non, v, u, z, hx, hy, e => by
    have h1 : anyP B .non v := hx
    have h2 : anyP B .non u := hy
    unfold anyP at h1 h2
    subst h1 h2
    cases e
    exact ⟨rfl, by simp⟩
  | .bl x, .bl y, v, u, z, hx, hy, e => by
    have h1 : anyP B (.bl x) v := hx
    have h2 : anyP B (.bl y) u := hy
    unfold anyP at h1 h2
    subst h1 h2
    cases e
    exact ⟨rfl, by simp⟩
  | .int x, .int y, v, u, z, hx, hy, e => by
    have h1 : anyP B (.int x) v := hx
    have h2 : anyP B (.int y) u := hy
    unfold anyP at h1 h2
    subst h1 h2
    cases e
    exact ⟨rfl, by simp⟩
  | .str x, .str y, v, u, z, hx, hy, e => by
    have h1 : anyP B (.str x) v := hx
    have h2 : anyP B (.str y) u := hy
    unfold anyP at h1 h2
    subst h1 h2
    cases e
    exact ⟨rfl, by simp⟩
theorem ov_eqA : OpV rEq anyS anyS eqA fun z => sh (boolS z) := fun W x y v u z ok hx hy e Q k => by
  obtain ⟨h1, h2⟩ := any_flat hx hy e
  exact ⟨h1, k.val ok (by rw [h2]; rfl)⟩
theorem ov_neA : OpV rNe anyS anyS (fun x y => (eqA x y).bind fun b => some (!b)) fun z => sh (boolS z) := fun W x y v u z ok hx hy e Q k => by
  obtain ⟨b, e1, e2⟩ := run1 e
  cases e2
  obtain ⟨h1, h2⟩ := any_flat hx hy e1
  exact ⟨h1, k.val ok (by rw [h2]; rfl)⟩
theorem iv_any {K : PySem.W.Frag} : IxV (rIxA K) (fun x => sh (anyS x)) intS ixA fun x => sh (anyS x) := fun W x y v u z F1 ok hx hy e Q k => by
  cases x with
  | tup xs => exact .inr (iv_tup W xs y v u z F1 ok ⟨hx.1, pv_tup hx.2⟩ hy e Q k)
  | lst xs => exact .inl (iv_lst W xs y v u z F1 ok ⟨hx.1, pv_lst hx.2⟩ hy e Q k)
  | non => cases e
  | bl _ => cases e
  | int _ => cases e
  | str _ => cases e
theorem len_any {m : Option PV} {p : Pos} (hm : S.mg "len" = none) (h : JN S a Γ m fun x => sh (anyS x)) (hg : GlS S "len" := by rfl) (hs : ∀ env, starEach [a] env = [(false, eval a env)] := by intro _; rfl) : JN S (.Call (.Name "len" p) [a] [] pos) Γ (m.bind fun x => lenA x) fun z => sh (intS z) :=
  jn_b1 (r := fun xs H Q => ∃ p ys, xs = [.ref p] ∧ (SqL S.K H p ys ∨ SqT S.K H p ys) ∧ Q (.int ys.length) H) (f := lenA) (fun X hX => hX.K ▸ call_len_seq) (fun W x v z ok hh e Q k => by
    cases x with
    | tup xs =>
      cases e
      obtain ⟨p, vs, rfl, q2, q3⟩ := pv_tup hh
      exact ⟨p, vs, rfl, .inr (.inl (.inl (ok p _ q2))), k.val ok (by rw [q3.len]; rfl)⟩
    | lst xs =>
      cases e
      obtain ⟨p, vs, rfl, q2, q3⟩ := pv_lst hh
      exact ⟨p, vs, rfl, .inl (.inl (.inl (ok p _ q2))), k.val ok (by rw [q3.len]; rfl)⟩
    | non => cases e
    | bl _ => cases e
    | int _ => cases e
    | str _ => cases e) hm h hg PySem.boot_len (by decide) (by decide) hs
end
/-- nothing is promised yet -/
theorem fn_zero {P : Program} {w : World} {K : PySem.W.Frag} {mg : Str → Option Value} {base : Heap} {x qual : Str} {st : Stmt} {f : Addr} {fd : FuncData} {dvs : List V} {kwd : List (Str × V)} {N ps : List Str} {k : Nat} {G : α → List SP} {R : ρ → OP} (F : FunD K x qual (defArgs st) (defBody st) (defScope st) dvs kwd f fd) (Sc : FnScope N ps (defScope st)) :
    FnOk P w K mg base CX0 (k + 1) f fd ps (spP G (fun _ => none) R) := by
  refine F.ok Sc (fun vs H Q E h => ?_) (fun cdv A outer s H vs Q E hr h => ?_)
  · obtain ⟨a, W, r, _, _, _, h4, _⟩ := h
    cases h4
  · obtain ⟨a, W, r, _, _, _, h4, _⟩ := h
    cases h4
end CC
set_option maxHeartbeats 4000000
/-! Exceptions. -/
namespace CC
open PySem PySem.Spec L2
open PyProof.Rows hiding St
variable {α β γ δ τ υ ω ρ ε : Type}
inductive Res (ε α : Type) where
  | ok (a : α)
  | er (e : ε)
def Res.k (r : Res ε α) (f : α → Option ω) (g : ε → Option ω) : Option ω := match r with
  | .ok a => f a
  | .er e => g e
def XD (Γl : α → Ctx) (Γx : Ctx) (Xp : ε → XP) : Res ε α → Kd
  | .ok a => .nx (Γl a)
  | .er e => .xc Γx (Xp e)
def RX (Δ Δx : Ctx) (R : α → OP) (Xp : ε → XP) : Res ε α → Kd
  | .ok a => .rt Δ (R a)
  | .er e => .xc Δx (Xp e)
def JNX (S : Stc) (e : Expr) (Γ : Ctx) (m : Option (Res ε α)) (R : α → OP) (Xp : ε → XP) : Prop :=
  ∀ σ W F, Sta Γ σ W F → ∀ r, m = some r → ∀ Q : VK, (match r with | .ok x => Got (R x) W Q | .er e => ∀ c d W', Ext W W' → (Xp e).P W'.B c d → S.W c d σ W'.H) → tOf S e σ W.H Q
def spX (G : α → List SP) (fM : α → Option (Res ε ρ)) (R : ρ → OP) (Xp : ε → XP) : Sp := fun vs H Q E => ∃ x W r, W.H = H ∧ Ex W.B W.H ∧ Hets W.B vs (G x) ∧ fM x = some r ∧ (match r with | .ok y => Got (R y) W Q | .er e => ∀ c d W', Ext W W' → (Xp e).P W'.B c d → E c d W'.H)
def tmOf (S : Stc) (e : Expr) : L2.St → Hp → XK → Prop := fun σ H Q => ∃ t : L2.St → Hp → XK → Prop, (∀ X, S.In X → PMk X e t) ∧ t σ H Q
theorem pmO {S : Stc} {X : Cx} {e : Expr} (h : S.In X) : PMk X e (tmOf S e) := fun pins s σ H Q I ⟨_, p, q⟩ => p X h pins s σ H Q I q
/-- an expression that makes an exception -/
def JM (S : Stc) (e : Expr) (Γ : Ctx) (m : Option ε) (Xp : ε → XP) : Prop :=
  ∀ σ W F, Sta Γ σ W F → ∀ x, m = some x → ∀ Q : XK, (∀ c d W', Ext W W' → (Xp x).P W'.B c d → Q c d W'.H) → tmOf S e σ W.H Q
section
variable {S : Stc} {Γ Δ : Ctx} {a b c e : Expr} {es : List Expr} {pos : Pos} {st : Stmt} {rest A B : List Stmt}
theorem jx_of {m : Option α} {R : α → OP} {Xp : ε → XP} (h : JN S e Γ m R) : JNX S e Γ (m.bind fun x => some (Res.ok x)) R Xp := fun σ W F sta r hr Q k => by
  obtain ⟨x, h1, h2⟩ := run1 hr
  cases h2
  exact h σ W F sta x h1 Q k
theorem jx_call {x : Str} {p : Pos} {f : Addr} {fd : FuncData} {ps : List Str} {k : Nat} {G : α → List SP} {fM : α → Option (Res ε ρ)} {R : ρ → OP} {Xp : ε → XP} {m : Option α} (Fn : FnOk S.P S.w S.K S.mg S.base (L2.CX S.P S.w) k f fd ps (spX G fM R Xp)) (hm : S.mg x = some (.ref f)) (kp : PySem.W.keepIn S.K (.ref f) = true) (hb : Binds S.K fd ps [])
    (hk : k ≤ S.k) (ha : JA S (e :: es) Γ m G) (hg : GlS S x := by rfl) (hdb : (x == ("__debug__" : Str)) = false := by decide) (he : ∀ env, starEach (e :: es) env = (false, eval e env) :: starEach es env := by intro _; rfl) (hpl : ∀ env, (backTo pos (starEach es env)).any (·.1) = false := by intro _; rfl) (hcm : S.calm = true := by rfl) :
    JNX S (.Call (.Name x p) (e :: es) [] pos) Γ (m.bind fun y => fM y) R Xp := fun σ W F st z hz Q kk => by
  obtain ⟨y, h1, h2⟩ := run1 hz
  refine ⟨tCallS (spX G fM R Xp) (WE S.W) (taOf S (e :: es)), fun X hX => pe_callS (fnokS Fn hX) ((hX.room hcm).mono hk) (hg.gl hX) (mgS hm hX) (by rw [hX.K]; exact kp) (by rw [hX.K]; exact hb) (fun σ => by rw [← hX.prog, ← hX.w]; exact passAt hX.tk σ) (paO hX) hdb (he _) (hpl _), ha σ W F st y h1 _ fun vs W' ext hh => ?_⟩
  refine ⟨y, W', z, rfl, ext.ok, hh, h2, ?_⟩
  cases z with
  | ok v => exact Got.ext kk ext
  | er u => exact fun c d W2 e2 hp => kk c d W2 (ext.trans e2) hp
theorem jx_if {mc : Option Bool} {ma mb : Option (Res ε α)} {R : α → OP} {Xp : ε → XP} (hc : JT S c Γ mc) (ha : JNX S a Γ ma R Xp) (hb : JNX S b Γ mb R Xp) : JNX S (.IfExp c a b pos) Γ (mc.bind fun t => bif t then ma else mb) R Xp := fun σ W F st z hz Q k => by
  obtain ⟨t, h1, h2⟩ := run1 hz
  refine ⟨tIf (ttOf S c) (tOf S a) (tOf S b), fun X hX => pe_ifExp (ptO hX) (peO hX) (peO hX), hc σ W F st t h1 _ fun W1 e1 => ?_⟩
  cases t with
  | true =>
    refine iteT (ha σ W1 F (st.ext e1) z h2 Q ?_)
    cases z with
    | ok x => exact Got.ext k e1
    | er u => exact fun c d W2 e2 hp => k c d W2 (e1.trans e2) hp
  | false =>
    refine iteF (hb σ W1 F (st.ext e1) z h2 Q ?_)
    cases z with
    | ok x => exact Got.ext k e1
    | er u => exact fun c d W2 e2 hp => k c d W2 (e1.trans e2) hp
def JAX (S : Stc) (es : List Expr) (Γ : Ctx) (m : Option (Res ε α)) (G : α → List SP) (Xp : ε → XP) : Prop :=
  ∀ σ W F, Sta Γ σ W F → ∀ r, m = some r → ∀ Q : List V → Hp → Prop, (match r with | .ok x => ∀ vs W', Ext W W' → Hets W'.B vs (G x) → Q vs W'.H | .er e => ∀ c d W', Ext W W' → (Xp e).P W'.B c d → S.W c d σ W'.H) → taOf S es σ W.H Q
def consX (r : Res ε α) (m : Option (Res ε β)) : Option (Res ε (α × β)) := r.k (fun x => m.bind fun q => q.k (fun y => some (.ok (x, y))) fun e => some (.er e)) fun e => some (.er e)
theorem jax_of {m : Option α} {G : α → List SP} {Xp : ε → XP} (h : JA S es Γ m G) : JAX S es Γ (m.bind fun x => some (Res.ok x)) G Xp := fun σ W F sta r hr Q k => by
  obtain ⟨x, h1, h2⟩ := run1 hr
  cases h2
  exact h σ W F sta x h1 Q k
theorem jax_cons {ma : Option (Res ε α)} {mb : Option (Res ε β)} {E : α → SP} {G : β → List SP} {Xp : ε → XP} (ha : JNX S e Γ ma (fun x => sh (E x)) Xp) (hb : JAX S es Γ mb G Xp) (hs : ∀ env, starEach (e :: es) env = (false, eval e env) :: starEach es env := by intro _; rfl) :
    JAX S (e :: es) Γ (ma.bind fun r => consX r mb) (fun p => E p.1 :: G p.2) Xp := fun σ W F st z hz Q k => by
  obtain ⟨r, h1, h2⟩ := run1 hz
  refine ⟨tCons (tOf S e) (taOf S es), fun X hX => pa_cons (peO hX) (paO hX) (hs _), ha σ W F st r h1 _ ?_⟩
  cases r with
  | er u =>
    cases h2
    exact k
  | ok x =>
    obtain ⟨q, h3, h4⟩ := run1 (f := fun q : Res ε β => q.k (fun y => some (Res.ok (x, y))) fun e => some (.er e)) h2
    intro v W1 F1 e1 _ _ r1
    refine hb σ W1 F (st.ext e1) q h3 _ ?_
    cases q with
    | er u =>
      cases h4
      exact fun c d W2 e2 hp => k c d W2 (e1.trans e2) hp
    | ok y =>
      cases h4
      exact fun vs W2 e2 h => k (v :: vs) W2 (e1.trans e2) ⟨SP.mono _ r1.2 e2.b, h⟩
def mapX (g : α → β) : Res ε α → Res ε β
  | .ok x => .ok (g x)
  | .er e => .er e
theorem jx_tupG {m : Option (Res ε α)} {G : α → List SP} {P : β → SP} {g : α → β} {Xp : ε → XP} {k : Nat} (h : JAX S es Γ m G Xp) (hR : ∀ x, htupS (G x) = P (g x) := by intro _; rfl) (hl : ∀ x, (G x).length ≤ 1000 := by intro _; exact Nat.le_of_ble_eq_true rfl) : JNX S (.Tuple es k pos) Γ (m.bind fun r => some (mapX g r)) (fun y => sh (P y)) Xp := fun σ W F st z hz Q kk => by
  obtain ⟨r, h1, h2⟩ := run1 hz
  cases h2
  refine ⟨tTup (taOf S es), fun X hX => pe_tup (paO hX), h σ W F st r h1 _ ?_⟩
  cases r with
  | er u => exact kk
  | ok x =>
    intro vs W' e hh
    refine ⟨Nat.le_trans (by rw [hh.len]; exact hl x) (by decide), fun q hq => ?_⟩
    have e2 := Ext.newB e.ok (o := .tup vs) hq
    exact kk (.ref q) ⟨upd W'.H q (.tup vs), upd W'.B q (.tup vs)⟩ [] (e.trans e2) (fun _ h => (List.not_mem_nil h).elim) FpOk.nil ⟨rfl, by rw [← hR]; exact ⟨q, vs, rfl, upd_same, hh.mono e2.b⟩⟩
theorem js_setX {x : Str} {pos' : Pos} {m : Option (Res ε α)} {R : α → OP} {Xp : ε → XP} (i : Nat) (nd : S.N.Nodup) (h : JNX S e Γ m R Xp) (hi : (Γ[i]?).isSome = true := by rfl) (hN : S.N[i]? = some x := by rfl) (hx : Loc S.sc x := by first | exact Or.inl rfl | exact Or.inr rfl) (hp : (S.prot.contains i) = false := by rfl)
    (hs : ∀ env, swapsWith e (some (.Name x pos')) pos.line env = pure false := by intro _; rfl) (hf : S.fn x = true ∨ S.sc.names.lookup x = some .local := by first | exact .inl rfl | exact .inr rfl) : JS S (.Assign [.Name x pos'] e pos) Γ m (XD (fun a => Γ.set i (some (R a))) Γ Xp) := fun σ W F sta y hy E k => by
  refine ⟨tAsg (tOf S e) (gName i), fun X hX => ps_set (by rw [hX.N]; exact nd) (by rw [hX.N]; exact hN) (locS hx hX) (peO hX) (hs _) (by rw [hX.fn, hX.sc]; exact hf), h σ W F sta y hy _ ?_⟩
  cases y with
  | ok v =>
    exact fun v W' Fv ext fr fp r => by
      obtain ⟨F', s', stp⟩ := sta_set sta ext fr fp r hi
      exact k _ W' F' (Keep.set (ncon hp)) stp s'
  | er u => exact fun c d W' ext hp => k c d σ W' F Keep.refl ext.stp0 (sta.ext ext) hp
theorem jb_retX {m : Option (Res ε α)} {R : α → OP} {Xp : ε → XP} {Δx : Ctx} (w : Weak Γ Δ) (wx : Weak Γ Δx) (h : JNX S e Γ m R Xp) : JB S (.Return (some e) pos :: rest) Γ m (RX Δ Δx R Xp) := fun σ W F sta y hy E k => by
  refine ⟨tSeq (tRet (tOf S e)) tNever, fun X hX => pss_cons (ps_ret (peO hX)) pss_never, h σ W F sta y hy _ ?_⟩
  cases y with
  | ok v =>
    exact fun v W' Fv ext fr fp r => by
      obtain ⟨F', s', sub⟩ := (sta.ext ext).weak w
      have stp := (ext.stp (F := F) fr).perm (F2 := F' ++ Fv) fun b hb => by
        rcases List.mem_append.mp hb with z | z
        · exact List.mem_append_left _ (sub b z)
        · exact List.mem_append_right _ z
      have fp' := sta.fp.fresh ext fp fr
      have fp2 : FpOk W' (F' ++ Fv) := s'.fp.app fp fun b hb h2 => fp'.disj b (sub b hb) h2
      exact k v σ W' F' Fv Keep.refl stp s' fp2 r
  | er u =>
    exact fun c d W' ext hp => by
      obtain ⟨F', s', sub⟩ := (sta.ext ext).weak wx
      exact k c d σ W' F' Keep.refl (ext.stp0.perm sub) s' hp
theorem jb_consX {ms : Option (Res ε α)} {Γl : α → Ctx} {Xp : ε → XP} {mr : α → Option ω} {D : ω → Kd} (ι : ε → ω) (w : Weak Γ Δ) (h : JS S st Γ ms (XD Γl Γ Xp)) (hι : ∀ e, D (ι e) = .xc Δ (Xp e)) (hr : ∀ x, JB S rest (Γl x) (mr x) D) : JB S (st :: rest) Γ (ms.bind fun r => r.k mr fun e => some (ι e)) D := fun σ W F sta z hz E k => by
  obtain ⟨r, h1, h2⟩ := run1 hz
  refine ⟨tSeq (tsOf S st) (tbOf S rest), fun X hX => pss_cons (psO hX) (pbO hX), ?_⟩
  refine h σ W F sta r h1 { E with nx := tbOf S rest E } ?_
  cases r with
  | ok x => exact fun σ' W' F' kp stp sta' => hr x σ' W' F' sta' z h2 E (k.before kp stp)
  | er u =>
    cases h2
    rw [hι] at k
    exact fun c d σ' W' F' kp stp sta' hp => by
      obtain ⟨F2, s', sub⟩ := sta'.weak w
      exact k c d σ' W' F2 kp (stp.perm sub) s' hp
theorem jb_raise {m : Option ε} {Xp : ε → XP} {D : ω → Kd} (ι : ε → ω) (w : Weak Γ Δ) (h : JM S e Γ m Xp) (hι : ∀ e, D (ι e) = .xc Δ (Xp e)) (hcm : S.calm = true := by rfl) : JB S (.Raise (some e) none pos :: rest) Γ (m.bind fun e => some (ι e)) D := fun σ W F sta z hz E k => by
  obtain ⟨u, h1, h2⟩ := run1 hz
  cases h2
  rw [hι] at k
  refine ⟨tSeq (fun _ σ H => tmOf S e σ H fun cls d H' => S.W cls d σ H') tNever, fun X hX => pss_cons (ps_raise (hX.calm.trans hcm) hX.tk (pmO hX)) pss_never, h σ W F sta u h1 _ fun c d W' ext hp => ?_⟩
  obtain ⟨F', s', sub⟩ := (sta.ext ext).weak w
  exact k c d σ W' F' Keep.refl (ext.stp0.perm sub) s' hp
end
/-- a def that may raise -/
theorem in_cxX {P : Program} {w : World} {K : PySem.W.Frag} {mg : Str → Option Value} {base : Heap} {N : List Str} {st : Stmt} {k : Nat} {prot : List Nat} {qual : Str} {f : Addr} {cdv : Value} {A : Around} {outer : List Env} {s : Shared} {H : Hp} {E : XK} (hr : Room k (A.deeper (envOfC qual (defScope st) s.heap.objs.size f cdv))) :
    ({ stcOf P w K mg base N (defScope st) k prot with W := fun c d _ H => E c d H } : Stc).In (cxOf (L2.CX P w) P w K mg base N qual (defScope st) f cdv A outer s H E) := ⟨rfl, rfl, rfl, rfl, rfl, rfl, rfl, rfl, rfl, fun _ => hr, hr.units, passes_of rfl, takes_of rfl rfl rfl rfl, fun _ => ⟨rfl, rfl⟩, nofun⟩
theorem fnd_pureX {P : Program} {w : World} {K : PySem.W.Frag} {mg : Str → Option Value} {base : Heap} {x qual : Str} {st : Stmt} {f : Addr} {fd : FuncData} {dvs : List V} {kwd : List (Str × V)} {N ps : List Str} {k : Nat} {G : α → List SP} {fM : α → Option (Res ε ρ)} {R : ρ → OP} {Xp : ε → XP} {Δ : Ctx} (F : FunD K x qual (defArgs st) (defBody st) (defScope st) dvs kwd f fd) (Sc : FnScope N ps (defScope st)) (hG : ∀ a, (G a).length = ps.length) (hn : ps.length ≤ N.length)
    (body : ∀ a (wx : WX), JB { stcOf P w K mg base N (defScope st) k [] with W := wx } (defBody st) (shC (G a) ++ nonC (N.length - ps.length)) (fM a) (RX Δ Δ R Xp)) : FnOk P w K mg base (L2.CX P w) (k + 1) f fd ps (spX G fM R Xp) := by
  refine F.ok Sc (fun vs H Q E h => ?_) (fun cdv A outer s H vs Q E hr h => ?_)
  · obtain ⟨a, W, r, _, _, h3, _⟩ := h
    rw [h3.len, hG]
  · obtain ⟨a, W, r, rfl, ok, h3, h4, kq⟩ := h
    refine ⟨tbOf { stcOf P w K mg base N (defScope st) k [] with W := fun c d _ H => E c d H } (defBody st), pbO (in_cxX hr), ?_⟩
    have hl : vs.length = ps.length := h3.len.trans (hG a)
    have sta : Sta (shC (G a) ++ nonC (N.length - ps.length)) (L2.start N vs) W [] := ⟨ok, FpOk.nil, by unfold L2.start shC nonC; simp [h3.len, hG, hl], by unfold L2.start; rw [hl]; exact holds_sh h3⟩
    refine body a _ _ W [] sta r h4 _ ?_
    cases r with
    | ok y =>
      intro v σ' W' F' Fv _ stp _ fp rr
      obtain ⟨ext, fr⟩ := stp.ext
      exact kq v W' Fv ext (fun a ha => fr a (List.mem_append_right _ ha)) fp.right rr
    | er u => exact fun c d σ' W' F' _ stp _ hp => kq c d W' stp.ext.1 hp
/-! ### what is raised -/
/-- an exception of the class at C, without attributes -/
def clsX (C : Addr) : XP := ⟨fun _ c d => c = .ref C ∧ d = none, fun h _ => h⟩
/-- an exception of the class C that holds this under that name (or nothing) -/
def excD (o : Option (Str × SP)) (B : Hp) (d : Option Addr) : Prop := match o with
  | none => d = none
  | some q => ∃ dd w, d = some dd ∧ B dd = some (.xd [(q.1, w)]) ∧ q.2.P B w
theorem excD_mono {o : Option (Str × SP)} {B B' : Hp} {d : Option Addr} (h : excD o B d) (e : Ex B B') : excD o B' d := by
  cases o with
  | none => exact h
  | some q =>
    obtain ⟨dd, w, h1, h2, h3⟩ := h
    exact ⟨dd, w, h1, e _ _ h2, q.2.mono h3 e⟩
def excX (C : Addr) (o : Option (Str × SP)) : XP := ⟨fun B c d => c = .ref C ∧ excD o B d, fun h e => ⟨h.1, excD_mono h.2 e⟩⟩
/-- it, caught -/
def excS (a : Addr) (d : Option Addr) (o : Option (Str × SP)) : SP := ⟨fun B v => v = .ref a ∧ excD o B d, fun h e => ⟨h.1, excD_mono h.2 e⟩⟩
/-- what the top tells of such a class -/
structure ExcF (K : PySem.W.Frag) (C : Addr) : Prop where
  q : PySem.W.excIn K C He.veBase "ValueError.__new__" = true
  kp : PySem.W.keepIn K (.ref C) = true
  s : PySem.W.subIn K (.ref C) (.type "BaseException") = some true
  t : PySem.W.typeIn K (.ref C) = some (.type "type")
theorem pmk_own0 {X : Cx} {C : Addr} {bmB : List Value} {B newId initId : String} {x : Str} {p pos : Pos} (F : ExcBaseFacts B newId initId bmB) (q : PySem.W.excIn X.K C bmB newId = true) (gC : X.mg x = some (.ref C))
    (kC : PySem.W.keepIn X.K (.ref C) = true) (r : Raises X (.ref C)) (hg : Gl X x) (hdb : (x == ("__debug__" : Str)) = false := by decide) :
    PMk X (.Call (.Name x p) [] [] pos) (fun _ H Q => Q (.ref C) none H) := by
  intro pins s σ H Q I h
  refine wpAny_Call_Name_kw (ld_glob I hg gC ?_ hdb)
  refine PySem.W.callWith_K0 I.kIn kC ?_
  show wpAny _ _ (call (.ref C) []) _ _ _
  obtain ⟨bm, N, nm, qn, bs, hdct, sn, sub, ab, col, dd, k0, k1, k2, k3, k5, mN, hC, hN, hni, T⟩ := exc_obj I.kIn q
  refine wpAny_call_exc_subT F T hC hN hni (fun h' e hm => ?_) (by show 0 ≤ sizeLine; exact Nat.zero_le _)
  exact mk_of I hm r h (I.hok.gone hm.new)
section
variable {S : Stc} {Γ Δ : Ctx} {a b c e : Expr} {es : List Expr} {pos : Pos} {st : Stmt} {rest A B : List Stmt}
theorem jm_own0 {x : Str} {p : Pos} {C : Addr} {u : ε} {Xp : ε → XP} (F : ExcF S.K C) (hm : S.mg x = some (.ref C)) (hX : Xp u = clsX C := by rfl) (hg : GlS S x := by rfl) (hdb : (x == ("__debug__" : Str)) = false := by decide) : JM S (.Call (.Name x p) [] [] pos) Γ (some u) Xp := fun σ W F' sta y hy Q k => by
  cases hy
  refine ⟨fun _ H Q => Q (.ref C) none H, fun X hX' => pmk_own0 PySem.F.excBase_ValueError (by rw [hX'.K]; exact F.q) (mgS hm hX') (by rw [hX'.K]; exact F.kp) (raises_own (by rw [hX'.K]; exact F.s) (by rw [hX'.K]; exact F.t)) (hg.gl hX') hdb, k _ _ W (Ext.refl sta.ok) ?_⟩
  rw [hX]
  exact ⟨rfl, rfl⟩
theorem jm_ownA {x : Str} {p : Pos} {C : Addr} {m : Option α} {G : α → List SP} {u : α → ε} {Xp : ε → XP} (F : ExcF S.K C) (hm : S.mg x = some (.ref C)) (ha : JA S (e :: es) Γ m G) (hX : ∀ y, Xp (u y) = clsX C := by intro _; rfl) (hl : ∀ y, (G y).length ≤ 1000 := by intro _; exact Nat.le_of_ble_eq_true rfl) (hg : GlS S x := by rfl) (hdb : (x == ("__debug__" : Str)) = false := by decide)
    (he : ∀ env, starEach (e :: es) env = (false, eval e env) :: starEach es env := by intro _; rfl) (hpl : ∀ env, (backTo pos (starEach es env)).any (·.1) = false := by intro _; rfl) : JM S (.Call (.Name x p) (e :: es) [] pos) Γ (m.bind fun y => some (u y)) Xp := fun σ W F' sta y hy Q k => by
  obtain ⟨y, h1, h2⟩ := run1 hy
  cases h2
  refine ⟨fun σ H Q => taOf S (e :: es) σ H fun vs H1 => vs.length ≤ sizeLine ∧ Q (.ref C) none H1, fun X hX' => pmk_ownA PySem.F.excBase_ValueError (by rw [hX'.K]; exact F.q) (mgS hm hX') (by rw [hX'.K]; exact F.kp) (raises_own (by rw [hX'.K]; exact F.s) (by rw [hX'.K]; exact F.t)) (hg.gl hX') (paO hX') hdb (he _) (hpl _), ha σ W F' sta y h1 _ fun vs W1 ext hh => ⟨?_, k _ _ W1 ext ?_⟩⟩
  · rw [hh.len]
    exact Nat.le_trans (hl y) (by decide)
  · rw [hX]
    exact ⟨rfl, rfl⟩
/-! ### try .. except C: (every exception of the body is C's) -/
/-- the context of an except suite -/
abbrev Stc.sui (S : Stc) : Stc := { S with W := fun _ _ _ _ => False, calm := false, top := false, ex := none }
theorem Stc.In.sui {X : Cx} (h : S.In X) (a : Addr) (pn : List (Addr × Obj)) : S.sui.In (X.suite a pn) :=
  ⟨h.prog, h.w, h.K, h.mg, h.base, h.N, h.sc, h.fn, rfl, nofun, h.un, PassesOwn.never, takes_none, nofun, nofun⟩
theorem Stc.In.tr {X : Cx} (h : S.In X) (hx : S.ex = none) {W : WX} {pn : List (Addr × Obj)} {xe : Value → Shared → Prop} (tk : Takes (X.tr pn xe) W) (pass : PassesOwn (model X.prog X.w) X.A X.env xe) : ({ S with W := W } : Stc).In (X.tr pn xe) :=
  ⟨h.prog, h.w, h.K, h.mg, h.base, h.N, h.sc, h.fn, h.calm, h.room, h.un, pass, tk, h.top, fun a C d z => by have : S.ex = some (a, C, d) := z; rw [hx] at this; cases this⟩
/-- what the handler does with the body's outcome -/
def tryM (m : Option (Res ε ω)) (f : ε → Option ω) : Option ω := m.bind fun r => r.k (fun x => some x) f
def TD (D : ω → Kd) (Γx : Ctx) (Xp : ε → XP) : Res ε ω → Kd
  | .ok x => D x
  | .er e => .xc Γx (Xp e)
theorem js_try {x : Str} {c : Value} {np pos' : Pos} {b₀ : Stmt} {mb : Option (Res ε ω)} {ms : ε → Option ω} {Xp : ε → XP} {D : ω → Kd} (Γx : Ctx) (hb : ∀ wx : WX, JB { S with W := wx } B Γ mb (TD D Γx Xp)) (hs : ∀ u, JB S.sui (b₀ :: A) Γx (ms u) D) (hm : S.mg x = some c) (hx : ∀ u B c' d, (Xp u).P B c' d → PySem.W.exmOne S.K c' c = some true)
    (hx0 : ∀ o, ∀ Γ' R, D o ≠ .xc Γ' R) (hg : GlS S x := by rfl) (hdb : (x == ("__debug__" : Str)) = false := by decide) (htop : S.top = true := by rfl) (hex : S.ex = none := by rfl) : JS S (.Try B [.ExceptHandler (some (.Name x np)) none (b₀ :: A) pos'] [] [] pos) Γ (tryM mb ms) D := fun σ W F sta z hz E k => by
  obtain ⟨r, h1, h2⟩ := run1 hz
  refine ⟨fun D σ H => tbOf { S with W := wOnly S.K c (fun _ _ _ => tbOf S.sui (b₀ :: A)) S.W D } B D σ H, fun X hX => ?_, ?_⟩
  · obtain ⟨t1, t2⟩ := hX.top htop
    have := ps_try_only (pos := pos) (pos' := pos') (np := np) t1 t2 (c := c) (x := x) (b₀ := b₀) (suite := A) (body := B) (ts := fun _ _ _ => tbOf S.sui (b₀ :: A)) (tb := fun W => tbOf { S with W := W } B) ⟨hg.gl hX, hdb, .inl (mgS hm hX)⟩ hX.tk (fun W pn xe tk pass => pbO (hX.tr hex tk pass)) (fun a oe cls d pn _ _ => pbO (hX.sui a _))
    rw [hX.K] at this
    exact this
  · refine hb _ σ W F sta r h1 E ?_
    cases r with
    | ok o =>
      cases h2
      show Post _ S.prot σ W F E (D z)
      generalize hq : D z = q at k
      cases q with
      | nx Γ => exact k
      | bk Γ => exact k
      | ct Γ => exact k
      | rt Γ R => exact k
      | xc Γ R => exact absurd hq (hx0 z Γ R)
    | er u =>
      intro c' d σ' W' F' kp stp sa hp
      refine ⟨true, hx u _ _ _ hp, fun _ a ha => ?_, fun q => nomatch q⟩
      refine hs u σ' W' F' sa z h2 E ?_
      have k' := k.before kp stp
      generalize hq : D z = q at k'
      cases q with
      | nx Γ => exact k'
      | bk Γ => exact k'
      | ct Γ => exact k'
      | rt Γ R => exact k'
      | xc Γ R => exact absurd hq (hx0 z Γ R)
end
end CC
set_option maxHeartbeats 4000000
/-! More operators. -/
namespace CC
open PySem PySem.Spec L2
open PyProof.Rows hiding St
variable {α β γ δ τ υ ω ρ ε : Type}
/-! ### in -/
structure FlatE [DecidableEq α] (E : α → SP) (V : α → V) : Prop where
  eq : ∀ {B x v}, (E x).P B v → v = V x
  flat : ∀ x, flatV (V x) = true
  inj : ∀ x y, eqV (V x) (V y) = decide (x = y)
theorem fl_int : FlatE intS V.int := ⟨fun h => h, fun _ => rfl, fun x y => by show (x == y) = _; rw [Bool.eq_iff_iff]; simp⟩
theorem fl_str : FlatE strS V.str := ⟨fun h => h, fun _ => rfl, fun x y => by show (x == y) = _; rw [Bool.eq_iff_iff]; simp⟩
theorem fl_bool : FlatE boolS V.bl := ⟨fun h => h, fun _ => rfl, fun x y => by show (x == y) = _; rw [Bool.eq_iff_iff]; simp⟩
theorem each_flat [DecidableEq α] {E : α → SP} {V : α → V} (f : FlatE E V) {B : Hp} : ∀ {vs : List L2.V} {xs : List α}, Each E B vs xs → vs = xs.map V
  | [], [], _ => rfl
  | v :: vs, x :: xs, h => by rw [f.eq h.1, each_flat f h.2]; rfl
  | [], _ :: _, h => h.elim
  | _ :: _, [], h => h.elim
theorem flat_all [DecidableEq α] {E : α → SP} {V : α → V} (f : FlatE E V) (xs : List α) : (xs.map V).all flatV = true := by
  rw [List.all_map]
  exact List.all_eq_true.mpr fun x _ => f.flat x
theorem flat_in [DecidableEq α] {E : α → SP} {V : α → V} (f : FlatE E V) (x : α) (xs : List α) : inV (V x) (xs.map V) = decide (x ∈ xs) := by
  unfold inV
  rw [List.any_map]
  have e : ((fun y => eqV y (V x)) ∘ V) = fun y => decide (y = x) := funext fun y => f.inj y x
  rw [e]
  rw [Bool.eq_iff_iff]
  simp
theorem ov_inT [DecidableEq α] {K : PySem.W.Frag} {E : α → SP} {V : α → V} (f : FlatE E V) : OpV (rIn K false) E (tupS E) (fun x xs => some (decide (x ∈ xs))) fun z => sh (boolS z) := fun W x y v u z ok hx hy e Q k => by
  cases e
  obtain ⟨a, vs, rfl, h2, h3⟩ := hy
  have e1 := each_flat f h3
  have e2 := f.eq hx
  subst e1 e2
  exact ⟨a, _, rfl, .inr (.inl (.inl (ok a _ h2))), f.flat x, flat_all f y, k.val ok (by show L2.V.bl (inV (V x) (y.map V)) = _; rw [flat_in f])⟩
theorem ov_inL [DecidableEq α] {K : PySem.W.Frag} {E : α → SP} {V : α → V} (f : FlatE E V) : OpV (rIn K false) E (lstS E) (fun x xs => some (decide (x ∈ xs))) fun z => sh (boolS z) := fun W x y v u z ok hx hy e Q k => by
  cases e
  obtain ⟨a, vs, rfl, h2, h3⟩ := hy
  have e1 := each_flat f h3
  have e2 := f.eq hx
  subst e1 e2
  exact ⟨a, _, rfl, .inl (.inl (.inl (ok a _ h2))), f.flat x, flat_all f y, k.val ok (by show L2.V.bl (inV (V x) (y.map V)) = _; rw [flat_in f])⟩
theorem ov_ninT [DecidableEq α] {K : PySem.W.Frag} {E : α → SP} {V : α → V} (f : FlatE E V) : OpV (rIn K true) E (tupS E) (fun x xs => some (!decide (x ∈ xs))) fun z => sh (boolS z) := fun W x y v u z ok hx hy e Q k => by
  cases e
  obtain ⟨a, vs, rfl, h2, h3⟩ := hy
  have e1 := each_flat f h3
  have e2 := f.eq hx
  subst e1 e2
  exact ⟨a, _, rfl, .inr (.inl (.inl (ok a _ h2))), f.flat x, flat_all f y, k.val ok (by show L2.V.bl (!inV (V x) (y.map V)) = _; rw [flat_in f])⟩
theorem ov_ninL [DecidableEq α] {K : PySem.W.Frag} {E : α → SP} {V : α → V} (f : FlatE E V) : OpV (rIn K true) E (lstS E) (fun x xs => some (!decide (x ∈ xs))) fun z => sh (boolS z) := fun W x y v u z ok hx hy e Q k => by
  cases e
  obtain ⟨a, vs, rfl, h2, h3⟩ := hy
  have e1 := each_flat f h3
  have e2 := f.eq hx
  subst e1 e2
  exact ⟨a, _, rfl, .inl (.inl (.inl (ok a _ h2))), f.flat x, flat_all f y, k.val ok (by show L2.V.bl (!inV (V x) (y.map V)) = _; rw [flat_in f])⟩
theorem oIn {S : Stc} : ∀ X, S.In X → OpR X (compareOp .In) (rIn S.K false) := fun _ h => h.K ▸ op_in_seq
theorem oNotIn {S : Stc} : ∀ X, S.In X → OpR X (compareOp .NotIn) (rIn S.K true) := fun _ h => h.K ▸ op_notIn_seq
/-! ### tuple +, list * -/
theorem oCatT {S : Stc} : ∀ X, S.In X → OpR X (binaryOp .Add) (rCatA S.K) := fun _ h => h.K ▸ op_catA
theorem ov_catT {K : PySem.W.Frag} {E : α → SP} : OpV (rCatA K) (tupS E) (tupS E) catM fun x => sh (tupS E x) := fun W x y v u z ok hx hy e Q k => by
  unfold catM at e
  split at e
  · rename_i hl
    cases e
    obtain ⟨a, vs, rfl, a2, a3⟩ := hx
    obtain ⟨b, us, rfl, b2, b3⟩ := hy
    refine ⟨a, b, vs, us, rfl, rfl, .inl (.inl (ok a _ a2)), .inl (.inl (ok b _ b2)), lim_le (by rw [a3.len, b3.len]; exact hl), fun h => ?_, fun _ h => ?_, fun _ _ => k.newT ok (a3.app b3)⟩
    · have : x = [] := List.eq_nil_of_length_eq_zero (by rw [← a3.len, h]; rfl)
      subst this
      exact k.val ok ⟨b, us, rfl, b2, b3⟩
    · have : y = [] := List.eq_nil_of_length_eq_zero (by rw [← b3.len, h]; rfl)
      subst this
      rw [List.append_nil] at k
      exact k.val ok ⟨a, vs, rfl, a2, a3⟩
  · cases e
def repM (xs : List α) (k : Int) : Option (List α) := if xs.length * k.toNat ≤ LIM ∧ -1000000 ≤ k ∧ k ≤ 1000000 then some (List.replicate k.toNat xs).flatten else none
theorem oRep {S : Stc} : ∀ X, S.In X → OpR X (binaryOp .Mult) rRep := fun _ _ => op_rep
theorem each_rep {E : α → SP} {B : Hp} {vs : List V} {xs : List α} (h : Each E B vs xs) : ∀ n : Nat, Each E B (List.replicate n vs).flatten (List.replicate n xs).flatten
  | 0 => trivial
  | n + 1 => by
    rw [List.replicate_succ, List.replicate_succ, List.flatten_cons, List.flatten_cons]
    exact h.app (each_rep h n)
theorem ov_rep {E : α → SP} : OpV rRep (lstS E) intS repM (lstO fun x => sh (E x)) := fun W x y v u z ok hx hy e Q k => by
  unfold repM at e
  split at e
  · rename_i hl
    cases e
    cases hy
    obtain ⟨a, vs, rfl, a2, a3⟩ := hx
    exact ⟨a, y, vs, rfl, rfl, ok a _ a2, by omega, by omega, lim_le (by rw [a3.len]; exact hl.1), k.newL ok (each_rep a3 _)⟩
  · cases e
/-! ### a < b < c -/
section
variable {S : Stc} {Γ : Ctx} {a b c e : Expr} {pos : Pos}
theorem jn_chain {op op' : CmpOp} {r r' : R2} {E : α → SP} {G : β → SP} {I : γ → SP} {f : α → β → Option Bool} {g : β → γ → Option Bool} {ma : Option α} {mb : Option β} {mc : Option γ} (ho : ∀ X, S.In X → OpR X (compareOp op) r) (hr : OpV r E G f fun z => sh (boolS z)) (ho' : ∀ X, S.In X → OpR X (compareOp op') r') (hr' : OpV r' G I g fun z => sh (boolS z))
    (ha : JN S a Γ ma fun x => sh (E x)) (hb : JN S b Γ mb fun x => sh (G x)) (hc : JN S c Γ mc fun x => sh (I x)) (hm : lastMarks [op, op'] [b, c] = false := by with_unfolding_all rfl) :
    JN S (.Compare a [op, op'] [b, c] pos) Γ (ma.bind fun x => mb.bind fun y => (f x y).bind fun t => bif t then mc.bind fun z => g y z else some false) fun z => sh (boolS z) := fun σ W F st z hz Q k => by
  obtain ⟨x, y, h1, h2, h3⟩ := run2 hz
  obtain ⟨t, h4, h5⟩ := run1 h3
  refine ⟨tChain r r' (tOf S a) (tOf S b) (tOf S c), fun X hX => pe_chain (ho X hX) (ho' X hX) (peO hX) (peO hX) (peO hX) hm, ?_⟩
  refine ha σ W F st x h1 _ fun v W1 F1 e1 _ _ r1 => hb σ W1 F (st.ext e1) y h2 _ fun u W2 F2 e2 _ _ r2 => ?_
  refine hr W2 x y v u t e2.ok (SP.mono _ r1.2 e2.b) r2.2 h4 _ fun w W3 F3 e3 _ _ r3 => ?_
  have e13 := (e1.trans e2).trans e3
  refine ⟨t, r3.2, ?_⟩
  cases t with
  | false =>
    cases h5
    rw [if_neg (fun z => nomatch z)]
    exact (k.ext e13).val e3.ok rfl
  | true =>
    rw [if_pos rfl]
    obtain ⟨q, h6, h7⟩ := run1 (f := fun z => g y z) h5
    refine hc σ W3 F (st.ext e13) q h6 _ fun w' W4 F4 e4 _ _ r4 => ?_
    exact hr' W4 y q u w' z e4.ok (SP.mono _ (SP.mono _ r2.2 e3.b) e4.b) r4.2 h7 Q (k.ext (e13.trans e4))
theorem sum_lst {m : Option (List Int)} {p : Pos} (hm : S.mg "sum" = none) (h : JN S a Γ m fun x => sh (lstS intS x)) (hg : GlS S "sum" := by rfl) (hs : ∀ env, starEach [a] env = [(false, eval a env)] := by intro _; rfl) (hcm : S.calm = true := by rfl) : JN S (.Call (.Name "sum" p) [a] [] pos) Γ (m.bind fun x => some x.sum) fun z => sh (intS z) :=
  jn_b1 (f := fun x : List Int => some x.sum) (fun X hX => hX.K ▸ cr_sum (hX.calm.trans hcm)) (fun W x v z ok hh e Q k => by
    cases e
    obtain ⟨a, vs, rfl, h2, h3⟩ := hh
    have e1 := each_flat fl_int h3
    subst e1
    exact ⟨a, x, rfl, .inl (.inl (ok a _ h2)), k.val ok rfl⟩) hm h hg (by decide +kernel) (by decide) (by decide) hs
end
end CC
set_option maxHeartbeats 4000000
/-! Dicts: keys are ints (texts), values are shared; records with written keys. -/
namespace CC
open PySem PySem.Spec L2
open PyProof.Rows hiding St
variable {α β γ δ τ υ ω ρ ε κ : Type}
structure KeyE (kE : κ → SP) (kk : κ → Key) : Prop where
  eq : ∀ {B k v}, (kE k).P B v → v = kV (kk k)
  inj : ∀ {a b}, kk a = kk b → a = b
theorem ke_int : KeyE intS Sum.inl := ⟨fun h => h, fun h => Sum.inl.inj h⟩
theorem ke_str : KeyE strS Sum.inr := ⟨fun h => h, fun h => Sum.inr.inj h⟩
def DRel (kk : κ → Key) (E : α → SP) (B : Hp) : List (Key × V) → List (κ × α) → Prop
  | [], [] => True
  | p :: r, q :: s => p.1 = kk q.1 ∧ (E q.2).P B p.2 ∧ DRel kk E B r s
  | _, _ => False
theorem DRel.mono {kk : κ → Key} {E : α → SP} {B B' : Hp} (e : Ex B B') : ∀ {r : List (Key × V)} {s : List (κ × α)}, DRel kk E B r s → DRel kk E B' r s
  | [], [], _ => trivial
  | _ :: _, _ :: _, h => ⟨h.1, SP.mono _ h.2.1 e, DRel.mono e h.2.2⟩
  | [], _ :: _, h => h.elim
  | _ :: _, [], h => h.elim
theorem DRel.len {kk : κ → Key} {E : α → SP} {B : Hp} : ∀ {r : List (Key × V)} {s : List (κ × α)}, DRel kk E B r s → r.length = s.length
  | [], [], _ => rfl
  | _ :: _, _ :: _, h => by rw [List.length_cons, List.length_cons, DRel.len h.2.2]
  | [], _ :: _, h => h.elim
  | _ :: _, [], h => h.elim
variable [DecidableEq κ]
def getM : List (κ × α) → κ → Option α
  | [], _ => none
  | q :: s, k => if q.1 = k then some q.2 else getM s k
def putR : List (κ × α) → κ → α → List (κ × α)
  | [], _, _ => []
  | q :: s, k, x => (if q.1 = k then (q.1, x) else q) :: putR s k x
def putM (s : List (κ × α)) (k : κ) (x : α) : List (κ × α) := if (getM s k).isSome then putR s k x else s ++ [(k, x)]
theorem DRel.get {kE : κ → SP} {kk : κ → Key} (K : KeyE kE kk) {E : α → SP} {B : Hp} : ∀ {r : List (Key × V)} {s : List (κ × α)} (k : κ), DRel kk E B r s → match getM s k with | none => valV r (kk k) = none | some x => ∃ v, valV r (kk k) = some v ∧ (E x).P B v
  | [], [], k, _ => rfl
  | p :: r, q :: s, k, h => by
    unfold getM
    by_cases e : q.1 = k
    · rw [if_pos e]
      exact ⟨p.2, valV_pos (h.1.trans (by rw [e])), h.2.1⟩
    · rw [if_neg e]
      have := DRel.get K k h.2.2
      rw [valV_neg (fun z => e (K.inj (h.1.symm.trans z)))]
      exact this
  | [], _ :: _, _, h => h.elim
  | _ :: _, [], _, h => h.elim
theorem DRel.repl {kE : κ → SP} {kk : κ → Key} (K : KeyE kE kk) {E : α → SP} {B : Hp} {k : κ} {x : α} {v : V} (hv : (E x).P B v) : ∀ {r : List (Key × V)} {s : List (κ × α)}, DRel kk E B r s → DRel kk E B (r.map fun kv => if kv.1 = kk k then (kv.1, v) else kv) (putR s k x)
  | [], [], _ => trivial
  | p :: r, q :: s, h => by
    have ih := DRel.repl K (k := k) hv h.2.2
    rw [List.map_cons]
    unfold putR
    by_cases e : q.1 = k
    · rw [if_pos e, if_pos (h.1.trans (by rw [e]))]
      exact ⟨h.1, hv, ih⟩
    · rw [if_neg e, if_neg (fun z => e (K.inj (h.1.symm.trans z)))]
      exact ⟨h.1, h.2.1, ih⟩
  | [], _ :: _, h => h.elim
  | _ :: _, [], h => h.elim
theorem DRel.snoc {kk : κ → Key} {E : α → SP} {B : Hp} {k : κ} {x : α} {v : V} (hv : (E x).P B v) : ∀ {r : List (Key × V)} {s : List (κ × α)}, DRel kk E B r s → DRel kk E B (r ++ [(kk k, v)]) (s ++ [(k, x)])
  | [], [], _ => ⟨rfl, hv, trivial⟩
  | _ :: _, _ :: _, h => ⟨h.1, h.2.1, DRel.snoc hv h.2.2⟩
  | [], _ :: _, h => h.elim
  | _ :: _, [], h => h.elim
theorem DRel.put {kE : κ → SP} {kk : κ → Key} (K : KeyE kE kk) {E : α → SP} {B : Hp} {r : List (Key × V)} {s : List (κ × α)} {k : κ} {x : α} {v : V} (hv : (E x).P B v) (h : DRel kk E B r s) : DRel kk E B (putK r (kk k) v) (putM s k x) := by
  have g := h.get K k
  unfold putK putM
  rw [valV_any]
  cases q : getM s k with
  | none =>
    rw [q] at g
    rw [show (valV r (kk k)).isSome = false by rw [g]; rfl, if_neg (fun z => nomatch z), if_neg (fun z => nomatch z)]
    exact h.snoc hv
  | some y =>
    rw [q] at g
    obtain ⟨u, g, _⟩ := g
    rw [show (valV r (kk k)).isSome = true by rw [g]; rfl, if_pos rfl, if_pos (show (some y).isSome = true from rfl)]
    exact h.repl K hv
omit [DecidableEq κ] in
theorem DRel.nil {kk : κ → Key} {E : α → SP} {B : Hp} : DRel kk E B [] ([] : List (κ × α)) := trivial
/-- a dict that stands still; one of one's own -/
def dkS (kk : κ → Key) (E : α → SP) (s : List (κ × α)) : SP := ⟨fun B v => ∃ a r, v = .ref a ∧ B a = some (.dK r) ∧ DRel kk E B r s, fun h e => by
  obtain ⟨a, r, h1, h2, h3⟩ := h
  exact ⟨a, r, h1, e a _ h2, h3.mono e⟩⟩
def dkO (kk : κ → Key) (E : α → SP) (s : List (κ × α)) : OP := ⟨fun W v F => ∃ a r, v = .ref a ∧ W.H a = some (.dK r) ∧ F = [a] ∧ DRel kk E W.B r s, fun h e k => by
  obtain ⟨a, r, h1, h2, rfl, h4⟩ := h
  exact ⟨a, r, h1, (k a List.mem_cons_self).trans h2, rfl, h4.mono e⟩⟩
omit [DecidableEq κ] in
theorem fz_dk {kk : κ → Key} {E : α → SP} (s : List (κ × α)) : FrzN (dkO kk E s) (dkS kk E s) := ⟨fun {W v F} h nd fr ok => by
  obtain ⟨a, r, rfl, h2, rfl, h4⟩ := h
  have na : W.B a = none := fr a List.mem_cons_self
  refine ⟨upd W.B a (.dK r), Ex.new na, fun b o e => ?_, fun b hb n => ?_, a, r, rfl, upd_same, h4.mono (Ex.new na)⟩
  · by_cases z : b = a
    · subst z
      rw [upd_same] at e
      rw [h2]
      exact e
    · rw [upd_ne z] at e
      exact ok b o e
  · have z : b ≠ a := fun z => n (z ▸ List.mem_cons_self)
    rw [upd_ne z]
    exact hb⟩
section
variable {S : Stc} {Γ : Ctx} {a b e : Expr} {es : List Expr} {pos : Pos}
omit [DecidableEq κ] in
theorem jn_dnew {kk : κ → Key} {E : α → SP} : JN S (.Dict [] [] pos) Γ (some []) (dkO kk E) := fun σ W F sta z hz Q kq => by
  cases hz
  refine ⟨tDNewK, fun X hX => pe_dnewK, fun p hp => ?_⟩
  exact kq (.ref p) ⟨upd W.H p (.dK []), W.B⟩ [p] (Ext.new sta.ok hp) (fun x hx => by rw [List.mem_singleton.mp hx]; exact hp) (fp_one (sta.ok.back hp)) ⟨p, [], rfl, upd_same, rfl, DRel.nil⟩
/-- what is read of either -/
def DRd (kk : κ → Key) (E : α → SP) (R : List (κ × α) → OP) : Prop := ∀ W s v F, Ex W.B W.H → (R s).C W v F → ∃ a r, v = .ref a ∧ W.H a = some (.dK r) ∧ DRel kk E W.B r s
omit [DecidableEq κ] in
theorem rd_dkS {kk : κ → Key} {E : α → SP} : DRd kk E (fun s => sh (dkS kk E s)) := fun W s v F ok h => by
  obtain ⟨_, a, r, h1, h2, h3⟩ := h
  exact ⟨a, r, h1, ok a _ h2, h3⟩
omit [DecidableEq κ] in
theorem rd_dkO {kk : κ → Key} {E : α → SP} : DRd kk E (dkO kk E) := fun W s v F ok h => by
  obtain ⟨a, r, h1, h2, _, h3⟩ := h
  exact ⟨a, r, h1, h2, h3⟩
theorem jn_din {kE : κ → SP} {kk : κ → Key} {E : α → SP} {R : List (κ × α) → OP} {ma : Option κ} {mb : Option (List (κ × α))} (K : KeyE kE kk) (D : DRd kk E R) (ha : JN S a Γ ma fun k => sh (kE k)) (hb : JR S b Γ mb R) (h1 : behindInMarks .In b = false := by first | exact nobehind _ (by decide) (by decide) | rfl) :
    JN S (.Compare a [.In] [b] pos) Γ (ma.bind fun k => mb.bind fun s => some (getM s k).isSome) fun z => sh (boolS z) := fun σ W F st z hz Q kq => by
  obtain ⟨k, s, m1, m2, m3⟩ := run2 hz
  cases m3
  refine ⟨tDIn (tOf S a) (tOf S b), fun X hX => pe_cmp (pc_din (by have := hX.un; omega) (peO hX) (peO hX)) h1, ?_⟩
  refine ha σ W F st k m1 _ fun v W1 F1 e1 _ _ r1 => hb σ W1 F (st.ext e1) s m2 _ fun u W2 e2 ⟨F2, r2, _⟩ => ?_
  obtain ⟨p, r, rfl, h2, h3⟩ := D W2 s u F2 e2.ok r2
  have ek := K.eq r1.2
  subst ek
  refine ⟨p, _, rfl, DGet.k h2, ?_⟩
  have g := h3.get K k
  have e : (valV r (kk k)).isSome = (getM s k).isSome := by
    cases q : getM s k with
    | none => rw [q] at g; rw [g]; rfl
    | some y =>
      rw [q] at g
      obtain ⟨u, g, _⟩ := g
      rw [g]
      rfl
  exact (kq.ext (e1.trans e2)).val e2.ok (by rw [e]; rfl)
theorem jn_dnin {kE : κ → SP} {kk : κ → Key} {E : α → SP} {R : List (κ × α) → OP} {ma : Option κ} {mb : Option (List (κ × α))} (K : KeyE kE kk) (D : DRd kk E R) (ha : JN S a Γ ma fun k => sh (kE k)) (hb : JR S b Γ mb R) (h1 : behindInMarks .NotIn b = false := by first | exact nobehind _ (by decide) (by decide) | rfl) :
    JN S (.Compare a [.NotIn] [b] pos) Γ (ma.bind fun k => mb.bind fun s => some (!(getM s k).isSome)) fun z => sh (boolS z) := fun σ W F st z hz Q kq => by
  obtain ⟨k, s, m1, m2, m3⟩ := run2 hz
  cases m3
  refine ⟨tDNotIn (tOf S a) (tOf S b), fun X hX => pe_cmp (pc_dnotin (by have := hX.un; omega) (peO hX) (peO hX)) h1, ?_⟩
  refine ha σ W F st k m1 _ fun v W1 F1 e1 _ _ r1 => hb σ W1 F (st.ext e1) s m2 _ fun u W2 e2 ⟨F2, r2, _⟩ => ?_
  obtain ⟨p, r, rfl, h2, h3⟩ := D W2 s u F2 e2.ok r2
  have ek := K.eq r1.2
  subst ek
  refine ⟨p, _, rfl, DGet.k h2, ?_⟩
  have g := h3.get K k
  have e : (valV r (kk k)).isSome = (getM s k).isSome := by
    cases q : getM s k with
    | none => rw [q] at g; rw [g]; rfl
    | some y =>
      rw [q] at g
      obtain ⟨u, g, _⟩ := g
      rw [g]
      rfl
  exact (kq.ext (e1.trans e2)).val e2.ok (by rw [e]; rfl)
theorem jn_dget {kE : κ → SP} {kk : κ → Key} {E : α → SP} {R : List (κ × α) → OP} {ma : Option κ} {mb : Option (List (κ × α))} (K : KeyE kE kk) (D : DRd kk E R) (hb : JR S b Γ mb R) (ha : JN S a Γ ma fun k => sh (kE k)) (hs : NoSl a := by exact fun _ _ => rfl) :
    JN S (.Subscript b a pos) Γ (mb.bind fun s => ma.bind fun k => getM s k) fun z => sh (E z) := fun σ W F st z hz Q kq => by
  obtain ⟨s, k, m1, m2, m3⟩ := run2 hz
  refine ⟨tDGet (tOf S b) (tOf S a), fun X hX => pe_dget (by have := hX.un; omega) (peO hX) (peO hX) hs, ?_⟩
  refine hb σ W F st s m1 _ fun u W1 e1 ⟨F2, r2, al⟩ => ha σ W1 F (st.ext e1) k m2 _ fun v W2 F1 e2 _ _ r1 => ?_
  have r2' : (R s).C W2 u F2 := OP.loc _ r2 e2.b fun x hx => e2.h.eq (al x hx)
  obtain ⟨p, r, rfl, h2, h3⟩ := D W2 s u F2 e2.ok r2'
  have ek := K.eq r1.2
  subst ek
  have g := h3.get K k
  rw [m3] at g
  obtain ⟨w, g1, g2⟩ := g
  exact ⟨p, w, rfl, by have := DGet.k (k := kk k) h2; rwa [g1] at this, (kq.ext (e1.trans e2)).val e2.ok g2⟩
omit [DecidableEq κ] in
theorem len_dk {kk : κ → Key} {E : α → SP} {R : List (κ × α) → OP} {m : Option (List (κ × α))} {p : Pos} (D : DRd kk E R) (hm : S.mg "len" = none) (h : JR S a Γ m R) (hg : GlS S "len" := by rfl) (hs : ∀ env, starEach [a] env = [(false, eval a env)] := by intro _; rfl) : JN S (.Call (.Name "len" p) [a] [] pos) Γ (m.bind fun xs => some (xs.length : Int)) fun z => sh (intS z) := fun σ W F sta z hz Q kq => by
  obtain ⟨s, h1, h2⟩ := run1 hz
  cases h2
  refine ⟨tCB (fun xs H Q => ∃ a kvs, xs = [V.ref a] ∧ H a = some (.dK kvs) ∧ Q (.int kvs.length) H) (tCons (tOf S a) tNil), fun X hX => pe_callB call_lenD (hg.gl hX) (mgS hm hX) PySem.boot_len (pa_cons (peO hX) pa_nil (hs _)) (by decide) (by decide) (hs _) rfl, h σ W F sta s h1 _ fun v W' ext ⟨F1, r0, al⟩ => ?_⟩
  obtain ⟨p, r, rfl, h2, h3⟩ := D W' s v F1 ext.ok r0
  exact ⟨p, r, rfl, h2, (kq.ext ext).val ext.ok (by rw [h3.len]; rfl)⟩
def putMO (s : List (κ × α)) (k : κ) (x : α) : Option (List (κ × α)) := if s.length < LIM then some (putM s k x) else none
theorem js_dput {x : Str} {p0 tpos : Pos} {kE : κ → SP} {kk : κ → Key} {E : α → SP} {s : List (κ × α)} {mv : Option α} {mk : Option κ} (i : Nat) (K : KeyE kE kk) (h : JN S e Γ mv fun x => sh (E x)) (hk : JN S b Γ mk fun k => sh (kE k)) (hi : Γ[i]? = some (some (dkO kk E s)) := by rfl) (hN : S.N[i]? = some x := by rfl) (hv : Vis S.sc x := by first | exact Or.inl rfl | exact Or.inr (Or.inl rfl) | exact Or.inr (Or.inr rfl))
    (hd : (x == ("__debug__" : Str)) = false := by decide) (hcd : (x == ("__classdict__" : Str)) = false := by decide) (hs : ∀ env, swapsWith e (some (.Subscript (.Name x p0) b tpos)) pos.line env = pure false := by intro _; rfl) :
    JS S (.Assign [.Subscript (.Name x p0) b tpos] e pos) Γ (mv.bind fun y => mk.bind fun k => putMO s k y) fun s' => .nx (Γ.set i (some (dkO kk E s'))) := fun σ W F sta z hz Ed kq => by
  obtain ⟨y, k, m1, m2, m3⟩ := run2 hz
  unfold putMO at m3
  split at m3
  · rename_i hlen
    cases m3
    refine ⟨sDPut (tVar i) (tOf S b) (tOf S e), fun X hX => ps_dput (by have := hX.un; omega) (pe_var (by rw [hX.N]; exact hN) (visS hv hX) hd hcd) (peO hX) (peO hX) (hs _), ?_⟩
    refine h σ W F sta y m1 _ fun u W1 Fv ext fr fp r => ?_
    obtain ⟨rfl, r⟩ := r
    obtain ⟨v, F1, F2, a1, a2, a3, a4⟩ := (sta.ext ext).hold.at hi
    refine ⟨v, a1, hk σ W1 F (sta.ext ext) k m2 _ fun w W3 Fv3 ext3 _ _ r3 => ?_⟩
    have sta3 := (sta.ext ext).ext ext3
    obtain ⟨v', F1', F2', c1, c2, c3, c4⟩ := sta3.hold.at hi
    have ev : v' = v := by rw [a1] at c1; exact (Option.some.inj (Option.some.inj c1)).symm
    subst ev
    obtain ⟨p, rr, rfl, d2, rfl, d4⟩ := c2
    have ek := K.eq r3.2
    subst ek
    have hB : W3.B p = none := (sta3.fp.perm c3).fr p (by simp)
    refine ⟨p, _, rfl, DPut.k d2 (lim_lt (by rw [d4.len]; exact hlen)), ?_⟩
    have d5 : DRel kk E W3.B (putK rr (kk k) u) (putM s k y) := d4.put K (SP.mono _ r ext3.b)
    have fpA := (sta3.fp.perm c3).left
    obtain ⟨F', s', stp⟩ := sta_own (W' := ⟨upd W3.H p (.dK (putK rr (kk k) u)), W3.B⟩) (F1' := [p]) (o' := dkO kk E (putM s k y)) [] sta3 (by rw [List.append_nil]; exact sta3.fp) c1 c3 c4 (wr_ok ext3.ok hB) rfl (fun a ha _ => upd_ne fun z => ha (z ▸ List.mem_cons_self)) wr_al
      ⟨fpA.nd, fun a ha => wr_al a (fpA.al a ha), fpA.fr⟩ (fun a ha => .inl ha) ⟨p, _, rfl, upd_same, rfl, d5⟩
    rw [List.append_nil] at stp
    exact kq σ _ F' Keep.refl ((ext.stp0.trans ext3.stp0).trans stp) s'
  · cases m3
end
end CC
set_option maxHeartbeats 4000000
/-! Records: a dict of one's own with written keys. -/
namespace CC
open PySem PySem.Spec L2
open PyProof.Rows hiding St
variable {α β γ δ τ υ ω ρ ε κ : Type}
def kvz : List Str → List V → List (Key × V)
  | k :: ks, v :: vs => (.inr k, v) :: kvz ks vs
  | _, _ => []
theorem kvz_len : ∀ {ks : List Str} {vs : List V}, vs.length = ks.length → (kvz ks vs).length = ks.length
  | [], [], _ => rfl
  | k :: ks, v :: vs, h => by
    show (kvz ks vs).length + 1 = _
    rw [kvz_len (by simpa using h)]
    rfl
  | [], _ :: _, h => by simp at h
  | _ :: _, [], h => by simp at h
theorem kvz_val : ∀ {ks : List Str} {vs : List V} {i : Nat} {x : Str} {v : V}, ks.Nodup → ks[i]? = some x → vs[i]? = some v → valV (kvz ks vs) (.inr x) = some v
  | k :: ks, u :: vs, 0, x, v, nd, h1, h2 => by
    have e1 : k = x := by simpa using h1
    have e2 : u = v := by simpa using h2
    subst e1 e2
    exact valV_pos rfl
  | k :: ks, u :: vs, i + 1, x, v, nd, h1, h2 => by
    have h1' : ks[i]? = some x := by simpa using h1
    have ne : ¬ ((.inr k : Key) = .inr x) := fun z => by
      have := Sum.inr.inj z
      exact (List.nodup_cons.mp nd).1 (this ▸ List.mem_of_getElem? h1')
    show valV ((.inr k, u) :: kvz ks vs) (.inr x) = _
    rw [valV_neg ne]
    exact kvz_val (List.nodup_cons.mp nd).2 h1' (by simpa using h2)
  | [], _, _, _, _, _, h1, _ => by simp at h1
  | _ :: _, [], _, _, _, _, _, h2 => by simp at h2
theorem kvz_map : ∀ {ks : List Str} {vs : List V} {x : Str} {u : V}, x ∉ ks → (kvz ks vs).map (fun kv => if kv.1 = (.inr x : Key) then (kv.1, u) else kv) = kvz ks vs
  | [], _, _, _, _ => rfl
  | _ :: _, [], _, _, _ => rfl
  | k :: ks, v :: vs, x, u, h => by
    have ne : ¬ ((.inr k : Key) = .inr x) := fun z => h (by rw [Sum.inr.inj z]; exact List.mem_cons_self)
    show (if (.inr k : Key) = .inr x then _ else _) :: (kvz ks vs).map _ = _
    rw [if_neg ne, kvz_map (fun z => h (List.mem_cons_of_mem _ z))]
    rfl
theorem kvz_put : ∀ {ks : List Str} {vs : List V} {i : Nat} {x : Str} {u : V}, ks.Nodup → vs.length = ks.length → ks[i]? = some x → (kvz ks vs).map (fun kv => if kv.1 = (.inr x : Key) then (kv.1, u) else kv) = kvz ks (vs.set i u)
  | k :: ks, v :: vs, 0, x, u, nd, hl, h1 => by
    have e1 : k = x := by simpa using h1
    subst e1
    show (if (.inr k : Key) = .inr k then _ else _) :: (kvz ks vs).map _ = _
    rw [if_pos rfl, kvz_map (List.nodup_cons.mp nd).1]
    rfl
  | k :: ks, v :: vs, i + 1, x, u, nd, hl, h1 => by
    have h1' : ks[i]? = some x := by simpa using h1
    have ne : ¬ ((.inr k : Key) = .inr x) := fun z => by
      have := Sum.inr.inj z
      exact (List.nodup_cons.mp nd).1 (this ▸ List.mem_of_getElem? h1')
    show (if (.inr k : Key) = .inr x then _ else _) :: (kvz ks vs).map _ = _
    rw [if_neg ne, kvz_put (List.nodup_cons.mp nd).2 (by simpa using hl) h1']
    rfl
  | [], _, _, _, _, _, _, h1 => by simp at h1
  | _ :: _, [], _, _, _, _, hl, _ => by simp at hl
theorem kvz_putK {ks : List Str} {vs : List V} {i : Nat} {x : Str} {u v : V} (nd : ks.Nodup) (hl : vs.length = ks.length) (h1 : ks[i]? = some x) (h2 : vs[i]? = some v) : putK (kvz ks vs) (.inr x) u = kvz ks (vs.set i u) := by
  unfold putK
  rw [valV_any, kvz_val nd h1 h2, if_pos (show (some v).isSome = true from rfl), kvz_put nd hl h1]
theorem kvz_merge : ∀ {ks : List Str} {vs : List V} {acc : List (Key × V)}, ks.Nodup → (∀ k ∈ ks, valV acc (.inr k) = none) → mergeK acc (kvz ks vs) = acc ++ kvz ks vs
  | [], _, acc, _, _ => by
    show acc = acc ++ []
    rw [List.append_nil]
  | _ :: _, [], acc, _, _ => by
    show acc = acc ++ []
    rw [List.append_nil]
  | k :: ks, v :: vs, acc, nd, h => by
    show mergeK (putK acc (.inr k) v) (kvz ks vs) = _
    rw [putK_new v (h k List.mem_cons_self), kvz_merge (List.nodup_cons.mp nd).2 fun j hj => ?_, List.append_assoc]
    · rfl
    · rw [valV_snoc _ _ _ _ (h k List.mem_cons_self), if_neg (fun z => (List.nodup_cons.mp nd).1 (by have e : j = k := Sum.inr.inj z; rw [← e]; exact hj))]
      exact h j (List.mem_cons_of_mem _ hj)
/-- the record with the keys ks -/
def recO (ks : List Str) (ps : List OP) : OP := ⟨fun W v F => ∃ a vs F2, v = .ref a ∧ W.H a = some (.dK (kvz ks vs)) ∧ F = a :: F2 ∧ HetO W vs ps F2, fun h e k => by
  obtain ⟨a, vs, F2, h1, h2, h3, h4⟩ := h
  subst h3
  exact ⟨a, vs, F2, h1, (k a List.mem_cons_self).trans h2, rfl, h4.loc e fun b hb => k b (List.mem_cons_of_mem _ hb)⟩⟩
section
variable {S : Stc} {Γ : Ctx} {a b e : Expr} {es : List Expr} {pos : Pos}
theorem jr_ixD {ks : List Str} {ps : α → List OP} {R : β → OP} {g : α → β} {m : Option α} {x : Str} {kk p'} (k : Nat) (h : JR S a Γ m fun x => recO ks (ps x)) (hk : ∀ x, (ps x)[k]? = some (R (g x)) := by intro _; rfl) (hx : ks[k]? = some x := by rfl) (nd : ks.Nodup := by decide) :
    JR S (.Subscript a (.Constant (.str x) kk p') pos) Γ (m.bind fun x => some (g x)) R := fun σ W F sta z hz Q kq => by
  obtain ⟨y, h1, h2⟩ := run1 hz
  cases h2
  refine ⟨tDGet (tOf S a) (tC (.str x)), fun X hX => pe_dget (by have := hX.un; omega) (peO hX) pe_str (fun _ _ => rfl), h σ W F sta y h1 _ fun v W' ext ⟨F1, r, al⟩ => ?_⟩
  obtain ⟨p, vs, F2, rfl, q2, rfl, q3⟩ := r
  obtain ⟨u, G1, G2, u1, u2, u3, _⟩ := q3.at (hk y)
  have gd : DGet W'.H p (kV (.inr x)) (valV (kvz ks vs) (.inr x)) := DGet.k q2
  rw [kvz_val nd hx u1] at gd
  exact ⟨p, u, rfl, gd, kq u W' ext ⟨G1, u2, fun b hb => al b (List.mem_cons_of_mem _ (u3.mem_iff.mpr (List.mem_append_left _ hb)))⟩⟩
theorem js_setD {x y : Str} {p0 tpos : Pos} {ks : List Str} {ps : List OP} {E : α → SP} {o : OP} {mv : Option α} {kk p'} (i k : Nat) (h : JN S e Γ mv fun x => sh (E x)) (hi : Γ[i]? = some (some (recO ks ps)) := by rfl) (hk : ps[k]? = some o := by rfl) (hx : ks[k]? = some y := by rfl) (hl : ps.length = ks.length := by rfl) (nd : ks.Nodup := by decide) (hle : ks.length ≤ 1000 := by decide) (hN : S.N[i]? = some x := by rfl) (hv : Vis S.sc x := by first | exact Or.inl rfl | exact Or.inr (Or.inl rfl) | exact Or.inr (Or.inr rfl))
    (hd : (x == ("__debug__" : Str)) = false := by decide) (hcd : (x == ("__classdict__" : Str)) = false := by decide) (hs : ∀ env, swapsWith e (some (.Subscript (.Name x p0) (.Constant (.str y) kk p') tpos)) pos.line env = pure false := by intro _; rfl) :
    JS S (.Assign [.Subscript (.Name x p0) (.Constant (.str y) kk p') tpos] e pos) Γ mv fun z => .nx (Γ.set i (some (recO ks (ps.set k (sh (E z)))))) := fun σ W F sta z m1 Ed kq => by
  refine ⟨sDPut (tVar i) (tC (.str y)) (tOf S e), fun X hX => ps_dput (by have := hX.un; omega) (pe_var (by rw [hX.N]; exact hN) (visS hv hX) hd hcd) pe_str (peO hX) (hs _), ?_⟩
  refine h σ W F sta z m1 _ fun u W1 Fv ext fr fp r => ?_
  obtain ⟨rfl, r⟩ := r
  have sta1 := sta.ext ext
  obtain ⟨v, F1, F2, a1, a2, a3, a4⟩ := sta1.hold.at hi
  obtain ⟨p, vs, G2, rfl, b2, rfl, b4⟩ := a2
  have hB : W1.B p = none := (sta1.fp.perm a3).fr p (by simp)
  obtain ⟨w0, K1, K2, k1, k2, k3, k4⟩ := b4.at hk
  have fpA := (sta1.fp.perm a3).left
  have hvl : vs.length = ks.length := by rw [b4.len]; exact hl
  have nP : ∀ a ∈ G2, a ≠ p := fun a ha z => (List.nodup_cons.mp fpA.nd).1 (z ▸ ha)
  obtain ⟨G', g1, g2⟩ := k4 ⟨upd W1.H p (.dK (kvz ks (vs.set k u))), W1.B⟩ (sh (E z)) u [] (fun _ _ h => h) (fun a ha => upd_ne (nP a (k3.mem_iff.mpr (List.mem_append_right _ ha)))) ⟨rfl, r⟩
  have sub : ∀ a ∈ p :: G', a ∈ p :: G2 := fun a ha => by
    rcases List.mem_cons.mp ha with z | z
    · exact z ▸ List.mem_cons_self
    · exact List.mem_cons_of_mem _ (k3.mem_iff.mpr (List.mem_append_right _ (by simpa using g2.mem_iff.mp z)))
  have fpB : FpOk W1 (p :: G') := by
    refine FpOk.left (F' := K1) (fpA.perm ?_)
    refine List.Perm.cons p ?_
    refine k3.trans (List.perm_append_comm.trans (List.Perm.append_right K1 ?_))
    simpa using g2.symm
  refine ⟨.ref p, a1, p, _, rfl, DPut.k (k := .inr y) b2 (by rw [kvz_len hvl]; exact Nat.lt_of_le_of_lt hle (by decide)), ?_⟩
  rw [kvz_putK nd hvl hx k1]
  obtain ⟨F', s', stp⟩ := sta_own (W' := ⟨upd W1.H p (.dK (kvz ks (vs.set k u))), W1.B⟩) (F1' := p :: G') (o' := recO ks (ps.set k (sh (E z)))) [] sta1 (by rw [List.append_nil]; exact sta1.fp) a1 a3 a4 (wr_ok ext.ok hB) rfl (fun a ha _ => upd_ne fun z => ha (z ▸ List.mem_cons_self)) wr_al
    ⟨fpB.nd, fun a ha => wr_al a (fpB.al a ha), fpB.fr⟩ (fun a ha => .inl (sub a ha)) ⟨p, vs.set k u, G', rfl, upd_same, rfl, g1⟩
  rw [List.append_nil] at stp
  exact kq σ _ F' Keep.refl (ext.stp0.trans stp) s'
/-! ### {'a': e, ..} -/
def pz : List Str → List V → List (V × V)
  | k :: ks, v :: vs => (.str k, v) :: pz ks vs
  | _, _ => []
theorem pz_eq : ∀ (ks : List Str) (vs : List V), pz ks vs = (kvz ks vs).map fun kv => (kV kv.1, kv.2)
  | [], _ => rfl
  | _ :: _, [] => rfl
  | k :: ks, v :: vs => by
    show (V.str k, v) :: pz ks vs = (kV (.inr k), v) :: _
    rw [pz_eq ks vs]
    rfl
def JP (S : Stc) (pos : Pos) (ks : List Str) (keys : List (Option Expr)) (vals : List Expr) (Γ : Ctx) (m : Option α) (R : α → List SP) : Prop :=
  ∃ trs, (∀ X, S.In X → PPs X pos keys vals trs) ∧ ∀ σ W F, Sta Γ σ W F → ∀ x, m = some x → ∀ Q : List (V × V) → Hp → Prop, (∀ vs W', Ext W W' → Hets W'.B vs (R x) → Q (pz ks vs) W'.H) → tPairs trs σ W.H Q
theorem jp_nil : JP S pos [] [] [] Γ (some ()) fun _ => [] := ⟨[], fun X _ => pps_nil, fun σ W F sta x hx Q k => k [] W (Ext.refl sta.ok) trivial⟩
theorem jp_cons {x : Str} {kk p'} {ks : List Str} {keys : List (Option Expr)} {vals : List Expr} {ma : Option α} {mb : Option β} {E : α → SP} {G : β → List SP} (ha : JN S e Γ ma fun x => sh (E x)) (hb : JP S pos ks keys vals Γ mb G) :
    JP S pos (x :: ks) (some (.Constant (.str x) kk p') :: keys) (e :: vals) Γ (ma.bind fun x => mb.bind fun y => some (x, y)) fun p => E p.1 :: G p.2 := by
  obtain ⟨trs, t1, t2⟩ := hb
  refine ⟨(tC (.str x), tOf S e) :: trs, fun X hX => pps_cons pe_str (peO hX) (t1 X hX), fun σ W F st z hz Q k => ?_⟩
  obtain ⟨y, w, h1, h2, h3⟩ := run2 hz
  cases h3
  show tOf S e σ W.H _
  refine ha σ W F st y h1 _ fun v W1 F1 e1 _ _ r1 => t2 σ W1 F (st.ext e1) w h2 _ fun vs W2 e2 h => ?_
  exact k (v :: vs) W2 (e1.trans e2) ⟨SP.mono _ r1.2 e2.b, h⟩
theorem HetO.of_hts {W : Wd} : ∀ {vs : List V} {ps : List SP}, Hets W.B vs ps → HetO W vs (ps.map sh) []
  | [], [], _ => rfl
  | _ :: _, _ :: _, h => ⟨[], [], rfl, ⟨rfl, h.1⟩, HetO.of_hts h.2⟩
  | [], _ :: _, h => h.elim
  | _ :: _, [], h => h.elim
theorem jn_rec {ks : List Str} {keys : List (Option Expr)} {vals : List Expr} {m : Option α} {R : α → List SP} {T : β → OP} {g : α → β} (h : JP S pos ks keys vals Γ m R) (hR : ∀ x, recO ks ((R x).map sh) = T (g x) := by intro _; rfl) (nd : ks.Nodup := by decide) (hks : ks.length ≤ 15 := by decide) (hl : ∀ x, (R x).length = ks.length := by intro _; rfl)
    (hall : keys.all (·.isSome) = true := by rfl) (hl2 : keys.length = vals.length := by rfl) (h0 : keys ≠ [] := by exact fun z => nomatch z) (h15 : keys.length ≤ 15 := by exact Nat.le_of_ble_eq_true rfl) : JN S (.Dict keys vals pos) Γ (m.bind fun x => some (g x)) T := fun σ W F sta z hz Q kk => by
  obtain ⟨x, h1, h2⟩ := run1 hz
  cases h2
  obtain ⟨trs, t1, t2⟩ := h
  refine ⟨tDisp trs, fun X hX => pe_disp (t1 X hX) hall hl2 h0 h15, fun p hp => ?_⟩
  have e1 : Ext W ⟨upd W.H p (.dK []), W.B⟩ := Ext.new sta.ok hp
  refine t2 σ ⟨upd W.H p (.dK []), W.B⟩ F (sta.ext e1) x h1 _ fun vs W2 e2 hh => ?_
  have hp2 : W2.H p = some (.dK []) := e2.h p _ upd_same
  have hvl : vs.length = ks.length := hh.len.trans (hl x)
  refine ⟨hp2, kvz ks vs, pz_eq ks vs, by rw [kvz_len hvl]; exact hks, ?_⟩
  rw [kvz_merge nd (fun _ _ => rfl), List.nil_append]
  have hB : W2.B p = none := e2.fr p (by show upd W.H p (.dK []) p ≠ none; rw [upd_same]; exact fun z => nomatch z) (sta.ok.back hp)
  have e3 : Ext W ⟨upd W2.H p (.dK (kvz ks vs)), W2.B⟩ := by
    refine ⟨wr_ok e2.ok hB, fun a o h => ?_, e2.b, fun a h3 h4 => ?_⟩
    · have na : a ≠ p := fun z => by rw [z, hp] at h; cases h
      show upd W2.H p _ a = _
      rw [upd_ne na]
      exact e2.h a o (e1.h a o h)
    · exact (e1.trans e2).fr a h3 h4
  have fp3 : FpOk ⟨upd W2.H p (.dK (kvz ks vs)), W2.B⟩ [p] := by
    refine ⟨List.nodup_cons.mpr ⟨by simp, List.nodup_nil⟩, fun a ha => ?_, fun a ha => ?_⟩
    · rw [List.mem_singleton.mp ha]
      show upd W2.H p _ p ≠ none
      rw [upd_same]
      exact fun z => nomatch z
    · rw [List.mem_singleton.mp ha]
      exact hB
  exact kk (.ref p) _ [p] e3 (fun a ha => by rw [List.mem_singleton.mp ha]; exact hp) fp3
    (by rw [← hR]; exact ⟨p, vs, [], rfl, upd_same, rfl, HetO.of_hts (W := ⟨upd W2.H p (.dK (kvz ks vs)), W2.B⟩) hh⟩)
end
end CC
set_option maxHeartbeats 4000000
/-! Comprehensions of two clauses. -/
namespace CC
open PySem PySem.Spec L2
open PyProof.Rows hiding St
variable {α β γ δ τ υ ω ρ ε κ : Type}
/-- a new list at D is being made: bs of ys is left (W' stood behind the making) -/
def Bld (R : β → OP) (W' : Wd) (D : Addr) (ys bs : List β) (W1 : Wd) : Prop := W'.H D = none ∧ Ext W' W1 ∧ ∃ (acc : List V) (as : List β) (Fa : List Addr), W1.H D = some (.lst acc) ∧ W1.B D = none ∧ as ++ bs = ys ∧ Owns R W1 acc as Fa ∧ FpOk W1 Fa ∧ D ∉ Fa ∧ ∀ a ∈ Fa, W'.H a = none
theorem Bld.start {R : β → OP} {W' : Wd} {D : Addr} {ys : List β} (ok : Ex W'.B W'.H) (hD : W'.H D = none) : Bld R W' D ys ys ⟨upd W'.H D (.lst []), W'.B⟩ :=
  ⟨hD, Ext.new ok hD, [], [], [], upd_same, ok.back hD, rfl, rfl, FpOk.nil, by simp, by simp⟩
theorem Bld.ext {R : β → OP} {W' W1 W2 : Wd} {D : Addr} {ys bs : List β} (b : Bld R W' D ys bs W1) (e : Ext W1 W2) : Bld R W' D ys bs W2 := by
  obtain ⟨hD, e1, acc, as, Fa, d1, d2, c2, o1, o2, o3, o4⟩ := b
  exact ⟨hD, e1.trans e, acc, as, Fa, e.h D _ d1, e.fr D (by rw [d1]; exact fun z => nomatch z) d2, c2, o1.loc e.b fun a ha => e.h.eq (o2.al a ha), o2.ext e, o3, o4⟩
theorem Bld.step {R : β → OP} {W' W1 W4 : Wd} {D : Addr} {ys bs : List β} {y : β} {u : V} {Fu : List Addr} (b : Bld R W' D ys (y :: bs) W1) (hl : ys.length ≤ LIM) (e4 : Ext W1 W4) (fr4 : ∀ a ∈ Fu, W1.H a = none) (fp4 : FpOk W4 Fu) (r4 : (R y).C W4 u Fu) :
    ∃ acc, W4.H D = some (.lst acc) ∧ acc.length < sizeLine ∧ Bld R W' D ys bs ⟨upd W4.H D (.lst (acc ++ [u])), W4.B⟩ := by
  obtain ⟨hD, e1, acc, as, Fa, d1, d2, c2, o1, o2, o3, o4⟩ := b
  have hD4 : W4.H D = some (.lst acc) := e4.h D _ d1
  have hB4 : W4.B D = none := e4.fr D (by rw [d1]; exact fun z => nomatch z) d2
  have ha4 : acc.length < LIM := by
    have h1 := o1.len
    have h2 := congrArg List.length c2
    rw [List.length_append, List.length_cons] at h2
    omega
  refine ⟨acc, hD4, lim_lt ha4, hD, ?_, acc ++ [u], as ++ [y], Fa ++ Fu, upd_same, hB4, by rw [List.append_assoc]; exact c2, ?_, ?_, ?_, ?_⟩
  · have q := e1.trans e4
    refine ⟨fun a o h => ?_, fun a o h => ?_, q.b, q.fr⟩
    · have z : a ≠ D := fun z => by
        rw [z] at h
        rw [show W4.B D = some o from h] at hB4
        cases hB4
      show upd W4.H D _ a = some o
      rw [upd_ne z]
      exact q.ok a o h
    · show upd W4.H D _ a = some o
      rw [upd_ne (ne_of_none h hD)]
      exact q.h a o h
  · have nD : ∀ a ∈ Fa ++ Fu, a ≠ D := fun a ha z => by
      rcases List.mem_append.mp ha with h | h
      · exact o3 (z ▸ h)
      · have q2 := fr4 a h
        rw [z, d1] at q2
        cases q2
    have A1 : Owns R W4 acc as Fa := o1.loc e4.b fun a ha => e4.h.eq (o2.al a ha)
    have A2 : Owns R W4 [u] [y] Fu := ⟨Fu, [], (List.append_nil _).symm, r4, rfl⟩
    have A3 : Owns R W4 (acc ++ [u]) (as ++ [y]) (Fa ++ Fu) := A1.app A2
    refine Owns.loc (W := W4) (W' := ⟨upd W4.H D (.lst (acc ++ [u])), W4.B⟩) (fun _ _ h => h) A3 fun a ha => ?_
    show upd W4.H D (.lst (acc ++ [u])) a = W4.H a
    exact upd_ne (nD a ha)
  · have fpA : FpOk W4 (Fa ++ Fu) := o2.fresh e4 fp4 fr4
    refine ⟨fpA.nd, fun a ha => ?_, fpA.fr⟩
    show upd W4.H D _ a ≠ none
    by_cases z : a = D
    · rw [z, upd_same]
      exact fun z => nomatch z
    · rw [upd_ne z]
      exact fpA.al a ha
  · intro h
    rcases List.mem_append.mp h with h | h
    · exact o3 h
    · have q2 := fr4 D h
      rw [d1] at q2
      cases q2
  · intro a ha
    rcases List.mem_append.mp ha with h | h
    · exact o4 a h
    · exact e1.h.back (fr4 a h)
theorem Sta.via {Γ : Ctx} {σ : L2.St} {W' W3 W5 : Wd} {F F2 : List Addr} (s : Sta Γ σ W3 F2) (sub : ∀ a ∈ F2, a ∈ F) (fp : FpOk W' F) (e3 : Ext W' W3) (e5 : Ext W' W5) (eb : Ex W3.B W5.B) : Sta Γ σ W5 F2 :=
  ⟨e5.ok, ⟨s.fp.nd, fun a h => e5.h.ne (fp.al a (sub a h)), fun a h => e5.fr a (fp.al a (sub a h)) (fp.fr a (sub a h))⟩, s.len, s.hold.loc eb fun a h => (e5.h.eq (fp.al a (sub a h))).trans (e3.h.eq (fp.al a (sub a h))).symm⟩
def comp2Go (t : α → Option Bool) (it : α → Option (List β)) (t1 : α → β → Option Bool) (f : α → β → Option γ) : List α → Option (List γ)
  | [] => some []
  | x :: xs => (t x).bind fun b => bif b then (it x).bind fun zs => (compGo (t1 x) (f x) zs).bind fun ys => (comp2Go t it t1 f xs).bind fun r => some (ys ++ r) else comp2Go t it t1 f xs
def comp2M (t : α → Option Bool) (it : α → Option (List β)) (t1 : α → β → Option Bool) (f : α → β → Option γ) (xs : List α) : Option (List γ) := (comp2Go t it t1 f xs).bind fun ys => if ys.length ≤ LIM then some ys else none
def JC2 (S : Stc) (elt tg iter : Expr) (ifs : List Expr) (tg1 iter1 : Expr) (ifs1 : List Expr) (scope : Scope) (Γ : Ctx) (m : Option α) (R : α → OP) : Prop :=
  ∃ (own : List (Str × Nat)) (vs1 : List Nat), BlkOk S.N S.sc scope own ∧ (∀ i ∈ vs1, i ∈ own.map (·.2)) ∧ ∀ σ W F, Sta Γ σ W F → ∀ x, m = some x → ∀ Q : VK, Got (R x) W Q → tLc2 (tiOf S tg iter) (tgOf (S.blk scope) tg) (ttsOf (S.blk scope) ifs) (tiOf (S.blk scope) tg1 iter1) (tgOf (S.blk scope) tg1) (ttsOf (S.blk scope) ifs1) (tOf (S.blk scope) elt) (own.map (·.2)) vs1 σ W.H Q
section
variable {S : Stc} {Γ : Ctx} {elt tg iter tg1 iter1 : Expr} {ifs ifs1 : List Expr} {pos : Pos}
theorem jn_lc2 {scope : Scope} {m : Option α} {R : α → OP} (nd : S.N.Nodup) (h : JC2 S elt tg iter ifs tg1 iter1 ifs1 scope Γ m R) (hs : ∀ env x, foldedSetIterable iter env x = pure x := by intro _ _; rfl) (hs1 : ∀ env x, foldedSetIterable iter1 env x = pure x := by intro _ _; rfl) (hcm : S.calm = true := by rfl) :
    JN S (.ListComp elt [⟨tg, iter, ifs, 0⟩, ⟨tg1, iter1, ifs1, 0⟩] scope pos) Γ m R := fun σ W F st x hx Q k => by
  obtain ⟨own, vs1, ok, hv, go⟩ := h
  exact ⟨_, fun X hX => pe_lc2 (hX.calm.trans hcm) (by rw [hX.N]; exact nd) (piO hX) (by rw [hX.N, hX.sc]; exact ok) hv (fun s H C cl fp => pgO (hX.blk scope s H C cl fp)) (fun s H C cl fp => ptsO (hX.blk scope s H C cl fp)) (fun s H C cl fp => piO (hX.blk scope s H C cl fp)) (fun s H C cl fp => pgO (hX.blk scope s H C cl fp)) (fun s H C cl fp => ptsO (hX.blk scope s H C cl fp)) (fun s H C cl fp => peO (hX.blk scope s H C cl fp)) (hs _) hs1, go σ W F st x hx Q k⟩
theorem jc2_of {scope : Scope} {mi : Option (List α)} {E : α → SP} {E1 : β → SP} {up : α → Ctx → Ctx} {up1 : β → Ctx → Ctx} {ws ws1 : List Nat} {mt : α → Option Bool} {mi1 : α → Option (List β)} {mt1 : α → β → Option Bool} {me : α → β → Option γ} {R : γ → OP} (own : List (Str × Nat)) (vs1 : List Nat) (hi : JIc S tg iter Γ mi E) (ok : blkC S.N S.sc scope own = true) (hg : JG (S.blk scope) tg E up ws)
    (hw : ∀ i ∈ ws, i ∈ own.map (·.2)) (hl : ∀ i ∈ ws, i < Γ.length) (ht : ∀ x, JTs (S.blk scope) ifs (up x (wipeC Γ (own.map (·.2)))) (mt x)) (hv : ∀ i ∈ vs1, i ∈ own.map (·.2))
    (hi1 : ∀ x, JI (S.blk scope) tg1 iter1 (up x (wipeC Γ (own.map (·.2)))) (mi1 x) E1) (hg1 : JG (S.blk scope) tg1 E1 up1 ws1) (hw1 : ∀ i ∈ ws1, i ∈ vs1) (hl1 : ∀ x, ∀ i ∈ ws1, i < (up x (wipeC Γ (own.map (·.2)))).length)
    (ht1 : ∀ x z, JTs (S.blk scope) ifs1 (up1 z (wipeC (up x (wipeC Γ (own.map (·.2)))) vs1)) (mt1 x z)) (he : ∀ x z, JN (S.blk scope) elt (up1 z (wipeC (up x (wipeC Γ (own.map (·.2)))) vs1)) (me x z) R) :
    JC2 S elt tg iter ifs tg1 iter1 ifs1 scope Γ (mi.bind fun xs => comp2M mt mi1 mt1 me xs) fun ys => lstO R ys := by
  refine ⟨own, vs1, blkOk_by ok, hv, fun σ W F st ys hx Q k => ?_⟩
  obtain ⟨xs, h1, h2⟩ := run1 hx
  unfold comp2M at h2
  obtain ⟨ys', h2, h3⟩ := run1 h2
  split at h3
  · rename_i hlen
    cases h3
    refine hi σ W F st xs h1 _ fun J W' ext iok => fun D hD => ?_
    have st' := st.ext ext
    refine ⟨fun i m H => m = xs.length - i ∧ i ≤ xs.length ∧ ∃ (W1 : Wd) (bs : List γ), W1.H = H ∧ Bld R W' D ys bs W1 ∧ comp2Go mt mi1 mt1 me (xs.drop i) = some bs, ⟨xs.length, by simp, Nat.zero_le _, _, ys, rfl, Bld.start ext.ok hD, by simpa using h2⟩, ?_⟩
    rintro i m H ⟨rfl, hi', W1, bs, rfl, bd, c1⟩
    obtain ⟨iok1, iok2⟩ := iok W1 bd.2.1
    by_cases hlt : i < xs.length
    · obtain ⟨g1, g2⟩ := iok1 i xs[i] (List.getElem?_eq_getElem hlt)
      refine .inr ⟨g1, fun H' => ∃ m', m' < xs.length - i ∧ (m' = xs.length - (i + 1) ∧ i + 1 ≤ xs.length ∧ ∃ (W1 : Wd) (bs : List γ), W1.H = H' ∧ Bld R W' D ys bs W1 ∧ comp2Go mt mi1 mt1 me (xs.drop (i + 1)) = some bs), fun H' h => h, fun v H' y => ?_⟩
      obtain ⟨W2, rfl, e2, p2⟩ := g2 v H' y
      have hDrop : xs.drop i = xs[i] :: xs.drop (i + 1) := List.drop_eq_getElem_cons hlt
      rw [hDrop] at c1
      obtain ⟨b, t1, t2⟩ := run1 (f := fun b => bif b then (mi1 xs[i]).bind fun zs => (compGo (mt1 xs[i]) (me xs[i]) zs).bind fun ys => (comp2Go mt mi1 mt1 me (xs.drop (i + 1))).bind fun r => some (ys ++ r) else comp2Go mt mi1 mt1 me (xs.drop (i + 1))) c1
      obtain ⟨Fw, sw, subw⟩ := (st'.ext (bd.2.1.trans e2)).wipe (own.map (·.2))
      refine hg _ _ W2 Fw xs[i] v sw (fun j hj => by rw [wipeC_len]; exact hl j hj) p2 _ fun σ2 F2 wp _ s2 sub2 => ⟨?_, ?_⟩
      · rw [wp _ hw]
        exact jc_of.wipe_wipe σ (own.map (·.2))
      refine ht xs[i] σ2 W2 F2 s2 b t1 _ fun W3 e3 => ?_
      have bd3 := (bd.ext e2).ext e3
      cases b with
      | false => exact iteF ⟨xs.length - (i + 1), by omega, rfl, hlt, W3, bs, rfl, bd3, t2⟩
      | true =>
        obtain ⟨zs, u1, u2⟩ := run1 (f := fun zs => (compGo (mt1 xs[i]) (me xs[i]) zs).bind fun ys => (comp2Go mt mi1 mt1 me (xs.drop (i + 1))).bind fun r => some (ys ++ r)) t2
        obtain ⟨ys1, r1, u3, u4, u5⟩ := run2 (f := fun ys r => some (ys ++ r)) u2
        cases u5
        refine iteT (hi1 xs[i] σ2 W3 F2 (s2.ext e3) zs u1 _ fun J1 W4 ext4 jok => ?_)
        have s4 := (s2.ext e3).ext ext4
        refine ⟨fun j m H => m = zs.length - j ∧ j ≤ zs.length ∧ ∃ (W5 : Wd) (cs : List γ), W5.H = H ∧ Ex W4.B W5.B ∧ Bld R W' D ys (cs ++ r1) W5 ∧ compGo (mt1 xs[i]) (me xs[i]) (zs.drop j) = some cs, ⟨zs.length, by simp, Nat.zero_le _, W4, ys1, rfl, Ex.refl _, bd3.ext ext4, by simpa using u3⟩, ?_⟩
        rintro j m H ⟨rfl, hj', W5, cs, rfl, e5, bd5, c5⟩
        obtain ⟨jok1, jok2⟩ := jok W5 ⟨bd5.2.1.ok, e5⟩
        by_cases hltj : j < zs.length
        · obtain ⟨q1, q2⟩ := jok1 j zs[j] (List.getElem?_eq_getElem hltj)
          refine .inr ⟨q1, fun H' => ∃ m', m' < zs.length - j ∧ (m' = zs.length - (j + 1) ∧ j + 1 ≤ zs.length ∧ ∃ (W5 : Wd) (cs : List γ), W5.H = H' ∧ Ex W4.B W5.B ∧ Bld R W' D ys (cs ++ r1) W5 ∧ compGo (mt1 xs[i]) (me xs[i]) (zs.drop (j + 1)) = some cs), fun H' h => h, fun v1 H' y1 => ?_⟩
          obtain ⟨W6, rfl, e6, p6⟩ := q2 v1 H' y1
          have hDrop1 : zs.drop j = zs[j] :: zs.drop (j + 1) := List.drop_eq_getElem_cons hltj
          rw [hDrop1] at c5
          obtain ⟨b1, w1, w2⟩ := run1 (f := fun b => bif b then (me xs[i] zs[j]).bind fun y => (compGo (mt1 xs[i]) (me xs[i]) (zs.drop (j + 1))).bind fun ys => some (y :: ys) else compGo (mt1 xs[i]) (me xs[i]) (zs.drop (j + 1))) c5
          obtain ⟨Fv, sv, subv⟩ := ((s4.via (fun a ha => subw a (sub2 a ha)) st'.fp ((bd3.ext ext4).2.1) bd5.2.1 e5).ext e6).wipe vs1
          refine hg1 _ _ W6 Fv zs[j] v1 sv (fun l hl' => by rw [wipeC_len]; exact hl1 xs[i] l hl') p6 _ fun σ3 F3 wp3 _ s3 sub3 => ⟨?_, ?_⟩
          · rw [wp3 _ hw1]
            exact jc_of.wipe_wipe σ2 vs1
          refine ht1 xs[i] zs[j] σ3 W6 F3 s3 b1 w1 _ fun W7 e7 => ?_
          have e57 : Ex W4.B W7.B := e5.trans (e6.trans e7).b
          cases b1 with
          | false => exact iteF ⟨zs.length - (j + 1), by omega, rfl, hltj, W7, cs, rfl, e57, (bd5.ext e6).ext e7, w2⟩
          | true =>
            obtain ⟨y2, cs2, w3, w4, w5⟩ := run2 (f := fun y ys => some (y :: ys)) w2
            cases w5
            refine iteT (he xs[i] zs[j] σ3 W7 F3 (s3.ext e7) y2 w3 _ fun u W8 Fu e8 fr8 fp8 r8 => ?_)
            obtain ⟨acc, a1, a2, a3⟩ := ((bd5.ext e6).ext e7).step hlen e8 fr8 fp8 r8
            exact ⟨acc, a1, a2, zs.length - (j + 1), by omega, rfl, hltj, ⟨upd W8.H D (.lst (acc ++ [u])), W8.B⟩, cs2, rfl, e57.trans e8.b, a3, w4⟩
        · have ej : j = zs.length := by omega
          subst ej
          rw [List.drop_length] at c5
          cases c5
          exact .inl ⟨jok2 _ (Nat.le_refl _), xs.length - (i + 1), by omega, rfl, hlt, W5, r1, rfl, bd5, u4⟩
    · have ei : i = xs.length := by omega
      subst ei
      rw [List.drop_length] at c1
      cases c1
      obtain ⟨hD0, e1, acc, as, Fa, d1, d2, c2, o1, o2, o3, o4⟩ := bd
      rw [List.append_nil] at c2
      subst c2
      refine .inl ⟨iok2 _ (Nat.le_refl _), k (.ref D) W1 (D :: Fa) (ext.trans e1) (fun a ha => ?_) ?_ ⟨D, acc, Fa, rfl, d1, rfl, o1⟩⟩
      · rcases List.mem_cons.mp ha with z | z
        · rw [z]; exact ext.h.back hD
        · exact ext.h.back (o4 a z)
      · refine ⟨List.nodup_cons.mpr ⟨o3, o2.nd⟩, fun a ha => ?_, fun a ha => ?_⟩
        · rcases List.mem_cons.mp ha with z | z
          · rw [z, d1]; exact fun z => nomatch z
          · exact o2.al a z
        · rcases List.mem_cons.mp ha with z | z
          · rw [z]; exact d2
          · exact o2.fr a z
  · cases h3
theorem js_setLc2 {x : Str} {py spos : Pos} {scope : Scope} {m : Option α} {R : α → OP} (i : Nat) (nd : S.N.Nodup) (h : JC2 S elt tg iter ifs tg1 iter1 ifs1 scope Γ m R) (hi : (Γ[i]?).isSome = true := by rfl) (hN : S.N[i]? = some x := by rfl) (hx : S.sc.names.lookup x = some .local := by rfl) (hp : (S.prot.contains i) = false := by rfl)
    (hk : S.sc.kind = .function := by rfl) (hl : (py.line == pos.line) = true := by rfl) (hown : (scope.names.any fun (n, k) => n == x && (k == .local || k == .cell)) = false := by decide +kernel) (hs : ∀ env x, foldedSetIterable iter env x = pure x := by intro _ _; rfl) (hs1 : ∀ env x, foldedSetIterable iter1 env x = pure x := by intro _ _; rfl) (hcm : S.calm = true := by rfl) :
    JS S (.Assign [.Name x py] (.ListComp elt [⟨tg, iter, ifs, 0⟩, ⟨tg1, iter1, ifs1, 0⟩] scope pos) spos) Γ m fun a => .nx (Γ.set i (some (R a))) := fun σ W F sta y hy E k => by
  obtain ⟨own, vs1, ok, hv, go⟩ := h
  refine ⟨_, fun X hX => ps_setLc2 (hX.calm.trans hcm) (by rw [hX.N]; exact nd) (by rw [hX.N]; exact hN) (by rw [hX.sc]; exact hx) (sw_true (by rw [hX.sc]; exact hk) (by rw [hX.sc]; exact hx) hl hown) (piO hX) (by rw [hX.N, hX.sc]; exact ok) hv (fun s H C cl fp => pgO (hX.blk scope s H C cl fp)) (fun s H C cl fp => ptsO (hX.blk scope s H C cl fp)) (fun s H C cl fp => piO (hX.blk scope s H C cl fp)) (fun s H C cl fp => pgO (hX.blk scope s H C cl fp)) (fun s H C cl fp => ptsO (hX.blk scope s H C cl fp)) (fun s H C cl fp => peO (hX.blk scope s H C cl fp)) (hs _) hs1, go σ W F sta y hy _ fun v W' Fv ext fr fp r => ?_⟩
  obtain ⟨F', s', stp⟩ := sta_set sta ext fr fp r hi
  exact k _ W' F' (Keep.set (ncon hp)) stp s'
end
end CC
set_option maxHeartbeats 4000000
/-! Calls with keywords in any order; an item of a list in a list taken out; written numbers of the module. -/
namespace CC
open PySem PySem.Spec L2
open PyProof.Rows hiding St
variable {α β γ δ τ υ ω ρ ε κ : Type}
def sel (l : List α) (is : List Nat) : List α := is.filterMap fun i => l[i]?
theorem vals_sel {vs : List V} {us : List Value} (h : Vals vs us) : ∀ is : List Nat, Vals (sel vs is) (sel us is)
  | [] => .nil
  | i :: is => by
    have ih := vals_sel h is
    unfold sel at ih ⊢
    cases e : vs[i]? with
    | none =>
      have e2 : us[i]? = none := by
        rw [List.getElem?_eq_none_iff] at e ⊢
        rw [← h.length]
        exact e
      rw [List.filterMap_cons_none e, List.filterMap_cons_none e2]
      exact ih
    | some v =>
      obtain ⟨u, e2, r⟩ := h.get e
      rw [List.filterMap_cons_some e, List.filterMap_cons_some e2]
      exact .cons r ih
theorem hets_sel {B : Hp} {vs : List V} {ps : List SP} (h : Hets B vs ps) : ∀ is : List Nat, Hets B (sel vs is) (sel ps is)
  | [] => trivial
  | i :: is => by
    have ih := hets_sel h is
    unfold sel at ih ⊢
    cases e : ps[i]? with
    | none =>
      have e2 : vs[i]? = none := by
        rw [List.getElem?_eq_none_iff] at e ⊢
        rw [h.len]
        exact e
      rw [List.filterMap_cons_none e, List.filterMap_cons_none e2]
      exact ih
    | some p =>
      obtain ⟨v, e2, r⟩ := h.get e
      rw [List.filterMap_cons_some e, List.filterMap_cons_some e2]
      exact ⟨r, ih⟩
theorem hets_s {B : Hp} {vs zs : List V} {ps qs rs : List SP} {is : List Nat} (h : Hets B vs ps) (k : Hets B zs qs) (e : rs = sel (ps ++ qs) is) : Hets B (sel (vs ++ zs) is) rs := e ▸ hets_sel (h.app k) is
theorem kb_plain {K : PySem.W.Frag} {x qual : Str} {params : Arguments} {body : List Stmt} {scope : Scope} {f : Addr} {fd : FuncData} {ps : List Str} (F : FunD K x qual params body scope [] [] f fd) (n : Nat) (ks : List Str) (is : List Nat)
    (h : ∀ (kV doc pm : Value) (an : Option Addr) (cdv ct : Value) (us ws : List Value), us.length = n → ws.length = ks.length → bindArgs (PySem.W.fnOf x qual params body scope .none kV doc pm an cdv ct) ⟨us, ks.zip ws⟩ = pure (ps.zip (sel (us ++ ws) is))) :
    KBn K fd ps n ks (fun us ws => sel (us ++ ws) is) (fun vs zs => sel (vs ++ zs) is) := by
  obtain ⟨oc, od, dV, kV, doc, pm, an, cdv, ct, osl, rfl, lk, hcd, hD, hK⟩ := F.ex
  rcases hD with ⟨_, rfl⟩ | ⟨e, _⟩
  · exact ⟨fun s us ws X l1 l2 => .of_eq (h kV doc pm an cdv ct us ws l1 l2), fun r q => vals_sel (r.append q) is⟩
  · exact absurd rfl e
section
variable {S : Stc} {Γ : Ctx} {a b e : Expr} {es : List Expr} {pos : Pos}
/-- a number of the module -/
theorem jn_gint {x : Str} {i : Int} (hm : ∃ t, S.mg x = some (.int i t)) (hg : GlS S x := by rfl) (hd : (x == ("__debug__" : Str)) = false := by decide) : JN S (.Name x pos) Γ (some i) fun z => sh (intS z) := by
  obtain ⟨t, hm⟩ := hm
  exact jn_c (v := .int i) (E := intS) (a := i) (fun X hX => pe_glob (hg.gl hX) (mgS hm hX) ⟨t, rfl⟩ hd) fun _ => rfl
end
section
variable {S : Stc} {Γ : τ → Ctx} {s : τ} {tg iter : Expr} {pos : Pos} {A : List Stmt}
theorem js_forE1 {mi : Option (List α × τ)} {E : α → SP} {up : α → Ctx → Ctx} {ws : List Nat} {Γl : υ → Ctx} {T : ρ → Kd} {f : α → υ → Option (Out υ ρ)} (s0 : τ → υ) (hi : JIE S tg iter Γ s mi E) (hg : JG S tg E up ws) (w : ∀ s, Weak (Γ s) (Γl (s0 s))) (hl : ∀ s, ∀ i ∈ ws, i < (Γl s).length)
    (hT : ∀ r, NoNx (T r) ∧ (∀ Δ, T r ≠ .bk Δ) ∧ ∀ Δ, T r ≠ .ct Δ) (hb : ∀ x s, JB S A (up x (Γl s)) (f x s) (DL Γl T)) (hs : ∀ env x, foldedSetIterable iter env x = pure x := by intro _ _; rfl) (hcm : S.calm = true := by rfl) :
    JS S (.For tg iter A [] pos) (Γ s) (mi.bind fun q => loopGo f q.1 (s0 q.2)) (DF Γl T) := fun σ W F sta z hz Ed k => by
  obtain ⟨q, h1, h2⟩ := run1 hz
  exact js_forE (Γl := fun _ => Γl) (f := fun _ => f) s0 hi hg w (fun _ => hl) hT (fun _ => hb) hs hcm σ W F sta (q.2, z) (by rw [h1]; show (loopGo f q.1 (s0 q.2)).bind _ = _; rw [h2]; rfl) Ed k
theorem js_forSE {mi : Option (List α × τ)} {E : α → SP} {up : α → Ctx → Ctx} {ws : List Nat} {Γl : υ → Ctx} {f : α → υ → Option υ} (s0 : τ → υ) (hi : JIE S tg iter Γ s mi E) (hg : JG S tg E up ws) (w : ∀ s, Weak (Γ s) (Γl (s0 s))) (hl : ∀ s, ∀ i ∈ ws, i < (Γl s).length)
    (hb : ∀ x s, JB S A (up x (Γl s)) (f x s) fun s' => .nx (Γl s')) (hs : ∀ env x, foldedSetIterable iter env x = pure x := by intro _ _; rfl) (hcm : S.calm = true := by rfl) :
    JS S (.For tg iter A [] pos) (Γ s) (mi.bind fun q => foldGo f q.1 (s0 q.2)) fun s => .nx (Γl s) := fun σ W F sta z hz Ed k => by
  have h := js_forE1 (ρ := Empty) (T := fun r => nomatch r) (f := fun x s => (f x s).bind fun s' => some (.nx s')) (pos := pos) s0 hi hg w hl (fun r => nomatch r) (fun x s => JB.map (hb x s) fun s' => rfl) hs hcm
  refine h σ W F sta (.nx z) ?_ Ed k
  obtain ⟨q, h1, h2⟩ := run1 hz
  rw [h1]
  show loopGo _ q.1 (s0 q.2) = _
  rw [loopGo_fold, h2]
  rfl
end
/-- a def with state first that falls off its end -/
theorem fnd_stateN {P : Program} {w : World} {K : PySem.W.Frag} {mg : Str → Option Value} {base : Heap} {x qual : Str} {st : Stmt} {f : Addr} {fd : FuncData} {dvs : List V} {kwd : List (Str × V)} {N ps : List Str} {k : Nat} {O : τ → OP} {G : α → List SP} {fM : α → τ → Option τ} (F : FunD K x qual (defArgs st) (defBody st) (defScope st) dvs kwd f fd) (Sc : FnScope N ps (defScope st)) (hG : ∀ a, (G a).length + 1 = ps.length) (hn : ps.length ≤ N.length)
    (body : ∀ a s, JB (stcOf P w K mg base N (defScope st) k [0]) (defBody st) (some (O s) :: (shC (G a) ++ nonC (N.length - ps.length))) (fM a s) fun r => .nx (some (O r) :: nonC (N.length - 1))) : FnOk P w K mg base CX0 (k + 1) f fd ps (spS O G (fun a s => (fM a s).bind fun s' => some ((), s')) fun _ => sh nonS) := by
  refine F.ok Sc (fun vs H Q E h => ?_) (fun cdv A outer s H vs Q E hr h => ?_)
  · obtain ⟨a, s, W, F, v0, vr, r, rfl, _, _, _, _, h3, _⟩ := h
    rw [List.length_cons, h3.len, hG]
  · obtain ⟨a, s0, W, Fp, v0, vr, r, rfl, rfl, ok, fp0, h0, h3, h4, kq⟩ := h
    obtain ⟨s1, h5, h6⟩ := run1 h4
    cases h6
    refine ⟨tbOf (stcOf P w K mg base N (defScope st) k [0]) (defBody st), (pbO (in_cx hr)).nox, ?_⟩
    have hl : (v0 :: vr).length = ps.length := by rw [List.length_cons, h3.len]; exact hG a
    have sta : Sta (some (O s0) :: (shC (G a) ++ nonC (N.length - ps.length))) (L2.start N (v0 :: vr)) W Fp := ⟨ok, fp0, by
      unfold L2.start shC nonC
      have := hG a
      simp [h3.len]
      omega, ⟨v0, Fp, [], rfl, (List.append_nil _).symm, h0, by
      unfold L2.start
      rw [hl]
      exact holds_sh h3⟩⟩
    refine body a s0 _ W Fp sta s1 h5 _ fun σ' W' F' kp stp sa => ?_
    obtain ⟨u, F1, F2, b1, b2, b3, b4⟩ := sa.hold
    have e0 : σ'[0]? = some (some v0) := (kp 0 (by simp)).trans rfl
    have eu : u = v0 := by
      rw [List.head?_eq_getElem?] at b1
      rw [e0] at b1
      exact (Option.some.inj (Option.some.inj b1)).symm
    subst eu
    have eF : F2 = [] := by
      have : ∀ (n : Nat) (σ : L2.St) (F : List Addr), Holds (nonC n) σ W' F → F = [] := by
        intro n
        induction n with
        | zero => intro σ F h; exact h
        | succ n ih => intro σ F h; exact ih σ.tail F h
      exact this _ _ _ b4
    subst eF
    rw [List.append_nil] at b2
    subst b2
    exact kq .non W' F' [] (by rw [List.append_nil]; exact stp) (by rw [List.append_nil]; exact sa.fp) b3 ⟨rfl, rfl⟩
end CC
set_option maxHeartbeats 4000000
/-! A row of a table under a second name. -/
namespace CC
open PySem PySem.Spec L2
open PyProof.Rows hiding St
variable {α β γ δ τ υ ω ρ ε κ : Type}
/-- all owned but the k-th -/
def OwnsBut (E : α → OP) (W : Wd) : Nat → List V → List α → List Addr → Prop
  | 0, _ :: vs, _ :: xs, F => Owns E W vs xs F
  | k + 1, v :: vs, x :: xs, F => ∃ F1 F2, F = F1 ++ F2 ∧ (E x).C W v F1 ∧ OwnsBut E W k vs xs F2
  | _, [], _, _ => False
  | _, _ :: _, [], _ => False
theorem OwnsBut.loc {E : α → OP} {W W' : Wd} (e : Ex W.B W'.B) : ∀ {k : Nat} {vs : List V} {xs : List α} {F : List Addr}, OwnsBut E W k vs xs F → (∀ a ∈ F, W'.H a = W.H a) → OwnsBut E W' k vs xs F
  | 0, _ :: _, _ :: _, _, h, q => Owns.loc e h q
  | k + 1, _ :: _, _ :: _, _, ⟨F1, F2, h1, h2, h3⟩, q => by
    subst h1
    exact ⟨F1, F2, rfl, OP.loc _ h2 e fun a ha => q a (List.mem_append_left _ ha), OwnsBut.loc e h3 fun a ha => q a (List.mem_append_right _ ha)⟩
  | 0, [], _, _, h, _ => h.elim
  | 0, _ :: _, [], _, h, _ => h.elim
  | _ + 1, [], _, _, h, _ => h.elim
  | _ + 1, _ :: _, [], _, h, _ => h.elim
theorem Owns.split {E : α → OP} {W : Wd} : ∀ {k : Nat} {vs : List V} {xs : List α} {F : List Addr} {x : α}, Owns E W vs xs F → xs[k]? = some x → ∃ v F1 F2, vs[k]? = some v ∧ (E x).C W v F1 ∧ OwnsBut E W k vs xs F2 ∧ F.Perm (F1 ++ F2)
  | 0, v :: vs, y :: xs, _, x, ⟨F1, F2, h1, h2, h3⟩, e => by
    have : y = x := by simpa using e
    subst this h1
    exact ⟨v, F1, F2, rfl, h2, h3, .refl _⟩
  | k + 1, v :: vs, y :: xs, _, x, ⟨F1, F2, h1, h2, h3⟩, e => by
    subst h1
    obtain ⟨u, G1, G2, a1, a2, a3, a4⟩ := Owns.split (k := k) h3 (by simpa using e)
    refine ⟨u, G1, F1 ++ G2, by simpa using a1, a2, ⟨F1, G2, rfl, h2, a3⟩, ?_⟩
    refine (List.Perm.append_left F1 a4).trans ?_
    rw [← List.append_assoc, ← List.append_assoc]
    exact List.Perm.append_right G2 List.perm_append_comm
  | _, [], [], _, _, _, e => by simp at e
  | _, [], _ :: _, _, _, h, _ => h.elim
  | _, _ :: _, [], _, _, h, _ => h.elim
theorem OwnsBut.join {E : α → OP} {W : Wd} : ∀ {k : Nat} {vs : List V} {xs : List α} {F2 F1 : List Addr} {x : α} {v : V}, OwnsBut E W k vs xs F2 → vs[k]? = some v → (E x).C W v F1 → ∃ F, Owns E W vs (xs.set k x) F ∧ F.Perm (F1 ++ F2)
  | 0, u :: vs, y :: xs, F2, F1, x, v, h, e, c => by
    have : u = v := by simpa using e
    subst this
    exact ⟨F1 ++ F2, ⟨F1, F2, rfl, c, h⟩, .refl _⟩
  | k + 1, u :: vs, y :: xs, _, F1, x, v, ⟨G1, G2, h1, h2, h3⟩, e, c => by
    subst h1
    obtain ⟨F, a1, a2⟩ := OwnsBut.join (k := k) h3 (by simpa using e) c
    refine ⟨G1 ++ F, ⟨G1, F, rfl, h2, a1⟩, ?_⟩
    refine (List.Perm.append_left G1 a2).trans ?_
    rw [← List.append_assoc, ← List.append_assoc]
    exact List.Perm.append_right G2 List.perm_append_comm
  | 0, [], _, _, _, _, _, h, _, _ => h.elim
  | 0, _ :: _, [], _, _, _, _, h, _, _ => h.elim
  | _ + 1, [], _, _, _, _, _, h, _, _ => h.elim
  | _ + 1, _ :: _, [], _, _, _, _, h, _, _ => h.elim
/-- a list whose k-th item, the value v, is lent -/
def holeO (E : α → OP) (k : Nat) (v : V) (xs : List α) : OP := ⟨fun W w F => ∃ a vs F2, w = .ref a ∧ W.H a = some (.lst vs) ∧ F = a :: F2 ∧ vs[k]? = some v ∧ OwnsBut E W k vs xs F2, fun h e q => by
  obtain ⟨a, vs, F2, h1, h2, h3, h4, h5⟩ := h
  subst h3
  exact ⟨a, vs, F2, h1, (q a List.mem_cons_self).trans h2, rfl, h4, h5.loc e fun b hb => q b (List.mem_cons_of_mem _ hb)⟩⟩
/-- the very value v -/
def alO (o : OP) (v : V) : OP := ⟨fun W w F => w = v ∧ o.C W w F, fun h e q => ⟨h.1, o.loc h.2 e q⟩⟩
section
variable {S : Stc} {Γ Δ : Ctx} {a b e : Expr} {pos : Pos} {st : Stmt} {rest : List Stmt}
theorem jb_borrow {r u : Str} {p0 p1 p2 : Pos} {E : α → OP} {xss : List α} {mi : Option Int} {mr : Nat → α → Option ω} {D : ω → Kd} (iu ir : Nat) (nd : S.N.Nodup) (ha : JN S a Γ mi fun z => sh (intS z)) (hi : Γ[iu]? = some (some (lstO E xss)) := by rfl) (hir : (Γ[ir]?).isSome = true := by rfl) (hne : iu ≠ ir := by decide)
    (hr : ∀ k v x, JB S rest ((Γ.set iu (some (holeO E k v xss))).set ir (some (alO (E x) v))) (mr k x) D)
    (hNu : S.N[iu]? = some u := by rfl) (hNr : S.N[ir]? = some r := by rfl) (hvu : Vis S.sc u := by first | exact Or.inl rfl | exact Or.inr (Or.inl rfl) | exact Or.inr (Or.inr rfl)) (hd : (u == ("__debug__" : Str)) = false := by decide) (hcd : (u == ("__classdict__" : Str)) = false := by decide)
    (hx : Loc S.sc r := by first | exact Or.inl rfl | exact Or.inr rfl) (hp : (S.prot.contains ir) = false := by rfl) (hpl : PlainIx a := by exact fun _ _ => rfl)
    (hs : ∀ env, swapsWith (.Subscript (.Name u p0) a p1) (some (.Name r p2)) pos.line env = pure false := by intro _; rfl) (hf : S.fn r = true ∨ S.sc.names.lookup r = some .local := by first | exact .inl rfl | exact .inr rfl) :
    JB S (.Assign [.Name r p2] (.Subscript (.Name u p0) a p1) pos :: rest) Γ (mi.bind fun i => (ixN xss.length i).bind fun k => (xss[k]?).bind fun x => mr k x) D := fun σ W F sta z hz Ed kk => by
  obtain ⟨i, m1, m2⟩ := run1 hz
  obtain ⟨k, m3, m4⟩ := run1 (f := fun k => (xss[k]?).bind fun x => mr k x) m2
  obtain ⟨x, m5, m6⟩ := run1 (f := fun x => mr k x) m4
  refine ⟨tSeq (tAsg (tOp (rIxL S.K) (tVar iu) (tOf S a)) (gName ir)) (tbOf S rest), fun X hX => pss_cons (ps_set (by rw [hX.N]; exact nd) (by rw [hX.N]; exact hNr) (locS hx hX) (pe_ix (oIxL X hX) (pe_var (by rw [hX.N]; exact hNu) (visS hvu hX) hd hcd) (peO hX) hpl) (hs _) (by rw [hX.fn, hX.sc]; exact hf)) (pbO hX), ?_⟩
  obtain ⟨w, F1, F2, a1, _⟩ := sta.hold.at hi
  refine ⟨w, a1, ha σ W F sta i m1 _ fun t W1 _ ext _ _ r1 => ?_⟩
  obtain ⟨_, rfl⟩ := r1
  have sta1 := sta.ext ext
  obtain ⟨w', F1', F2', c1, c2, c3, c4⟩ := sta1.hold.at hi
  have ev : w' = w := by rw [a1] at c1; exact (Option.some.inj (Option.some.inj c1)).symm
  subst ev
  obtain ⟨p, vs, G2, rfl, d2, rfl, d4⟩ := c2
  obtain ⟨v, K1, K2, k1, k2, k3, k4⟩ := d4.split m5
  refine ⟨p, vs, i, v, rfl, rfl, .inl (.inl d2), by unfold atI; rw [d4.len, m3]; exact k1, ?_⟩
  obtain ⟨F', s1, s2⟩ := c4 W1 (holeO E k v xss) (.ref p) (p :: K2) (fun _ _ h => h) (fun _ _ => rfl) ⟨p, vs, K2, rfl, d2, rfl, k1, k3⟩
  rw [set_back c1] at s1
  have pF : F.Perm (F' ++ K1) := by
    refine c3.trans ?_
    refine List.Perm.trans ?_ (List.Perm.append_right K1 s2.symm)
    have e1 : ((p :: G2) ++ F2').Perm ((p :: (K2 ++ K1)) ++ F2') := List.Perm.append_right F2' (List.Perm.cons p (k4.trans List.perm_append_comm))
    refine e1.trans ?_
    show ((p :: K2) ++ K1 ++ F2').Perm _
    rw [List.append_assoc, List.append_assoc]
    exact List.Perm.append_left _ List.perm_append_comm
  have fpA := sta1.fp.perm pF
  have s3 : Sta (Γ.set iu (some (holeO E k v xss))) σ W1 F' := ⟨sta1.ok, fpA.left, by rw [List.length_set]; exact sta1.len, s1⟩
  have hlt : ir < (Γ.set iu (some (holeO E k v xss))).length := by
    rw [List.length_set]
    cases h : Γ[ir]? with
    | none => rw [h] at hir; cases hir
    | some o => exact (List.getElem?_eq_some_iff.mp h).1
  obtain ⟨F3, s4, sub⟩ := s3.put (o := alO (E x) v) (v := v) (F1 := K1) hlt ⟨rfl, k2⟩ fpA
  refine hr k v x (σ.set ir (some v)) W1 F3 s4 z m6 Ed (kk.before (Keep.set (ncon hp)) ?_)
  exact ext.stp0.perm fun b hb => pF.mem_iff.mpr (sub b hb)
/-- what was lent is put back -/
theorem jb_back {sts : List Stmt} {E : α → OP} {xss : List α} {m : Option ω} {D : ω → Kd} {k : Nat} {v : V} {x : α} (iu ir : Nat) (hu : (Γ.set ir none)[iu]? = some (some (holeO E k v xss))) (hr : Γ[ir]? = some (some (alO (E x) v))) (h : JB S sts ((Γ.set ir none).set iu (some (lstO E (xss.set k x)))) m D) : JB S sts Γ m D := fun σ W F sta z hz Ed kk => by
  obtain ⟨w, F1, F2, a1, ⟨rfl, a2⟩, a3, s1⟩ := sta_take sta hr
  obtain ⟨w', G1, G2, c1, c2, c3, c4⟩ := s1.hold.at hu
  obtain ⟨p, vs, H2, rfl, d2, rfl, d3, d4⟩ := c2
  obtain ⟨F', e1, e2⟩ := d4.join d3 a2
  obtain ⟨F3, t1, t2⟩ := c4 W (lstO E (xss.set k x)) (.ref p) (p :: F') (fun _ _ h => h) (fun _ _ => rfl) ⟨p, vs, F', rfl, d2, rfl, e1⟩
  rw [set_back c1] at t1
  have pF : F.Perm F3 := by
    refine a3.trans ?_
    refine (List.Perm.append_right F1 c3).trans ?_
    refine List.Perm.trans ?_ t2.symm
    show ((p :: H2) ++ G2 ++ F1).Perm (p :: F' ++ G2)
    refine List.Perm.trans ?_ (List.Perm.append_right G2 (List.Perm.cons p e2.symm))
    show (p :: (H2 ++ G2 ++ F1)).Perm (p :: ((F1 ++ H2) ++ G2))
    refine List.Perm.cons p ?_
    rw [List.append_assoc F1]
    exact List.perm_append_comm
  have s2 : Sta ((Γ.set ir none).set iu (some (lstO E (xss.set k x)))) σ W F3 := ⟨sta.ok, sta.fp.perm pF, by rw [List.length_set]; exact s1.len, t1⟩
  exact h σ W F3 s2 z hz Ed (kk.before Keep.refl ((Stp.refl sta.ok).perm fun b hb => pF.mem_iff.mpr hb))
theorem ts_prot {D : Ends} {σ : L2.St} {H : Hp} {p : List Nat} (h : tsOf { S with prot := p } st D σ H) : tsOf S st D σ H := by
  obtain ⟨t, h1, h2⟩ := h
  exact ⟨t, fun X hX => h1 X ⟨hX.prog, hX.w, hX.K, hX.mg, hX.base, hX.N, hX.sc, hX.fn, hX.calm, hX.room, hX.un, hX.pass, hX.tk, hX.top, hX.ex⟩, h2⟩
/-- a statement over the lent row, which keeps its slot -/
theorem js_al {o : OP} {o' : τ → OP} {v : V} {m : Option τ} {Γl : τ → Ctx} (ir : Nat) (hi : Γ[ir]? = some (some (alO o v))) (h : JS { S with prot := ir :: S.prot } st (Γ.set ir (some o)) m fun x => .nx (Γl x)) (hl : ∀ x, (Γl x)[ir]? = some (some (o' x)) := by intro _; rfl) :
    JS S st Γ m fun x => .nx ((Γl x).set ir (some (alO (o' x) v))) := fun σ W F sta z hz Ed kk => by
  obtain ⟨w, F1, F2, a1, ⟨rfl, a2⟩, a3, a4⟩ := sta.hold.at hi
  obtain ⟨F', s1, s2⟩ := a4 W o w F1 (fun _ _ h => h) (fun _ _ => rfl) a2
  rw [set_back a1] at s1
  have pF : F.Perm F' := a3.trans s2.symm
  have sta' : Sta (Γ.set ir (some o)) σ W F' := ⟨sta.ok, sta.fp.perm pF, by rw [List.length_set]; exact sta.len, s1⟩
  refine ts_prot (p := ir :: S.prot) (h σ W F' sta' z hz Ed fun σ' W' F2' kp stp sa => ?_)
  have e0 : σ'[ir]? = some (some w) := (kp ir List.mem_cons_self).trans a1
  obtain ⟨w', G1, G2, b1, b2, b3, b4⟩ := sa.hold.at (hl z)
  have ew : w' = w := by rw [e0] at b1; exact (Option.some.inj (Option.some.inj b1)).symm
  subst ew
  obtain ⟨F3, t1, t2⟩ := b4 W' (alO (o' z) w') w' G1 (fun _ _ h => h) (fun _ _ => rfl) ⟨rfl, b2⟩
  rw [set_back b1] at t1
  have pG : F2'.Perm F3 := b3.trans t2.symm
  refine kk σ' W' F3 (fun p hp => kp p (List.mem_cons_of_mem _ hp)) ?_ ⟨sa.ok, sa.fp.perm pG, by rw [List.length_set]; exact sa.len, t1⟩
  exact (stp.permL fun b hb => pF.mem_iff.mpr hb).perm fun b hb => pG.mem_iff.mpr hb
end
theorem iv_alO {K : PySem.W.Frag} {E : α → OP} {v : V} : IxV (rIxL K) (fun xs => alO (lstO E xs) v) intS (fun xs i => atI xs i) E := fun W x y v u z F1 ok hx hy e Q k => iv_lstO W x y v u z F1 ok hx.2 hy e Q k
section
variable {S : Stc} {Γ Δ : Ctx} {a b e : Expr} {pos : Pos} {st : Stmt} {rest : List Stmt}
theorem sta_frz {σ : L2.St} {W : Wd} {F : List Addr} {i : Nat} {o : OP} {p : SP} (st : Sta Γ σ W F) (hi : Γ[i]? = some (some o)) (f : FrzN o p) : ∃ B' F', Ex W.B B' ∧ Sta (Γ.set i (some (sh p))) σ ⟨W.H, B'⟩ F' := by
  obtain ⟨v, F1, F2, a1, a2, a3, a4⟩ := st.hold.at hi
  have fp := st.fp.perm a3
  obtain ⟨B', b1, b2, b3, b4⟩ := f.run a2 fp.left.nd fp.left.fr st.ok
  obtain ⟨F', c1, c2⟩ := a4 ⟨W.H, B'⟩ (sh p) v [] b1 (fun _ _ => rfl) ⟨rfl, b4⟩
  have fp' : FpOk ⟨W.H, B'⟩ F' := by
    refine FpOk.perm (F := F2) ?_ (by simpa using c2.symm)
    exact ⟨fp.right.nd, fp.right.al, fun a ha => b3 a (fp.right.fr a ha) fun z => fp.disj a z ha⟩
  rw [set_back a1] at c1
  exact ⟨B', F', b1, b2, fp', by rw [List.length_set]; exact st.len, c1⟩
theorem ext_thaw {W W' : Wd} {B' : Hp} (ok : Ex W.B W.H) (b : Ex W.B B') (e : Ext ⟨W.H, B'⟩ W') : Ext W ⟨W'.H, W.B⟩ := ⟨ok.trans e.h, e.h, Ex.refl _, fun _ _ h => h⟩
/-- what is owned is read as if it stood still; the value does not lean on it -/
theorem jn_thaw {m : Option α} {E : α → SP} {i : Nat} {o : OP} {p : SP} (hE : ∀ x B B' v, (E x).P B v → (E x).P B' v) (hi : Γ[i]? = some (some o)) (f : FrzN o p) (h : JN S e (Γ.set i (some (sh p))) m fun x => sh (E x)) : JN S e Γ m fun x => sh (E x) := fun σ W F st x hx Q k => by
  obtain ⟨B', F', b, st'⟩ := sta_frz st hi f
  exact h σ ⟨W.H, B'⟩ F' st' x hx Q fun v W' Fv ext fr fp r => k v ⟨W'.H, W.B⟩ [] (ext_thaw st.ok b ext) (by simp) FpOk.nil ⟨rfl, hE _ _ _ _ r.2⟩
theorem jt_thaw {m : Option Bool} {i : Nat} {o : OP} {p : SP} (hi : Γ[i]? = some (some o)) (f : FrzN o p) (h : JT S e (Γ.set i (some (sh p))) m) : JT S e Γ m := fun σ W F st x hx Q k => by
  obtain ⟨B', F', b, st'⟩ := sta_frz st hi f
  exact h σ ⟨W.H, B'⟩ F' st' x hx Q fun W' ext => k ⟨W'.H, W.B⟩ (ext_thaw st.ok b ext)
theorem flat_int : ∀ (x : Int) (B B' : Hp) (v : V), (intS x).P B v → (intS x).P B' v := fun _ _ _ _ h => h
theorem flat_bool : ∀ (x : Bool) (B B' : Hp) (v : V), (boolS x).P B v → (boolS x).P B' v := fun _ _ _ _ h => h
theorem flat_str : ∀ (x : Str) (B B' : Hp) (v : V), (strS x).P B v → (strS x).P B' v := fun _ _ _ _ h => h
end
section
variable {S : Stc} {Γ : Ctx} {a b e : Expr} {pos : Pos}
theorem each_ints {B : Hp} : ∀ {ns : List Int}, Each intS B (ns.map V.int) ns
  | [] => trivial
  | _ :: _ => ⟨rfl, each_ints⟩
theorem sorted_ints {m : Option (List Int)} {p : Pos} (hm : S.mg "sorted" = none) (h : JN S a Γ m fun x => sh (lstS intS x)) (hg : GlS S "sorted" := by rfl) (hs : ∀ env, starEach [a] env = [(false, eval a env)] := by intro _; rfl) : JN S (.Call (.Name "sorted" p) [a] [] pos) Γ (m.bind fun xs => some (sortI xs)) (lstO fun x => sh (intS x)) :=
  jn_b1 (f := fun xs : List Int => some (sortI xs)) (fun X hX => hX.K ▸ cr_sortedI) (fun W x v z ok hh e Q k => by
    cases e
    obtain ⟨a, vs, rfl, h2, h3⟩ := hh
    have e1 := each_flat fl_int h3
    subst e1
    refine ⟨a, x, rfl, .inl (.inl (ok a _ h2)), fun ys p perm srt np => ?_⟩
    have e : ys = sortI x := srt_uniq leI_an (List.Pairwise.imp (fun {u w} hn => by unfold leI; simpa using hn) srt) (isort_srt leI_tot leI_tr x) (perm.trans (isort_perm leI x).symm)
    subst e
    exact k.newL ok each_ints p np) hm h hg (by decide +kernel) (by decide) (by decide) hs
end
end CC
set_option maxHeartbeats 4000000
/-! A list of one's own within a list of several kinds. -/
namespace CC
open PySem PySem.Spec L2
open PyProof.Rows hiding St
variable {α β γ δ τ υ ω ρ ε κ : Type}
section
variable {S : Stc} {Γ : Ctx} {a b e : Expr} {es : List Expr} {pos : Pos}
/-- [fresh, shared, ..] -/
theorem jn_hl1 {m0 : Option α} {m : Option β} {R0 : α → OP} {G : β → List SP} {T : γ → OP} {g : α → β → γ} (h0 : JN S e Γ m0 R0) (h : JA S es Γ m G) (hR : ∀ x y, hetO (R0 x :: (G y).map sh) = T (g x y) := by intro _ _; rfl) (hl : ∀ x, (G x).length ≤ 1000 := by intro _; exact Nat.le_of_ble_eq_true rfl) (hs : ∀ env, starEach (e :: es) env = (false, eval e env) :: starEach es env := by intro _; rfl) :
    JN S (.List (e :: es) pos) Γ (m0.bind fun x => m.bind fun y => some (g x y)) T := fun σ W F sta z hz Q kk => by
  obtain ⟨x, y, h1, h2, h3⟩ := run2 hz
  cases h3
  refine ⟨tLst (tCons (tOf S e) (taOf S es)), fun X hX => pe_lst (pa_cons (peO hX) (paO hX) (hs _)), ?_⟩
  refine h0 σ W F sta x h1 _ fun v W1 Fv e1 fr fp r => ?_
  refine h σ W1 F (sta.ext e1) y h2 _ fun vs W2 e2 hh => ?_
  refine ⟨Nat.le_trans (by rw [List.length_cons, hh.len]; exact Nat.succ_le_succ (hl y)) (by decide), fun q hq => ?_⟩
  have e3 : Ext W2 ⟨upd W2.H q (.lst (v :: vs)), W2.B⟩ := Ext.new e2.ok hq
  have r2 : (R0 x).C W2 v Fv := (R0 x).ext r e2 fp
  have nq : ∀ b ∈ Fv, b ≠ q := fun b hb z => (fp.ext e2).al b hb (z ▸ hq)
  have r3 : (R0 x).C ⟨upd W2.H q (.lst (v :: vs)), W2.B⟩ v Fv := (R0 x).loc r2 (fun _ _ h => h) fun b hb => upd_ne (nq b hb)
  refine kk (.ref q) ⟨upd W2.H q (.lst (v :: vs)), W2.B⟩ (q :: Fv) ((e1.trans e2).trans e3) (fun b hb => ?_) ?_ (by rw [← hR]; exact ⟨q, v :: vs, Fv, rfl, upd_same, rfl, Fv, [], (List.append_nil _).symm, r3, HetO.of_hts (W := ⟨upd W2.H q (.lst (v :: vs)), W2.B⟩) hh⟩)
  · rcases List.mem_cons.mp hb with z | z
    · rw [z]; exact (e1.trans e2).h.back hq
    · exact fr b z
  · have f2 := fp.ext e2
    refine ⟨List.nodup_cons.mpr ⟨fun hb => nq q hb rfl, f2.nd⟩, fun b hb => wr_al' b hb f2, fun b hb => ?_⟩
    rcases List.mem_cons.mp hb with z | z
    · rw [z]
      exact e2.ok.back hq
    · exact f2.fr b z
where
  wr_al' {W2 : Wd} {q : Addr} {o : HO} {Fv : List Addr} (b : Addr) (hb : b ∈ q :: Fv) (f2 : FpOk W2 Fv) : upd W2.H q o b ≠ none := by
    by_cases z : b = q
    · rw [z, upd_same]
      exact fun z => nomatch z
    · rw [upd_ne z]
      exact f2.al b ((List.mem_cons.mp hb).resolve_left z)
end
section
variable {S : Stc} {Γ : τ → Ctx} {s : τ} {e : Expr} {pos : Pos}
/-- x[k].pop(e), x a list of several kinds, its k-th item a list of its own -/
theorem je_popH {x : Str} {p0 apos p2 : Pos} {kk p'} {ps : τ → List OP} {E : α → SP} {mi : Option Int} {j : Int} (i k : Nat) (get : τ → List α) (put : τ → List α → τ) (h : JN S e (Γ s) mi fun z => sh (intS z)) (hi : ∀ s, (Γ s)[i]? = some (some (hetO (ps s))) := by intro _; rfl) (hk : ∀ s, (ps s)[k]? = some (lstO (fun y => sh (E y)) (get s)) := by intro _; rfl)
    (hp : ∀ s u, (Γ s).set i (some (hetO ((ps s).set k (lstO (fun y => sh (E y)) u)))) = Γ (put s u) := by intro _ _; rfl) (hj : j = (k : Int) := by rfl)
    (hN : S.N[i]? = some x := by rfl) (hv : Vis S.sc x := by first | exact Or.inl rfl | exact Or.inr (Or.inl rfl) | exact Or.inr (Or.inr rfl)) (hd : (x == ("__debug__" : Str)) = false := by decide) (hcd : (x == ("__classdict__" : Str)) = false := by decide)
    (hbase : ∀ env, attributeBase (.Subscript (.Name x p0) (.Constant (.int j) kk p') p2) "pop" env (eval (.Subscript (.Name x p0) (.Constant (.int j) kk p') p2) env) = eval (.Subscript (.Name x p0) (.Constant (.int j) kk p') p2) env := by intro _; rfl)
    (hfew : ∀ env, ((backTo pos (starEach [e] env)).all (fun x => !x.1) && (backToKw pos (keywordEach [] env)).all (fun x => x.1.isSome) && decide ([e].length + ([] : List Keyword).length + (if ([] : List Keyword).isEmpty then 0 else 1) < 30)) = true := by intro _; rfl)
    (hline : (apos.endLine == pos.line) = true := by rfl) (hs : ∀ env, starEach [e] env = (false, eval e env) :: starEach [] env := by intro _; rfl) :
    JE S (.Call (.Attribute (.Subscript (.Name x p0) (.Constant (.int j) kk p') p2) "pop" apos) [e] [] pos) Γ s (mi.bind fun z => (popAt (get s) z).bind fun r => some (r.1, put s r.2)) fun y => sh (E y) := fun σ W F sta z hz Q kq => by
  obtain ⟨q, h1, h2⟩ := run1 hz
  obtain ⟨r, h3, h4⟩ := run1 (f := fun r : α × List α => some (r.1, put s r.2)) h2
  cases h4
  unfold popAt at h3
  split at h3
  · rename_i hb
    obtain ⟨y, h5, h6⟩ := run1 (f := fun y : α => some (y, (get s).eraseIdx q.toNat)) h3
    cases h6
    refine ⟨tBM S.K "list" rPopAt (tOp (rIxL S.K) (tVar i) (tC (.int j))) (tCons (tOf S e) tNil), fun X hX => hX.K ▸ pe_bm PySem.F.plainAttrs_list PySem.F.slot_list_pop PySem.F.type_list_pop mt_popAt (pe_ix (hX.K ▸ oIxL X hX) (pe_var (by rw [hX.N]; exact hN) (visS hv hX) hd hcd) pe_int (fun _ _ => rfl)) (pa_cons (peO hX) pa_nil (hs _)) (hbase _) (hfew _) hline (hs _) rfl, ?_⟩
    obtain ⟨v, F1, F2, a1, a2, a3, a4⟩ := sta.hold.at (hi s)
    obtain ⟨a, vs, G2, rfl, b2, rfl, b4⟩ := id a2
    obtain ⟨w, K1, K2, k1, k2, k3, k4⟩ := b4.at (hk s)
    obtain ⟨p, us, L2', rfl, l2, rfl, l4⟩ := k2
    refine ⟨.ref a, a1, a, vs, j, .ref p, rfl, rfl, .inl (.inl b2), by rw [hj]; exact atI_k k1, ?_⟩
    refine ⟨.inl ⟨rfl, us, .inl (.inl l2)⟩, h σ W F sta q h1 _ fun u W1 Fa ext _ _ r1 => ?_⟩
    obtain ⟨_, rfl⟩ := r1
    have sta1 := sta.ext ext
    obtain ⟨v', F1', F2', c1, c2, c3, c4⟩ := sta1.hold.at (hi s)
    have ev : v' = .ref a := by rw [a1] at c1; exact (Option.some.inj (Option.some.inj c1)).symm
    subst ev
    obtain ⟨a', vs', G3, e1, d2, rfl, d4⟩ := c2
    cases e1
    have evs : vs' = vs := by
      rw [ext.h a _ b2] at d2
      cases d2
      rfl
    subst evs
    obtain ⟨w', M1, M2, n1, n2, n3, n4⟩ := d4.at (hk s)
    rw [k1] at n1
    cases n1
    obtain ⟨p', us', L3, e2, o2, rfl, o4⟩ := n2
    cases e2
    obtain ⟨rfl, o5⟩ := o4.each
    have fpA := (sta1.fp.perm c3).left
    have hB : W1.B p = none := fpA.fr p (List.mem_cons_of_mem _ (n3.mem_iff.mpr (by simp)))
    have hne : a ≠ p := fun z => (List.nodup_cons.mp fpA.nd).1 (z ▸ n3.mem_iff.mpr (by simp))
    have hK : ∀ b ∈ M2, b ≠ p := fun b hb z => by
      have nd := (n3.nodup_iff.mp (List.nodup_cons.mp fpA.nd).2)
      exact (List.nodup_cons.mp nd).1 (z ▸ hb)
    obtain ⟨t, t1, t2⟩ := o5.get h5
    have hlen := o5.len
    have hlt : q.toNat < (get s).length := (List.getElem?_eq_some_iff.mp h5).1
    have z : LIM = 1000000 := rfl
    have eseq : seqIndex? q us'.length = some q.toNat := by
      have hx : ixN us'.length q = some q.toNat := by
        unfold ixN
        rw [if_pos hb.1, if_pos (by omega)]
      exact (ixN_seq hx).1
    refine ⟨p, us', q, q.toNat, t, rfl, rfl, o2, by omega, by omega, eseq, t1, ?_⟩
    have rN : (lstO (fun x => sh (E x)) ((get s).eraseIdx q.toNat)).C ⟨upd W1.H p (.lst (us'.eraseIdx q.toNat)), W1.B⟩ (.ref p) [p] :=
      ⟨p, _, [], rfl, upd_same, rfl, Owns.of_each (o5.eraseIdx q.toNat)⟩
    obtain ⟨G', g1, g2⟩ := n4 ⟨upd W1.H p (.lst (us'.eraseIdx q.toNat)), W1.B⟩ (lstO (fun x => sh (E x)) ((get s).eraseIdx q.toNat)) (.ref p) [p] (fun _ _ h => h) (fun b hb => upd_ne (hK b hb)) rN
    have hset : vs'.set k (.ref p) = vs' := by
      refine List.ext_getElem? fun n => ?_
      by_cases z : k = n
      · subst z
        rw [k1, List.getElem?_set_self (List.getElem?_eq_some_iff.mp k1).1]
      · rw [List.getElem?_set_ne z]
    rw [hset] at g1
    have pG : (a :: G').Perm (a :: G3) := List.Perm.cons a (g2.trans n3.symm)
    have fpB := fpA.perm pG.symm
    obtain ⟨F', s', stp⟩ := sta_own (W' := ⟨upd W1.H p (.lst (us'.eraseIdx q.toNat)), W1.B⟩) (F1' := a :: G') (o' := hetO ((ps s).set k (lstO (fun x => sh (E x)) ((get s).eraseIdx q.toNat)))) [] sta1 (by rw [List.append_nil]; exact sta1.fp) c1 c3 c4 (wr_ok ext.ok hB) rfl
      (fun b hb _ => upd_ne fun z => hb (z ▸ List.mem_cons_of_mem _ (n3.mem_iff.mpr (by simp)))) wr_al ⟨fpB.nd, fun b hb => wr_al b (fpB.al b hb), fpB.fr⟩ (fun b hb => .inl (pG.mem_iff.mp hb)) ⟨a, vs', G', rfl, (upd_ne hne).trans d2, rfl, g1⟩
    rw [List.append_nil] at stp
    rw [hp] at s'
    refine kq t _ F' [] (by rw [List.append_nil]; exact ext.stp0.trans stp) s' (by rw [List.append_nil]; exact s'.fp) ⟨rfl, t2⟩
  · cases h3
end
section
variable {S : Stc} {Γ : τ → Ctx} {s : τ} {a e : Expr} {pos : Pos}
theorem je_abs {m : Option (Int × τ)} {p : Pos} (hm : S.mg "abs" = none) (h : JE S a Γ s m fun x => sh (intS x)) (hg : GlS S "abs" := by rfl) (hs : ∀ env, starEach [a] env = [(false, eval a env)] := by intro _; rfl) : JE S (.Call (.Name "abs" p) [a] [] pos) Γ s (m.bind fun q => some (absI q.1, q.2)) fun z => sh (intS z) :=
  je_b1 (f := fun x : Int => some (absI x)) (fun X hX => call_abs) (fun W x v z ok hh e Q k => by
    cases e
    cases hh
    exact ⟨_, rfl, k.val ok rfl⟩) hm h hg (by decide +kernel) (by decide) (by decide) hs
end
/-! ### == of values of any kind -/
mutual
def toD : PV → PyData
  | .non => .none
  | .bl b => .bool b
  | .int i => .int i
  | .str z => .str z
  | .tup xs => .tuple (toDs xs)
  | .lst xs => .list (toDs xs)
def toDs : List PV → List PyData
  | [] => []
  | x :: xs => toD x :: toDs xs
end
mutual
theorem any_dp {K : PySem.W.Frag} {B H : Hp} (e : Ex B H) : ∀ (x : PV) (v : V), anyP B x v → Dp K H v (toD x)
  | .non, v, h => by unfold anyP at h; unfold toD; subst h; exact .non
  | .bl b, v, h => by unfold anyP at h; unfold toD; subst h; exact .bl b
  | .int i, v, h => by unfold anyP at h; unfold toD; subst h; exact .int i
  | .str z, v, h => by unfold anyP at h; unfold toD; subst h; exact .str z
  | .tup xs, v, h => by
    unfold anyP at h
    unfold toD
    obtain ⟨a, vs, rfl, h2, h3⟩ := h
    exact .tup (.inl (.inl (e a _ h2))) (anys_dp e xs vs h3)
  | .lst xs, v, h => by
    unfold anyP at h
    unfold toD
    obtain ⟨a, vs, rfl, h2, h3⟩ := h
    exact .lst (.inl (.inl (e a _ h2))) (anys_dp e xs vs h3)
theorem anys_dp {K : PySem.W.Frag} {B H : Hp} (e : Ex B H) : ∀ (xs : List PV) (vs : List V), anysP B xs vs → DpAll K H vs (toDs xs)
  | [], [], _ => by unfold toDs; exact .nil
  | x :: xs, v :: vs, h => by
    unfold anysP at h
    unfold toDs
    exact .cons (any_dp e x v h.1) (anys_dp e xs vs h.2)
  | [], _ :: _, h => by unfold anysP at h; exact h.elim
  | _ :: _, [], h => by unfold anysP at h; exact h.elim
end
def eqP (x y : PV) : Option Bool := if SeqAt.shaped (toD x) = true ∧ SeqAt.shaped (toD y) = true then some (PyData.eqv (toD x) (toD y)) else none
def neP (x y : PV) : Option Bool := (eqP x y).bind fun b => some (!b)
theorem oEqD {S : Stc} : ∀ X, S.In X → OpR X (compareOp .Eq) (rEqD S.K) := fun _ h => h.K ▸ op_eqD h.un
theorem oNeD {S : Stc} : ∀ X, S.In X → OpR X (compareOp .NotEq) (rNeD S.K) := fun _ h => h.K ▸ op_neD h.un
theorem ov_eqP {K : PySem.W.Frag} : OpV (rEqD K) anyS anyS eqP fun z => sh (boolS z) := fun W x y v u z ok hx hy e Q k => by
  unfold eqP at e
  split at e
  · rename_i hs
    cases e
    exact ⟨_, _, any_dp ok x v hx, any_dp ok y u hy, hs.1, hs.2, k.val ok rfl⟩
  · cases e
theorem ov_neP {K : PySem.W.Frag} : OpV (rNeD K) anyS anyS neP fun z => sh (boolS z) := fun W x y v u z ok hx hy e Q k => by
  unfold neP eqP at e
  split at e
  · rename_i hs
    cases e
    exact ⟨_, _, any_dp ok x v hx, any_dp ok y u hy, hs.1, hs.2, k.val ok rfl⟩
  · cases e
end CC
set_option maxHeartbeats 4000000
/-! What the top has left: further facts by tests of one's own. -/
namespace CC
open PySem PySem.Spec L2
open PyProof.Rows hiding St
abbrev Tst := PySem.W.Frag → Bool
def obsX (mo : List Tst) (fa : List He.Fa) (fn : List He.DefD) (K : PySem.W.Frag) : Bool × He.AlD := (mo.all fun f => f K, He.obsD fa fn K)
def SaysX (mo : List Tst) (fa : List He.Fa) (fn : List He.DefD) (K : PySem.W.Frag) : Prop := obsX mo fa fn K = (true, He.valD fn)
def obsXG (n : Nat) (mo : List Tst) (fa : List He.Fa) (fn : List He.DefD) (g : Addr → Option Obj) : Bool × He.AlD := obsX mo fa fn (He.frG g (He.asD g n))
def hookX (n : Nat) (mo : List Tst) (fa : List He.Fa) (fn : List He.DefD) : PySem.W.Hook where
  α := Bool × He.AlD
  obs := fun s => obsXG n mo fa fn s.heap.get?
  val := fun _ => (true, He.valD fn)
  says := fun _ h => ∃ K : PySem.W.Frag, K.In h ∧ SaysX mo fa fn K
  of := fun _ _ e => ⟨_, He.frG_in, e⟩
  keeps := fun _ _ _ ⟨K, hK, c⟩ k => ⟨K, PySem.W.Frag.In.keeps hK k, c⟩
theorem obsXG_eq {n : Nat} {mo : List Tst} {fa : List He.Fa} {fn : List He.DefD} {g : Addr → Option Obj} {s : Shared} (h : ∀ a, g a = s.heap.get? a) : obsXG n mo fa fn g = (hookX n mo fa fn).obs s := by
  have e : g = s.heap.get? := funext h
  rw [e] <;> rfl
theorem SaysX.d {mo : List Tst} {fa : List He.Fa} {fn : List He.DefD} {K : PySem.W.Frag} (c : SaysX mo fa fn K) : He.SaysD fa fn K := congrArg (fun z : Bool × He.AlD => z.2) c
theorem SaysX.t {mo : List Tst} {fa : List He.Fa} {fn : List He.DefD} {K : PySem.W.Frag} (c : SaysX mo fa fn K) (i : Nat) {f : Tst} (h : mo[i]? = some f := by rfl) : f K = true := by
  have c1 : (mo.all fun f => f K) = true := congrArg (fun z : Bool × He.AlD => z.1) c
  exact List.all_eq_true.mp c1 f (List.mem_of_getElem? h)
/-- isinstance of an exception of x by the class y, by a built-in type -/
def tKit (x y : Str) (b : Bool) : Tst := fun K => decide (PySem.W.kitOne K (.ref (He.ga K x)) (.ref (He.ga K y)) = some b)
def tKitT (x : Str) (T : String) (b : Bool) : Tst := fun K => decide (PySem.W.kitOne K (.ref (He.ga K x)) (.type T) = some b)
/-- an exception class whose instances may be asked -/
def tExcC (x : Str) : Tst := fun K => decide (PySem.W.findIn K (.ref (He.ga K x)) "__getattribute__" = some (some (.builtin "BaseException.__getattribute__"))) && (decide (PySem.W.findIn K (.ref (He.ga K x)) "__getattr__" = some none) && (decide (PySem.W.subIn K (.ref (He.ga K x)) (.type "BaseException") = some true) && (PySem.W.hasDictIn K (He.ga K x) &&
  (decide (PySem.W.findIn K (.ref (He.ga K x)) "__class__" = some (some (.builtin "object.__class__"))) && (decide (PySem.W.specialIn K (.builtin "object.__class__") "__get__" = some (some (.builtin "getset_descriptor.__get__"))) && (decide (PySem.W.takesIn K (.builtin "object.__class__") = some true) && decide (PySem.W.mroIn K (He.ga K x) (.type "object") = some true)))))))
theorem tExcC_ok {K : PySem.W.Frag} {x : Str} (h : tExcC x K = true) : ExcC K (He.ga K x) := by
  unfold tExcC at h
  simp only [Bool.and_eq_true, decide_eq_true_eq] at h
  obtain ⟨h1, h2, h3, h4, h5, h6, h7, h8⟩ := h
  exact ⟨h1, h2, h3, h4, h5, h6, h7, h8⟩
end CC
set_option maxHeartbeats 4000000
/-! try .. except C as e: the suite asks e. -/
namespace CC
open PySem PySem.Spec L2
open PyProof.Rows hiding St
variable {α β γ δ τ υ ω ρ ε κ : Type}
/-- isinstance(e, c), e with its dict -/
def rIsD (K : PySem.W.Frag) (D a : Addr) (d : Option Addr) : List V → Hp → VK → Prop := fun xs H Q => (∃ o, excD o H d) ∧ rIsE K D a xs H Q
theorem instD {X : Cx} {pins : List (Addr × Obj)} {σ : L2.St} {H : Hp} {s : Shared} {a D : Addr} {oe : Obj} {pn : List (Addr × Obj)} {d : Option Addr} (I : Inv (X.suite a ((a, oe) :: pn)) pins σ H s) (hz : Zc (.ref D) d oe) (hf : ∃ vs, oe.data = .fields vs) (he : ∃ o, excD o H d) : ∃ od, PySem.W.InstAt s.heap a oe D od := by
  obtain ⟨hget, _⟩ := I.pin (a, oe) (List.mem_append.mpr (.inl List.mem_cons_self))
  obtain ⟨vs, hv⟩ := hf
  obtain ⟨oc, od, oda, osl⟩ := oe
  obtain ⟨h1, h2⟩ := hz
  dsimp only at h1 h2 hv
  subst h1 h2 hv
  obtain ⟨o, he⟩ := he
  cases o with
  | none =>
    have he : od = none := he
    subst he
    exact ⟨none, hget, rfl, rfl, trivial⟩
  | some q =>
    obtain ⟨dd, w, e1, e2, _⟩ := he
    subst e1
    have hx : ObjOk X.prog X.w H s.heap dd (.xd [(q.1, w)]) := I.hok dd _ e2
    obtain ⟨mA, hns, _⟩ := hx
    obtain ⟨od, ho, _⟩ := lookIn_ns hns
    exact ⟨some od, hget, rfl, rfl, ho⟩
theorem call_isD {X : Cx} {a D : Addr} {oe : Obj} {pn : List (Addr × Obj)} {d : Option Addr} (C : ExcC X.K D) (hz : Zc (.ref D) d oe) (hf : ∃ vs, oe.data = .fields vs) : CallR (X.suite a ((a, oe) :: pn)) (.builtin "isinstance") (rIsD X.K D a d) := by
  intro pins s σ H xs us Q I r h
  obtain ⟨hd, c, cv, b, rfl, hcv, e, q⟩ := h
  cases r with
  | cons rx rr =>
    cases rr with
    | cons rt rr =>
      cases rr
      cases rx
      have ec := hcv _ rt
      subst ec
      obtain ⟨od, J⟩ := instD I hz hf hd
      obtain ⟨cd, hcl, _⟩ := PySem.W.any_some C.hd
      exact PySem.W.kia_one (PySem.W.kitx_exc (by rw [hcl]; rfl) C.hg C.hk C.hs C.ha C.hn C.ht C.hm) I.kIn J e (fun z => nomatch z) fun tk => ⟨.bl b, H, I.kept (t' := tk) fun _ _ z => z, rfl, q⟩
section
variable {S : Stc} {Γ Δ : Ctx} {pos : Pos} {st : Stmt} {rest A B : List Stmt}
/-- isinstance(e, C) -/
theorem jn_isE {x c : Str} {p p1 pc : Pos} {a C D : Addr} {b : Bool} {d : Option Addr} {o : Option (Str × SP)} (i : Nat) (hex : S.ex = some (a, C, d)) (hE : ExcC S.K C) (hk : PySem.W.kitOne S.K (.ref C) (.ref D) = some b) (hm : S.mg "isinstance" = none) (hmc : S.mg c = some (.ref D)) (hi : Γ[i]? = some (some (sh (excS a d o))) := by rfl) (hN : S.N[i]? = some x := by rfl) (hv : Vis S.sc x := by first | exact Or.inl rfl | exact Or.inr (Or.inl rfl) | exact Or.inr (Or.inr rfl)) (hg : GlS S "isinstance" := by rfl) (hgc : GlS S c := by rfl)
    (hd : (x == ("__debug__" : Str)) = false := by decide) (hcd : (x == ("__classdict__" : Str)) = false := by decide) (hdb : (c == ("__debug__" : Str)) = false := by decide)
    (hs : ∀ env, starEach [.Name x p1, .Name c pc] env = [(false, eval (.Name x p1) env), (false, eval (.Name c pc) env)] := by intro _; rfl) (hs2 : ∀ env, starEach [Expr.Name c pc] env = [(false, eval (.Name c pc) env)] := by intro _; rfl) :
    JN S (.Call (.Name "isinstance" p) [.Name x p1, .Name c pc] [] pos) Γ (some b) fun z => sh (boolS z) := fun σ W F sta z hz Q kq => by
  cases hz
  obtain ⟨v, h1, h2⟩ := sta.get hi
  obtain ⟨rfl, h2⟩ := h2
  refine ⟨tCB (rIsD S.K C a d) (tCons (tVar i) (tCons (tC (.ref D)) tNil)), fun X hX => ?_, ?_⟩
  · obtain ⟨X', oe, pn, rfl, hz, hf⟩ := hX.ex a C d hex
    have hc : CallR (X'.suite a ((a, oe) :: pn)) (.builtin "isinstance") (rIsD S.K C a d) := by
      have e : (X'.suite a ((a, oe) :: pn)).K = S.K := hX.K
      have := call_isD (X := X') (a := a) (pn := pn) (by rw [show X'.K = S.K from e]; exact hE) hz hf
      rw [show X'.K = S.K from e] at this
      exact this
    exact pe_callB hc (hg.gl hX) (mgS hm hX) (by decide +kernel) (pa_cons (pe_var (by rw [hX.N]; exact hN) (visS hv hX) hd hcd) (pa_cons (pe_glob (v := .ref D) (hgc.gl hX) (mgS hmc hX) rfl hdb) pa_nil (hs2 _)) ((hs _).trans (by rw [hs2]))) (by decide) (by decide) ((hs _).trans (by rw [hs2])) (by rw [hs2]; rfl)
  · exact ⟨.ref a, h1, ⟨o, excD_mono h2 sta.ok⟩, .ref D, .ref D, b, rfl, fun u r => r, hk, kq.val sta.ok rfl⟩
/-- isinstance(e, T), T built in -/
theorem jn_isET {x c : Str} {T : String} {p p1 pc : Pos} {a C : Addr} {b : Bool} {d : Option Addr} {o : Option (Str × SP)} (i : Nat) (hex : S.ex = some (a, C, d)) (hE : ExcC S.K C) (hk : PySem.W.kitOne S.K (.ref C) (.type T) = some b) (hm : S.mg "isinstance" = none) (hmc : S.mg c = none) (hi : Γ[i]? = some (some (sh (excS a d o))) := by rfl) (hN : S.N[i]? = some x := by rfl) (hv : Vis S.sc x := by first | exact Or.inl rfl | exact Or.inr (Or.inl rfl) | exact Or.inr (Or.inr rfl)) (hg : GlS S "isinstance" := by rfl) (hgc : GlS S c := by rfl)
    (hvc : bootBuiltins c = some (.type T) := by decide +kernel) (hn : c ≠ "__name__" := by decide)
    (hd : (x == ("__debug__" : Str)) = false := by decide) (hcd : (x == ("__classdict__" : Str)) = false := by decide) (hdb : (c == ("__debug__" : Str)) = false := by decide)
    (hs : ∀ env, starEach [.Name x p1, .Name c pc] env = [(false, eval (.Name x p1) env), (false, eval (.Name c pc) env)] := by intro _; rfl) (hs2 : ∀ env, starEach [Expr.Name c pc] env = [(false, eval (.Name c pc) env)] := by intro _; rfl) :
    JN S (.Call (.Name "isinstance" p) [.Name x p1, .Name c pc] [] pos) Γ (some b) fun z => sh (boolS z) := fun σ W F sta z hz Q kq => by
  cases hz
  obtain ⟨v, h1, h2⟩ := sta.get hi
  obtain ⟨rfl, h2⟩ := h2
  refine ⟨tCB (rIsD S.K C a d) (tCons (tVar i) (tCons (tC (.ty T)) tNil)), fun X hX => ?_, ?_⟩
  · obtain ⟨X', oe, pn, rfl, hz, hf⟩ := hX.ex a C d hex
    have hc : CallR (X'.suite a ((a, oe) :: pn)) (.builtin "isinstance") (rIsD S.K C a d) := by
      have e : (X'.suite a ((a, oe) :: pn)).K = S.K := hX.K
      have := call_isD (X := X') (a := a) (pn := pn) (by rw [show X'.K = S.K from e]; exact hE) hz hf
      rw [show X'.K = S.K from e] at this
      exact this
    exact pe_callB hc (hg.gl hX) (mgS hm hX) (by decide +kernel) (pa_cons (pe_var (by rw [hX.N]; exact hN) (visS hv hX) hd hcd) (pa_cons (pe_bltn (v := .ty T) (hgc.gl hX) (mgS hmc hX) hvc rfl hn hdb) pa_nil (hs2 _)) ((hs _).trans (by rw [hs2]))) (by decide) (by decide) ((hs _).trans (by rw [hs2])) (by rw [hs2]; rfl)
  · exact ⟨.ref a, h1, ⟨o, excD_mono h2 sta.ok⟩, .ty T, .type T, b, rfl, fun u r => r, hk, kq.val sta.ok rfl⟩
end
section
variable {S : Stc} {Γ Δ : Ctx} {pos : Pos} {st : Stmt} {rest A B : List Stmt}
/-- the context of a suite that has its exception by name -/
abbrev Stc.suiE (S : Stc) (a C : Addr) (d : Option Addr) : Stc := { S with W := fun _ _ _ _ => False, calm := false, top := false, ex := some (a, C, d) }
theorem Stc.In.suiE {X : Cx} (h : S.In X) {a C : Addr} {d : Option Addr} {oe : Obj} {pn : List (Addr × Obj)} (hz : Zc (.ref C) d oe) (hf : ∃ vs, oe.data = .fields vs) : (S.suiE a C d).In (X.suite a ((a, oe) :: pn)) :=
  ⟨h.prog, h.w, h.K, h.mg, h.base, h.N, h.sc, h.fn, rfl, nofun, h.un, PassesOwn.never, takes_none, nofun, fun a' C' d' z => by
    have z' : some (a, C, d) = some (a', C', d') := z
    cases z'
    exact ⟨X, oe, pn, rfl, hz, hf⟩⟩
/-- try .. except C as n: the suite returns -/
theorem js_tryAs {x n : Str} {c : Value} {np pos' : Pos} {b₀ : Stmt} {mb : Option (Res ε ω)} {ms : ε → Option ω} {Xp : ε → XP} {D : ω → Kd} (Γx : Ctx) (i : Nat) (Cu : ε → Addr) (Au : ε → Option (Str × SP)) (nd : S.N.Nodup) (hb : ∀ wx : WX, JB { S with W := wx } B Γ mb (TD D Γx Xp)) (hX : ∀ u, Xp u = excX (Cu u) (Au u)) (hs : ∀ u a d, JB (S.suiE a (Cu u) d) (b₀ :: A) (Γx.set i (some (sh (excS a d (Au u))))) (ms u) D) (hm : S.mg x = some c) (hx : ∀ u, PySem.W.exmOne S.K (.ref (Cu u)) c = some true)
    (hrt : ∀ o, ∃ Γ' R, D o = .rt Γ' R) (hi : (Γx[i]?).isSome = true := by rfl) (hp : (S.prot.contains i) = false := by rfl) (hN : S.N[i]? = some n := by rfl) (hln : S.sc.names.lookup n = some .local := by rfl) (hg : GlS S x := by rfl) (hdb : (x == ("__debug__" : Str)) = false := by decide) (htop : S.top = true := by rfl) (hex : S.ex = none := by rfl) : JS S (.Try B [.ExceptHandler (some (.Name x np)) (some n) (b₀ :: A) pos'] [] [] pos) Γ (tryM mb ms) D := fun σ W F sta z hz E k => by
  obtain ⟨r, h1, h2⟩ := run1 hz
  refine ⟨fun D σ H => tbOf { S with W := wAs S.K c i (fun a cls d D σ H => ∃ C, cls = .ref C ∧ tbOf (S.suiE a C d) (b₀ :: A) D σ H) S.W D } B D σ H, fun X hX' => ?_, ?_⟩
  · obtain ⟨t1, t2⟩ := hX'.top htop
    have := ps_try_as (pos := pos) (pos' := pos') (np := np) (i := i) (n := n) t1 t2 (by rw [hX'.N]; exact nd) (by rw [hX'.N]; exact hN) (show X.env.scope.names.lookup n = some .local by rw [hX'.sc]; exact hln) (c := c) (x := x) (b₀ := b₀) (suite := A) (body := B) (ts := fun a cls d D σ H => ∃ C, cls = .ref C ∧ tbOf (S.suiE a C d) (b₀ :: A) D σ H) (tb := fun W => tbOf { S with W := W } B) ⟨hg.gl hX', hdb, .inl (mgS hm hX')⟩ hX'.tk (fun W pn xe tk pass => pbO (hX'.tr hex tk pass)) (fun a oe cls d pn zc hf => ⟨fun pins s σ H D I ⟨C, e1, q⟩ => by
        subst e1
        exact (pbO (hX'.suiE zc hf)).run pins s σ H D I q⟩)
    rw [hX'.K] at this
    exact this
  · refine hb _ σ W F sta r h1 E ?_
    cases r with
    | ok o =>
      cases h2
      show Post _ S.prot σ W F E (D z)
      obtain ⟨Γ', R, hq⟩ := hrt z
      rw [hq] at k ⊢
      exact k
    | er u =>
      intro c' d σ' W' F' kp stp sa hpx
      rw [hX] at hpx
      obtain ⟨rfl, hpd⟩ := hpx
      refine ⟨true, hx u, fun _ a ha => ⟨Cu u, rfl, ?_⟩, fun q => nomatch q⟩
      have hlt : i < Γx.length := by
        cases h : Γx[i]? with
        | none => rw [h] at hi; cases hi
        | some o => exact (List.getElem?_eq_some_iff.mp h).1
      obtain ⟨F3, s4, sub⟩ := sa.put (o := sh (excS a d (Au u))) (v := .ref a) (F1 := []) hlt ⟨rfl, rfl, hpd⟩ (by rw [List.append_nil]; exact sa.fp)
      refine hs u a d _ W' F3 s4 z h2 _ ?_
      have k' := k.before (σ1 := σ'.set i (some (.ref a))) (kp.trans (Keep.set (ncon hp))) (stp.perm fun b hb => by simpa using sub b hb)
      obtain ⟨Γ', R, hq⟩ := hrt z
      rw [hq] at k' ⊢
      exact k'
end
/-! ### f(k = v, ..), f may raise -/
section
variable {X : Cx} {CX : CXT} {k n : Nat} {f : Addr} {fd : FuncData} {ps ks : List Str} {sp : Sp} {E : L2.St → XK} {x : Str} {p pos : Pos} {kws : List Keyword} {t tk : TA} {g : List Value → List Value → List Value} {gV : List V → List V → List V}
theorem run_fnNS {pins : List (Addr × Obj)} {σ : L2.St} {H : Hp} {s : Shared} {Q : VK} {us ws : List Value} {vs zs : List V} (F : FnOk X.prog X.w X.K X.mg X.base CX k f fd ps sp) (hr : Room k X.A) (hb : KBn X.K fd ps n ks g gV) (hx : PassesAt CX X σ (E σ))
    (I : Inv X pins σ H s) (r : Vals vs us) (rz : Vals zs ws) (l1 : vs.length = n) (l2 : zs.length = ks.length) (h : sp (gV vs zs) H Q (E σ)) : wpAny (model X.prog X.w) X.A (call (.ref f) us (ks.zip ws)) (EP X pins σ Q) X.xe s := by
  have r2 := hb.rel r rz
  refine wpAny_call (codeAny_mono (F.run X.A X.stack s H ⟨us, ks.zip ws⟩ (g us ws) (gV vs zs) Q (E σ) hr I.env0 (hb.to s us ws I.kIn (r.length.symm.trans l1) (rz.length.symm.trans l2)) r2 h) fun r s' hq => ?_)
  cases r with
  | error e => exact hx pins H s e s' I hq
  | ok fl =>
    cases fl with
    | ret u => exact I.after hq
    | next => exact False.elim hq
    | brk => exact False.elim hq
    | cont => exact False.elim hq
def tCall0S (m : Nat) (sp : Sp) (gV : List V → List V → List V) (E : L2.St → XK) (tk : TA) : TE := fun σ H Q => tk σ H fun zs H2 => zs.length = m ∧ sp (gV [] zs) H2 Q (E σ)
theorem pe_call0S (F : FnOk X.prog X.w X.K X.mg X.base CX k f fd ps sp) (hr : Room k X.A) (hg : Gl X x) (hm : X.mg x = some (.ref f)) (hk : PySem.W.keepIn X.K (.ref f) = true) (hb : KBn X.K fd ps 0 ks g gV) (hx : ∀ σ, PassesAt CX X σ (E σ)) (hkw : PK X kws tk)
    (hall : (backToKw pos (keywordEach kws X.env)).all (·.1.isSome) = true) (hks : (backToKw pos (keywordEach kws X.env)).filterMap (·.1) = ks) (hdb : (x == ("__debug__" : Str)) = false)
    (hpl : ((backTo pos (starEach [] X.env)).any (·.1) || (backToKw pos (keywordEach kws X.env)).any (·.1.isNone)) = false) : PE X (.Call (.Name x p) [] kws pos) (tCall0S ks.length sp gV E tk) := by
  refine ⟨fun pins s σ H Q I h => ?_⟩
  refine wpAny_Call_Name_kw (ld_glob I hg hm ?_ hdb)
  refine PySem.W.callWith_KW0 (h₀ := X.base) I.ok.mod.kin hk hall ?_ hpl
  refine thn (hkw.run pos pins s σ H _ I h) fun ws s2 ⟨zs, H2, I2, rz, l2, q2⟩ => ⟨I2.kIn, ?_⟩
  rw [hks]
  exact run_fnNS (us := []) (vs := []) F hr hb (hx σ) I2 .nil rz rfl l2 q2
end
section
variable {S : Stc} {Γ Δ : Ctx} {pos : Pos}
theorem jx_call0N {x : Str} {p : Pos} {f : Addr} {fd : FuncData} {ps ks : List Str} {k : Nat} {G : γ → List SP} {Gk : β → List SP} {fM : γ → Option (Res ε ρ)} {R : ρ → OP} {Xp : ε → XP} {mk : Option β} {kws : List Keyword} {gv : List Value → List Value → List Value} {gV : List V → List V → List V} (g : β → γ) (Fn : FnOk S.P S.w S.K S.mg S.base (L2.CX S.P S.w) k f fd ps (spX G fM R Xp)) (hm : S.mg x = some (.ref f)) (kp : PySem.W.keepIn S.K (.ref f) = true) (hb : KBn S.K fd ps 0 ks gv gV)
    (hG : ∀ z B zs, Hets B zs (Gk z) → Hets B (gV [] zs) (G (g z))) (hlk : ∀ z, (Gk z).length = ks.length) (hk : k ≤ S.k) (hkw : JK S kws Γ mk Gk) (hg : GlS S x := by rfl) (hdb : (x == ("__debug__" : Str)) = false := by decide)
    (hall : ∀ env, (backToKw pos (keywordEach kws env)).all (·.1.isSome) = true := by intro _; rfl) (hks : ∀ env, (backToKw pos (keywordEach kws env)).filterMap (·.1) = ks := by intro _; rfl)
    (hpl : ∀ env, ((backTo pos (starEach [] env)).any (·.1) || (backToKw pos (keywordEach kws env)).any (·.1.isNone)) = false := by intro _; rfl) (hcm : S.calm = true := by rfl) : JNX S (.Call (.Name x p) [] kws pos) Γ (mk.bind fun z => fM (g z)) R Xp := fun σ W F st z hz Q kk => by
  obtain ⟨w, h2, h3⟩ := run1 hz
  refine ⟨tCall0S ks.length (spX G fM R Xp) gV (WE S.W) (tkOf S kws), fun X hX => pe_call0S (fnokS Fn hX) ((hX.room hcm).mono hk) (hg.gl hX) (mgS hm hX) (by rw [hX.K]; exact kp) (kbnS hX hb) (fun σ => by rw [← hX.prog, ← hX.w]; exact passAt hX.tk σ) (pkO hX) (hall _) (hks _) hdb (hpl _), ?_⟩
  refine hkw σ W F st w h2 _ fun zs W2 e2 hz => ⟨hz.len.trans (hlk w), ?_⟩
  refine ⟨g w, W2, z, rfl, e2.ok, hG w _ zs hz, h3, ?_⟩
  cases z with
  | ok v => exact Got.ext kk e2
  | er u => exact fun c d W3 e3 hp => kk c d W3 (e2.trans e3) hp
end
end CC
set_option maxHeartbeats 4000000
/-! Exceptions, as printed: outcomes told by TD; isinstance of a handled exception by several classes. -/
namespace CC
open PySem PySem.Spec L2
open PyProof.Rows hiding St
variable {α β γ δ τ υ ω ρ ε κ : Type}
theorem rx_td {Δ Δx : Ctx} {R : α → OP} {Xp : ε → XP} : RX Δ Δx R Xp = TD (fun a => .rt Δ (R a)) Δx Xp := funext fun r => by cases r <;> rfl
theorem td_nonx {D : ω → Kd} {Γx : Ctx} {Xp : ε → XP} (h : ∀ x, NoNx (D x)) : ∀ r, NoNx (TD D Γx Xp r)
  | .ok x => h x
  | .er _ => trivial
theorem td_ends {D : ω → Kd} {Γx : Ctx} {Xp : ε → XP} (h : ∀ x, NoNx (D x) ∧ (∀ Δ, D x ≠ .bk Δ) ∧ ∀ Δ, D x ≠ .ct Δ) : ∀ r, NoNx (TD D Γx Xp r) ∧ (∀ Δ, TD D Γx Xp r ≠ .bk Δ) ∧ ∀ Δ, TD D Γx Xp r ≠ .ct Δ
  | .ok x => h x
  | .er _ => ⟨trivial, nofun, nofun⟩
section
variable {S : Stc} {Γ Δ Δx : Ctx} {a b c e : Expr} {es : List Expr} {pos : Pos} {st : Stmt} {rest A B : List Stmt}
/-- an if whose way is not claimed -/
theorem jb_ifN {mc : Option Bool} {mr : Option ω} {D : ω → Kd} (hc : JT S c Γ mc) (hr : JB S rest Γ mr D) : JB S (.If c A [] pos :: rest) Γ (mc.bind fun b => bif b then none else mr) D := fun σ W F sta z hz E k => by
  obtain ⟨x, h1, h2⟩ := run1 hz
  cases x with
  | true => cases h2
  | false =>
    refine ⟨tSeq (tIfS (ttOf S c) tNever tNext) (tbOf S rest), fun X hX => pss_cons (ps_if (ptO hX) pss_never pss_nil) (pbO hX), ?_⟩
    refine hc σ W F sta false h1 _ fun W' ext => ?_
    have stp : Stp W F W' F := by have := ext.stp (F := F) (Fv := []) (by simp); rwa [List.append_nil] at this
    exact iteF (hr σ W' F (sta.ext ext) z h2 E (k.before Keep.refl stp))
/-- nothing is claimed -/
theorem jb_none {sts : List Stmt} {D : ω → Kd} : JB S sts Γ (none : Option ω) D := fun _ _ _ _ _ h => nomatch h
theorem jb_retT {m : Option (Res ε α)} {R : α → OP} {Xp : ε → XP} (w : Weak Γ Δ) (wx : Weak Γ Δx) (h : JNX S e Γ m R Xp) : JB S (.Return (some e) pos :: rest) Γ m (TD (fun y => .rt Δ (R y)) Δx Xp) := rx_td ▸ jb_retX w wx h
theorem jx_any {E : α → SP} {f : α → PV} {m : Option (Res ε α)} {Xp : ε → XP} (ao : AnyOf E f) (h : JNX S e Γ m (fun x => sh (E x)) Xp) : JNX S e Γ (m.bind fun r => some (mapX f r)) (fun y => sh (anyS y)) Xp := fun σ W F st z hz Q k => by
  obtain ⟨r, h1, h2⟩ := run1 hz
  cases h2
  refine h σ W F st r h1 Q ?_
  cases r with
  | ok x => exact fun v W' Fv e fr fp rr => k v W' Fv e fr fp ⟨rr.1, ao.go W'.B x v rr.2⟩
  | er u => exact k
/-- a pure outcome among those that may raise -/
theorem jb_okT {sts : List Stmt} {m : Option ω} {D : ω → Kd} {Γx : Ctx} {Xp : ε → XP} (h : JB S sts Γ m D) : JB S sts Γ (m.bind fun x => some (Res.ok x)) (TD D Γx Xp) := JB.map h fun _ => rfl
end
theorem fnd_pureT {P : Program} {w : World} {K : PySem.W.Frag} {mg : Str → Option Value} {base : Heap} {x qual : Str} {st : Stmt} {f : Addr} {fd : FuncData} {dvs : List V} {kwd : List (Str × V)} {N ps : List Str} {k : Nat} {G : α → List SP} {fM : α → Option (Res ε ρ)} {R : ρ → OP} {Xp : ε → XP} {Δ : Ctx} (F : FunD K x qual (defArgs st) (defBody st) (defScope st) dvs kwd f fd) (Sc : FnScope N ps (defScope st)) (hG : ∀ a, (G a).length = ps.length) (hn : ps.length ≤ N.length)
    (body : ∀ a (wx : WX), JB { stcOf P w K mg base N (defScope st) k [] with W := wx } (defBody st) (shC (G a) ++ nonC (N.length - ps.length)) (fM a) (TD (fun y => .rt Δ (R y)) Δ Xp)) : FnOk P w K mg base (L2.CX P w) (k + 1) f fd ps (spX G fM R Xp) :=
  fnd_pureX (Δ := Δ) F Sc hG hn fun a wx => rx_td ▸ body a wx
/-! ### isinstance(e, (C, D)) in a suite -/
def tConsts : List V → TA
  | [] => tNil
  | c :: cs => tCons (tC c) (tConsts cs)
def JCl (S : Stc) (es : List Expr) (cs : List V) (us : List Value) : Prop := (∀ X, S.In X → PA X es (tConsts cs)) ∧ Paired ClsV cs us
theorem jcl_nil {S : Stc} : JCl S [] [] [] := ⟨fun _ _ => pa_nil, .nil⟩
theorem jcl_cons {S : Stc} {c : Str} {pc : Pos} {es : List Expr} {cs : List V} {us : List Value} {D : Addr} (hm : S.mg c = some (.ref D)) (h : JCl S es cs us) (hg : GlS S c := by rfl) (hdb : (c == ("__debug__" : Str)) = false := by decide) (hs : ∀ env, starEach (.Name c pc :: es) env = (false, eval (.Name c pc) env) :: starEach es env := by intro _; rfl) : JCl S (.Name c pc :: es) (.ref D :: cs) (.ref D :: us) :=
  ⟨fun X hX => pa_cons (pe_glob (v := .ref D) (hg.gl hX) (mgS hm hX) rfl hdb) (h.1 X hX) (hs _), .cons (.own D) h.2⟩
/-- isinstance(e, (c, d)), e the exception that the suite holds -/
def rIsET (K : PySem.W.Frag) (D a : Addr) (d : Option Addr) : List V → Hp → VK → Prop := fun xs H Q => (∃ o, excD o H d) ∧ ∃ (tp : Addr) (cs : List V) (us : List Value) (b : Bool), xs = [.ref a, .ref tp] ∧ H tp = some (.tup cs) ∧ Paired ClsV cs us ∧ PySem.W.kitAny K (.ref D) us = some b ∧ Q (.bl b) H
theorem call_isET {X : Cx} {a D : Addr} {oe : Obj} {pn : List (Addr × Obj)} {d : Option Addr} (C : ExcC X.K D) (hz : Zc (.ref D) d oe) (hf : ∃ vs, oe.data = .fields vs) : CallR (X.suite a ((a, oe) :: pn)) (.builtin "isinstance") (rIsET X.K D a d) := by
  intro pins s σ H xs us Q I r h
  obtain ⟨hd, tp, cs, ws, b, rfl, hT, k, e, q⟩ := h
  obtain ⟨u1, u2, rfl, r1, r2⟩ := vals2 r
  cases (show u1 = Value.ref a from r1)
  cases (show u2 = Value.ref tp from r2)
  obtain ⟨od', J⟩ := instD I hz hf hd
  obtain ⟨_, its, rv, o, h1, h2, n, h3⟩ := (show ObjOk X.prog X.w H s.heap tp (.tup cs) from I.hok tp _ hT)
  have e3 := ClsV.all k rv
  subst e3
  obtain ⟨oc, od, dt, sl⟩ := o
  simp only at h2 h3
  subst h2 h3
  obtain ⟨cd, hcl, _⟩ := PySem.W.any_some C.hd
  exact PySem.W.kia_tup (PySem.W.kitx_exc (by rw [hcl]; rfl) C.hg C.hk C.hs C.ha C.hn C.ht C.hm) I.kIn J h1 e (fun z => nomatch z) fun tk => ⟨.bl b, H, I.kept (t' := tk) fun _ _ z => z, rfl, q⟩
section
variable {S : Stc} {Γ Δ : Ctx} {pos : Pos}
theorem jn_isETup {x : Str} {es : List Expr} {kt : Nat} {p p1 pt : Pos} {a C : Addr} {b : Bool} {cs : List V} {us : List Value} {d : Option Addr} {o : Option (Str × SP)} (i : Nat) (hex : S.ex = some (a, C, d)) (hE : ExcC S.K C) (hk : PySem.W.kitAny S.K (.ref C) us = some b) (hcl : JCl S es cs us) (hm : S.mg "isinstance" = none) (hi : Γ[i]? = some (some (sh (excS a d o))) := by rfl) (hl : cs.length ≤ 1000 := by exact Nat.le_of_ble_eq_true rfl) (hN : S.N[i]? = some x := by rfl) (hv : Vis S.sc x := by first | exact Or.inl rfl | exact Or.inr (Or.inl rfl) | exact Or.inr (Or.inr rfl)) (hg : GlS S "isinstance" := by rfl)
    (hd : (x == ("__debug__" : Str)) = false := by decide) (hcd : (x == ("__classdict__" : Str)) = false := by decide)
    (hs : ∀ env, starEach [.Name x p1, .Tuple es kt pt] env = [(false, eval (.Name x p1) env), (false, eval (.Tuple es kt pt) env)] := by intro _; rfl) (hs2 : ∀ env, starEach [Expr.Tuple es kt pt] env = [(false, eval (.Tuple es kt pt) env)] := by intro _; rfl) :
    JN S (.Call (.Name "isinstance" p) [.Name x p1, .Tuple es kt pt] [] pos) Γ (some b) fun z => sh (boolS z) := fun σ W F sta z hz Q kq => by
  cases hz
  obtain ⟨v, h1, h2⟩ := sta.get hi
  obtain ⟨rfl, h2⟩ := h2
  refine ⟨tCB (rIsET S.K C a d) (tCons (tVar i) (tCons (tTup (tConsts cs)) tNil)), fun X hX => ?_, ?_⟩
  · obtain ⟨X', oe, pn, rfl, hz, hf⟩ := hX.ex a C d hex
    have hc : CallR (X'.suite a ((a, oe) :: pn)) (.builtin "isinstance") (rIsET S.K C a d) := by
      have e : (X'.suite a ((a, oe) :: pn)).K = S.K := hX.K
      have := call_isET (X := X') (a := a) (pn := pn) (by rw [show X'.K = S.K from e]; exact hE) hz hf
      rw [show X'.K = S.K from e] at this
      exact this
    exact pe_callB hc (hg.gl hX) (mgS hm hX) (by decide +kernel) (pa_cons (pe_var (by rw [hX.N]; exact hN) (visS hv hX) hd hcd) (pa_cons (pe_tup (hcl.1 _ hX)) pa_nil (hs2 _)) ((hs _).trans (by rw [hs2]))) (by decide) (by decide) ((hs _).trans (by rw [hs2])) (by rw [hs2]; rfl)
  · refine ⟨.ref a, h1, ?_⟩
    have go : ∀ (cs : List V) (H : Hp) (Q : List V → Hp → Prop), Q cs H → tConsts cs σ H Q := by
      intro cs
      induction cs with
      | nil => intro H Q q; exact q
      | cons c cs ih => intro H Q q; exact ih H _ q
    refine go cs W.H _ ⟨Nat.le_trans hl (by decide), fun q hq => ?_⟩
    have e2 := Ext.newB sta.ok (o := .tup cs) hq
    refine ⟨⟨o, excD_mono h2 (sta.ok.trans e2.h)⟩, q, cs, us, b, rfl, upd_same, hcl.2, hk, ?_⟩
    exact (kq.ext (W1 := ⟨upd W.H q (.tup cs), upd W.B q (.tup cs)⟩) e2).val e2.ok rfl
end
end CC
set_option maxHeartbeats 4000000
/-! enumerate over a tuple. -/
namespace CC
open PySem PySem.Spec L2
open PyProof.Rows hiding St
open PySem (Draws Begins begins_tuple)
open AutoSeq1 (wpAny_loadPart')
theorem meets_enumT {v : Value} {o : Obj} {H : Heap → Prop} (B : Begins v o H) :
    Meets (Builtin.«enumerate.__new__» ⟨[.type "enumerate", v], []⟩) (fun _ R s => H s.heap ∧
      R (.ok (.ret (.ref (s.heap.push o).objs.size))) { s with heap := (s.heap.push o).push { cls := .type "enumerate", data := .fields #[.none, .bool false, .ref s.heap.objs.size, rawInt 0, .none, .none] } }) :=
  .of_wp fun prog w A R s h => by
    obtain ⟨hp, g, d, tk, os⟩ := s; obtain ⟨h1, h⟩ := h
    have hsub := sub_enumerate
    have q1 : ∀ {A' : Around} {E : Value → Shared → Prop} {Q : Value → Shared → Prop}, Q (.ref hp.objs.size) ⟨hp.push o, g, d, tk, os⟩ → wpAny (model prog w) A' (pyIter v) Q E ⟨hp, g, d, tk, os⟩ :=
      fun q => B.iter prog w _ _ ⟨hp, g, d, tk, os⟩ _ h1 q
    wp_walk using q1
    refine wpAny_stack_any fun st => wpAny_pure ?_
    split
    · rename_i c _ _ _ _ _
      cases (c == Value.type "enumerate")
      · wp_walk using q1
        exact ⟨_, rfl, h⟩
      · wp_walk using q1
        exact ⟨_, rfl, h⟩
    · wp_walk using q1
      exact ⟨_, rfl, h⟩
theorem call_enumT {prog : Program} {w : World} {A : Around} {E : Value → Shared → Prop} {s : Shared} {v : Value} {o : Obj} {H : Heap → Prop} {Q : Value → Shared → Prop} (B : Begins v o H) (h1 : H s.heap)
    (h : ∀ h', IsEnum h' (s.heap.objs.size + 1) s.heap.objs.size 0 .none → h'.get? s.heap.objs.size = some o → h'.objs.size = s.heap.objs.size + 2 →
      (∀ b o, s.heap.get? b = some o → h'.get? b = some o) → Q (.ref (s.heap.objs.size + 1)) { s with heap := h' }) :
    wpAny (model prog w) A (call (.type "enumerate") [v]) Q E s := by
  refine callType_new F.called_enumerate (by decide) (F.typeCall_enumerate_1 _) (F.newCall_enumerate_1 _) (fun obj => F.args_object_init_2 obj _) F.entry_enumerate_new
    (meets_enumT B) ⟨h1, ?_⟩
  have hz : (s.heap.push o).objs.size = s.heap.objs.size + 1 := Heap.size_push ..
  show _ ∧ _
  rw [hz]
  have he : IsEnum ((s.heap.push o).push { cls := .type "enumerate", data := .fields #[.none, .bool false, .ref s.heap.objs.size, rawInt 0, .none, .none] }) (s.heap.objs.size + 1) s.heap.objs.size 0 .none := by
    have := Heap.get?_push_size (s.heap.push o) (o := { cls := .type "enumerate", data := .fields #[.none, .bool false, .ref s.heap.objs.size, rawInt 0, .none, .none] }) rfl
    rw [hz] at this; exact this
  refine ⟨⟨_, he, rfl⟩, h _ he (Heap.get?_push_of_some _ (Heap.get?_push_size _ B.free)) (by rw [Heap.size_push, hz]) fun b o x => Heap.get?_push_of_some _ (Heap.get?_push_of_some _ x)⟩
theorem wpAny_pyNext_enum_endT {prog : Program} {w : World} {A : Around} {E : Value → Shared → Prop} {s : Shared} {e it t : Addr} {i : Nat} {items : Array Value} {old : Value} {Q : Option Value → Shared → Prop} (hh : A.handled = none)
    (he : IsEnum s.heap e it i old) (hit : s.heap.IsTupleIter it t i) (ht : s.heap.IsTuple t items) (hx : items[i]? = none)
    (hQ : ∀ h', Heap.ExtBut it s.heap h' → Q none { s with heap := h' }) : wpAny (model prog w) A (pyNext (.ref e)) Q E s := by
  have hT : s.TypeIs (.ref e) "enumerate" := ⟨_, he, rfl⟩
  unfold pyNext
  refine wpAny_bind (wpAny_attempt (wpAny_callSpecial?_slot (name := Str.ofString "__next__") hT F.slot_enumerate_next
    (wpAny_call_entry F.slot_enumerate_next hT F.entry_enumerate_next ?_ (F.args_enumerate_next_1 _))))
  show wpAny _ _ (field (.ref e) 2 >>= _) _ _ _
  refine wpAny_bind (wpAny_field he rfl (x := .ref it) rfl ?_)
  refine wpAny_bind (wpAny_nextOf_tuple_end hh hit ht hx fun h' x he' hx' => ?_)
  obtain ⟨o, ho, hc⟩ := hx'
  refine wpAny_bind (wpAny_isInstance (T := "StopIteration") (b := true) ⟨o, ho, hc⟩ isSubtype_stop ?_)
  exact wpAny_pure (hQ _ he')
/-- the tuple at a, each item in a new pair -/
def IteT (K : PySem.W.Frag) (a : Addr) : It :=
  ⟨fun i H => ∃ (xs : List V) (x : V), SqT K H a xs ∧ xs[i]? = some x, fun i H v H' => ∃ T x, v = .ref T ∧ H T = none ∧ H' = upd H T (.tup [.int (i : Nat), x]) ∧ ∀ xs, SqT K H a xs → xs[i]? = some x, fun i H => ∃ xs : List V, SqT K H a xs ∧ xs.length ≤ i⟩
theorem turn_enumT {P : Program} {w : World} {K : PySem.W.Frag} {elts : List Expr} {kk : Nat} {tpos : Pos} (a e it : Addr) (its : Array Value) :
    Turn P w K (.Tuple elts kk tpos) (IteT K a) [e, it] e (fun i h => (∃ old, IsEnum h e it ((i : Nat) : Int) old) ∧ h.IsTupleIter it a i ∧ e ≠ it) where
  mem := by simp
  obj := fun i h st b hb => by
    obtain ⟨⟨old, he⟩, ⟨o, ho, hc, hd⟩, _⟩ := st
    have e' : b = e ∨ b = it := by simpa using hb
    rcases e' with z | z
    · rw [z]; exact ⟨_, he, fun v q => nomatch q⟩
    · rw [z]; exact ⟨o, ho, fun v q => by rw [hd] at q; cases q⟩
  keep := fun i h h' st k => by
    obtain ⟨⟨old, he⟩, ⟨o, ho, r⟩, hne⟩ := st
    exact ⟨⟨old, k e (by simp) _ he⟩, ⟨o, k it (by simp) o ho, r⟩, hne⟩
  item := by
    intro X hP hw hK hc i pins s σ H E I hf st hg
    subst hP hw hK
    obtain ⟨⟨old, he⟩, hit, hne⟩ := st
    obtain ⟨xs, x, hq, hx⟩ := hg
    obtain ⟨its, rv, p, hz⟩ := I.tuple hq
    obtain ⟨u, hu, ru⟩ := rv.get hx
    have hel : e < s.heap.objs.size := Heap.lt_size he
    have hil : it < s.heap.objs.size := by obtain ⟨_, q, _⟩ := hit; exact Heap.lt_size q
    have pT : s.heap.IsTuple a its.toArray := p
    obtain ⟨oa, hoa, hca, na, hda⟩ := id pT
    have hai : a ≠ it := fun z => by
      obtain ⟨o, ho, hc, _⟩ := hit
      rw [← z, hoa] at ho
      cases ho
      rw [hca] at hc
      exact absurd hc (by decide)
    have hea : e ≠ a := fun z => by
      have he' : s.heap.get? e = _ := he
      rw [z, hoa] at he'
      cases he'
      exact absurd (show Value.type "enumerate" = Value.type "tuple" from hca) (by decide)
    refine wpAny_pyNext_enum_itemD (D := Draws.tuple (A := X.A.in1) (I.ok.hd hc) it a hai its.toArray) he ⟨hit, pT⟩ (by have := (List.getElem?_eq_some_iff.mp hu).1; simpa using this) hne (by simp [hne, hea]) fun y h' tk hy ho hst hT hsz hk => ?_
    have ey : y = u := by
      have h1 : its.toArray[i]? = some y := hy
      simp only [List.getElem?_toArray] at h1
      rw [hu] at h1
      exact (Option.some.inj h1).symm
    subst ey
    obtain ⟨hit', _⟩ := hst
    refine ⟨_, rfl, wpAny_letOwnedTupleGo_enum (s := { s with heap := h', toks := tk + 1 }) ho fun h'' he' sb => ?_⟩
    have hT2 : h''.get? s.heap.objs.size = some { cls := .type "tuple", data := .seq #[.int i tk, y] } := (sb.2 _ (Nat.ne_of_gt hel)).trans hT
    have new : ObjOk X.prog X.w (upd H s.heap.objs.size (.tup [.int (i : Nat), x])) h'' s.heap.objs.size (.tup [.int (i : Nat), x]) :=
      ⟨by show 2 ≤ sizeLine; decide, [.int i tk, y], .cons ⟨_, rfl⟩ (.cons ru .nil), ⟨_, hT2, rfl, _, rfl⟩⟩
    have I1 : Inv X pins σ (upd H s.heap.objs.size (.tup [.int (i : Nat), x])) { s with heap := h'', toks := tk + 1 } :=
      I.turnedNew (ch := [e, it]) (fun b ob hb q => (sb.2 b (fun z => hb (by simp [z]))).trans (hk b ob (fun z => hb (by simp [z])) (fun z => hb (by simp [z])) q)) hf (Nat.le_refl _) new
    refine ⟨.ref s.heap.objs.size, _, I1, rfl, ⟨_, x, rfl, I.hok.fresh (Nat.le_refl _), rfl, fun ys hy => by rw [I.tuple_inj hy hq]; exact hx⟩, ⟨⟨y, ?_⟩, ?_, hne⟩, fun b hb => ?_⟩
    · have e1 : ((i + 1 : Nat) : Int) = (i : Int) + 1 := by omega
      rw [e1]; exact he'
    · obtain ⟨o, q, r⟩ := hit'
      exact ⟨o, (sb.2 it (Ne.symm hne)).trans q, r⟩
    · have hb' : b < s.heap.objs.size := by
        have e' : b = e ∨ b = it := by simpa using hb
        rcases e' with z | z
        · rw [z]; exact hel
        · rw [z]; exact hil
      rw [upd_ne (Nat.ne_of_lt hb')]
      exact (hf b hb).1
  done := by
    intro X hP hw hK hc i pins s σ H E I hf st hg
    subst hP hw hK
    obtain ⟨⟨old, he⟩, hit, hne⟩ := st
    obtain ⟨xs, hq, hx⟩ := hg
    obtain ⟨its, rv, p, hz⟩ := I.tuple hq
    obtain ⟨f0, f1, f2, f3, f4, f5⟩ := hf it (by simp)
    have hl := rv.length
    have pT : s.heap.IsTuple a its.toArray := p
    obtain ⟨oa, hoa, hca, na, hda⟩ := id pT
    have hai : a ≠ it := fun z => by
      obtain ⟨o, ho, hc, _⟩ := hit
      rw [← z, hoa] at ho
      cases ho
      rw [hca] at hc
      exact absurd hc (by decide)
    exact wpAny_pyNext_enum_endT (I.ok.hd hc) he hit pT (by simp; omega) fun h' eb => ⟨rfl, I.turned (t' := s.toks) (fun b o hb q => eb b o hb q) f0 f1 f3 f4 f5⟩
  self := fun A i s Q E st h => let ⟨⟨_, he⟩, _⟩ := st; wpAny_pyIter_enum he h
def iEnumT (K : PySem.W.Frag) (ta : TA) : TI := fun σ H R => ta σ H fun vs H1 => ∃ a xs, vs = [.ref a] ∧ SqT K H1 a xs ∧ R (IteT K a) H1
theorem pi_enumT {X : Cx} {e : Expr} {ta : TA} {p pos tpos : Pos} {elts : List Expr} {kk : Nat} (hg : Gl X "enumerate") (hm : X.mg "enumerate" = none) (ha : PA X [e] ta) (hs : starEach [e] X.env = [(false, eval e X.env)] := by rfl) :
    PI X (.Tuple elts kk tpos) (.Call (.Name "enumerate" p) [e] [] pos) (iEnumT X.K ta) := by
  refine ⟨fun pins s σ H R I h => ?_⟩
  refine Call_ (ld_blt I hg hm boot_enumerate (PyProof.Rows.callWith_type1 (thn (ha.run pos pins s σ H _ I h) fun us s1 ⟨vs, H1, I1, r1, q1⟩ => ?_) hs rfl))
  obtain ⟨a, xs, ex, hq, q⟩ := q1
  subst ex
  cases r1 with
  | cons r rr =>
    cases rr
    cases r
    obtain ⟨its, rv, p', hz⟩ := I1.tuple hq
    have pT : s1.heap.IsTuple a its.toArray := p'
    refine call_enumT (begins_tuple a its.toArray) pT fun h' he hit hsz hk => wpAny_pyIter_enum he ?_
    have I2 : Inv X pins σ H1 { s1 with heap := h' } := I1.kept (t' := s1.toks) hk
    refine ⟨s1.heap.objs.size + 1, [s1.heap.objs.size + 1, s1.heap.objs.size], _, _, H1, rfl, I2, turn_enumT a (s1.heap.objs.size + 1) s1.heap.objs.size #[], ⟨⟨.none, he⟩, ⟨_, hit, rfl, rfl⟩, Nat.succ_ne_self _⟩, fun b hb => ?_, q⟩
    have e' : b = s1.heap.objs.size + 1 ∨ b = s1.heap.objs.size := by simpa using hb
    have hle : s1.heap.objs.size ≤ b := by
      rcases e' with z | z
      · rw [z]; exact Nat.le_add_right _ _
      · rw [z]; exact Nat.le_refl _
    exact I1.fpOk hle (I1.hok.fresh hle)
/-! ### .. in the judgements -/
variable {α β γ δ τ υ ω ρ ε : Type}
def enumL : Nat → List α → List (Int × α)
  | _, [] => []
  | k, x :: xs => ((k : Int), x) :: enumL (k + 1) xs
theorem enumL_get : ∀ {xs : List α} {k i : Nat}, (enumL k xs)[i]? = xs[i]?.map fun x => (((k + i : Nat) : Int), x)
  | [], k, i => by simp [enumL]
  | x :: xs, k, 0 => by simp [enumL]
  | x :: xs, k, i + 1 => by
    have := enumL_get (xs := xs) (k := k + 1) (i := i)
    simp only [enumL, List.getElem?_cons_succ, this]
    rw [show k + 1 + i = k + (i + 1) by omega]
theorem enumL_len {xs : List α} {k : Nat} : (enumL k xs).length = xs.length := by
  induction xs generalizing k with
  | nil => rfl
  | cons x xs ih => simp [enumL, ih]
theorem ok_enumT {K : PySem.W.Frag} {C : Wd → Prop} {p : Addr} {xs : List α} {E : α → SP} (h : ∀ W1, C W1 → Ex W1.B W1.H ∧ ∃ vs, W1.H p = some (.tup vs) ∧ Each E W1.B vs xs) : ItOk (IteT K p) C (enumL 0 xs) (prS intS E) := fun W1 c => by
  obtain ⟨ok, vs, h1, h2⟩ := h W1 c
  have hq : SqT K W1.H p vs := .inl (.inl h1)
  refine ⟨fun i x hx => ?_, fun i hi => ⟨vs, hq, by rw [h2.len]; rw [enumL_len] at hi; exact hi⟩⟩
  rw [enumL_get] at hx
  cases hxi : xs[i]? with
  | none => rw [hxi] at hx; cases hx
  | some y =>
    rw [hxi] at hx
    cases hx
    obtain ⟨v, hv, pv⟩ := h2.get hxi
    refine ⟨⟨vs, v, hq, hv⟩, fun u H' ⟨T, x', e1, e2, e3, e4⟩ => ?_⟩
    have q := e4 vs hq
    rw [hv] at q
    cases q
    subst e1 e3
    have e2' := Ext.newB ok (o := .tup [.int (i : Nat), v]) e2
    refine ⟨⟨upd W1.H T (.tup [.int (i : Nat), v]), upd W1.B T (.tup [.int (i : Nat), v])⟩, rfl, e2', T, [.int (i : Nat), v], rfl, upd_same, ?_⟩
    refine ⟨?_, SP.mono _ pv e2'.b, trivial⟩
    show V.int (i : Nat) = V.int (((0 + i : Nat) : Int))
    rw [Nat.zero_add]
theorem ok_enumL {K : PySem.W.Frag} {C : Wd → Prop} {p : Addr} {xs : List α} {E : α → SP} (h : ∀ W1, C W1 → Ex W1.B W1.H ∧ ∃ vs, W1.H p = some (.lst vs) ∧ Each E W1.B vs xs) : ItOk (Ite K p) C (enumL 0 xs) (prS intS E) := fun W1 c => by
  obtain ⟨ok, vs, h1, h2⟩ := h W1 c
  have hq : SqL K W1.H p vs := .inl (.inl h1)
  refine ⟨fun i x hx => ?_, fun i hi => ⟨vs, hq, by rw [h2.len]; rw [enumL_len] at hi; exact hi⟩⟩
  rw [enumL_get] at hx
  cases hxi : xs[i]? with
  | none => rw [hxi] at hx; cases hx
  | some y =>
    rw [hxi] at hx
    cases hx
    obtain ⟨v, hv, pv⟩ := h2.get hxi
    refine ⟨⟨vs, v, hq, hv⟩, fun u H' ⟨T, x', e1, e2, e3, e4⟩ => ?_⟩
    have q := e4 vs hq
    rw [hv] at q
    cases q
    subst e1 e3
    have e2' := Ext.newB ok (o := .tup [.int (i : Nat), v]) e2
    refine ⟨⟨upd W1.H T (.tup [.int (i : Nat), v]), upd W1.B T (.tup [.int (i : Nat), v])⟩, rfl, e2', T, [.int (i : Nat), v], rfl, upd_same, ?_⟩
    refine ⟨?_, SP.mono _ pv e2'.b, trivial⟩
    show V.int (i : Nat) = V.int (((0 + i : Nat) : Int))
    rw [Nat.zero_add]
section
variable {S : Stc} {Γ Δ : Ctx} {a b c e tg iter elt : Expr} {es ifs : List Expr} {pos : Pos}
theorem ji_enumT {p tpos : Pos} {elts : List Expr} {kk : Nat} {m : Option (List α)} {E : α → SP} (hm : S.mg "enumerate" = none) (h : JN S a Γ m fun xs => sh (tupS E xs)) (hg : GlS S "enumerate" := by rfl) (hs : ∀ env, starEach [a] env = [(false, eval a env)] := by intro _; rfl) :
    JI S (.Tuple elts kk tpos) (.Call (.Name "enumerate" p) [a] [] pos) Γ (m.bind fun xs => some (enumL 0 xs)) (prS intS E) := fun σ W F st xs hx R k => by
  obtain ⟨ys, h1, h2⟩ := run1 hx
  cases h2
  refine ⟨iEnumT S.K (tCons (tOf S a) tNil), fun X hX => hX.K ▸ pi_enumT (hg.gl hX) (mgS hm hX) (pa_cons (peO hX) pa_nil (hs _)) (hs _), h σ W F st ys h1 _ fun v W' Fv ext _ _ r => ?_⟩
  obtain ⟨_, a, vs, rfl, h2, h3⟩ := r
  exact ⟨a, vs, rfl, .inl (.inl (ext.ok a _ h2)), k _ W' ext (ok_enumT fun W1 c => ⟨c.1, vs, c.1 a _ (c.2 a _ h2), h3.mono c.2⟩)⟩
theorem ji_enumL {p tpos : Pos} {elts : List Expr} {kk : Nat} {m : Option (List α)} {E : α → SP} (hm : S.mg "enumerate" = none) (h : JN S a Γ m fun xs => sh (lstS E xs)) (hg : GlS S "enumerate" := by rfl) (hs : ∀ env, starEach [a] env = [(false, eval a env)] := by intro _; rfl) :
    JI S (.Tuple elts kk tpos) (.Call (.Name "enumerate" p) [a] [] pos) Γ (m.bind fun xs => some (enumL 0 xs)) (prS intS E) := fun σ W F st xs hx R k => by
  obtain ⟨ys, h1, h2⟩ := run1 hx
  cases h2
  refine ⟨iEnum S.K (tCons (tOf S a) tNil), fun X hX => hX.K ▸ pi_enum (hg.gl hX) (mgS hm hX) (pa_cons (peO hX) pa_nil (hs _)) (hs _), h σ W F st ys h1 _ fun v W' Fv ext _ _ r => ?_⟩
  obtain ⟨_, a, vs, rfl, h2, h3⟩ := r
  exact ⟨a, vs, rfl, .inl (.inl (ext.ok a _ h2)), k _ W' ext (ok_enumL fun W1 c => ⟨c.1, vs, c.1 a _ (c.2 a _ h2), h3.mono c.2⟩)⟩
end
end CC
set_option maxHeartbeats 4000000
/-! Bits, truth, slices, insert, order of tuples. -/
namespace CC
open PySem PySem.Spec L2
open PyProof.Rows hiding St
variable {α β γ δ τ υ ω ρ ε : Type}
/-! ### bits -/
def bAnd (x y : Int) : Int := Builtin.bitAnd x y
def bOr (x y : Int) : Int := Builtin.bitOr x y
def bXor (x y : Int) : Int := Builtin.bitXor x y
def bNot (x : Int) : Int := Builtin.bitNot x
def shlO (x j : Int) : Option Int := if 0 ≤ j ∧ j ≤ 1000000 ∧ x.natAbs < 2 ^ 64 then some (x * 2 ^ j.toNat) else none
def shrO (x j : Int) : Option Int := if 0 ≤ j then some (x / 2 ^ j.toNat) else none
def powO (x j : Int) : Option Int := if 0 ≤ j ∧ j ≤ 1000000 ∧ x.natAbs < 2 ^ 64 then some (x ^ j.toNat) else none
theorem ov_bAnd : OpV (rI0 fun i j => .int (Builtin.bitAnd i j)) intS intS (fun x y => some (bAnd x y)) fun z => sh (intS z) := ov_I0 fun _ _ _ => rfl
theorem ov_bOr : OpV (rI0 fun i j => .int (Builtin.bitOr i j)) intS intS (fun x y => some (bOr x y)) fun z => sh (intS z) := ov_I0 fun _ _ _ => rfl
theorem ov_bXor : OpV (rI0 fun i j => .int (Builtin.bitXor i j)) intS intS (fun x y => some (bXor x y)) fun z => sh (intS z) := ov_I0 fun _ _ _ => rfl
theorem ov_shl : OpV (rI CPow fun i j => .int (i * 2 ^ j.toNat)) intS intS shlO fun z => sh (intS z) := ov_I fun i j z h => by
  unfold shlO at h
  split at h
  · cases h
    rename_i c
    exact ⟨c, fun _ => rfl⟩
  · cases h
theorem ov_pow : OpV (rI CPow fun i j => .int (i ^ j.toNat)) intS intS powO fun z => sh (intS z) := ov_I fun i j z h => by
  unfold powO at h
  split at h
  · cases h
    rename_i c
    exact ⟨c, fun _ => rfl⟩
  · cases h
theorem ov_shr : OpV (rI (fun _ j => 0 ≤ j) fun i j => .int (i / 2 ^ j.toNat)) intS intS shrO fun z => sh (intS z) := ov_I fun i j z h => by
  unfold shrO at h
  split at h
  · cases h
    rename_i c
    exact ⟨c, fun _ => rfl⟩
  · cases h
section
variable {S : Stc}
theorem oBAnd : ∀ X, S.In X → OpR X (binaryOp .BitAnd) (rI0 fun i j => .int (Builtin.bitAnd i j)) := fun _ _ => op_and
theorem oBOr : ∀ X, S.In X → OpR X (binaryOp .BitOr) (rI0 fun i j => .int (Builtin.bitOr i j)) := fun _ _ => op_or
theorem oBXor : ∀ X, S.In X → OpR X (binaryOp .BitXor) (rI0 fun i j => .int (Builtin.bitXor i j)) := fun _ _ => op_xor
theorem oShl : ∀ X, S.In X → OpR X (binaryOp .LShift) (rI CPow fun i j => .int (i * 2 ^ j.toNat)) := fun _ _ => op_shl
theorem oPow : ∀ X, S.In X → OpR X (binaryOp .Pow) (rI CPow fun i j => .int (i ^ j.toNat)) := fun _ _ => op_pow
theorem oShr : ∀ X, S.In X → OpR X (binaryOp .RShift) (rI (fun _ j => 0 ≤ j) fun i j => .int (i / 2 ^ j.toNat)) := fun _ _ => op_shr
theorem oLtT : ∀ X, S.In X → OpR X (compareOp .Lt) (rLtT S.K) := fun X h => h.K ▸ op_ltT (by have := h.un; omega)
theorem oLeT : ∀ X, S.In X → OpR X (compareOp .LtE) (rLeT S.K) := fun X h => h.K ▸ op_leT (by have := h.un; omega)
end
section
variable {S : Stc} {Γ Δ : Ctx} {a b c e tg iter elt : Expr} {es ifs : List Expr} {pos : Pos} {st : Stmt} {rest A B : List Stmt}
theorem jn_inv {ma : Option Int} (ha : JN S a Γ ma fun x => sh (intS x)) : JN S (.UnaryOp .Invert a pos) Γ (ma.bind fun x => some (bNot x)) fun z => sh (intS z) :=
  jn_un (f := fun x : Int => some (bNot x)) (fun _ _ => un_inv) (fun W x v z ok h e Q k => by cases e; cases h; exact ⟨x, rfl, k.val ok rfl⟩) ha
/-- x.bit_length() -/
def bitLen (x : Int) : Int := (Builtin.Int.intBits x : Nat)
theorem jn_bits {apos : Pos} {ma : Option Int} (ha : JN S a Γ ma fun x => sh (intS x)) (hbase : ∀ env, attributeBase a "bit_length" env (eval a env) = eval a env := by intro _; rfl) (hline : (apos.endLine == pos.line) = true := by rfl) : JN S (.Call (.Attribute a "bit_length" apos) [] [] pos) Γ (ma.bind fun x => some (bitLen x)) fun z => sh (intS z) := fun σ W F sta z hz Q k => by
  obtain ⟨x, h1, h2⟩ := run1 hz
  cases h2
  exact ⟨tBits (tOf S a), fun X hX => pe_bits (peO hX) (hbase _) hline, ha σ W F sta x h1 _ fun v W' Fv e _ _ r => ⟨x, r.2, (k.ext e).val e.ok rfl⟩⟩
/-! ### truth of a value -/
def tTru (K : PySem.W.Frag) (t : TE) : TT := fun σ H Q => t σ H fun x H' => ∃ k, TruV K x H' k ∧ Q k H'
theorem jt_truI {m : Option Int} (h : JN S e Γ m fun z => sh (intS z)) (he : ∀ env whole, isTrue e env whole = (do let v ← whole; standAt e.pos; holding [v] (truthy v)) := by intro _ _; rfl) : JT S e Γ (m.bind fun x => some (x != 0)) := fun σ W F st z hz Q k => by
  obtain ⟨x, h1, h2⟩ := run1 hz
  cases h2
  exact ⟨tTru S.K (tOf S e), fun X hX => hX.K ▸ pt_truth (peO hX) (he _), h σ W F st x h1 _ fun v W' Fv e _ _ r => ⟨x != 0, by rw [r.2]; rfl, k W' e⟩⟩
theorem jt_truT {m : Option (List α)} {E : α → SP} (h : JN S e Γ m fun z => sh (tupS E z)) (he : ∀ env whole, isTrue e env whole = (do let v ← whole; standAt e.pos; holding [v] (truthy v)) := by intro _ _; rfl) : JT S e Γ (m.bind fun x => some (!x.isEmpty)) := fun σ W F st z hz Q k => by
  obtain ⟨x, h1, h2⟩ := run1 hz
  cases h2
  refine ⟨tTru S.K (tOf S e), fun X hX => hX.K ▸ pt_truth (peO hX) (he _), h σ W F st x h1 _ fun v W' Fv e _ _ r => ?_⟩
  obtain ⟨_, p, vs, rfl, q2, q3⟩ := r
  refine ⟨!x.isEmpty, .inr (.inl ⟨vs, .inl (.inl (e.ok p _ q2)), ?_⟩), k W' e⟩
  have := q3.len
  cases vs <;> cases x <;> simp at this ⊢
theorem jt_truL {m : Option (List α)} {E : α → SP} (h : JN S e Γ m fun z => sh (lstS E z)) (he : ∀ env whole, isTrue e env whole = (do let v ← whole; standAt e.pos; holding [v] (truthy v)) := by intro _ _; rfl) : JT S e Γ (m.bind fun x => some (!x.isEmpty)) := fun σ W F st z hz Q k => by
  obtain ⟨x, h1, h2⟩ := run1 hz
  cases h2
  refine ⟨tTru S.K (tOf S e), fun X hX => hX.K ▸ pt_truth (peO hX) (he _), h σ W F st x h1 _ fun v W' Fv e _ _ r => ?_⟩
  obtain ⟨_, p, vs, rfl, q2, q3⟩ := r
  refine ⟨!x.isEmpty, .inl ⟨vs, .inl (.inl (e.ok p _ q2)), ?_⟩, k W' e⟩
  have := q3.len
  cases vs <;> cases x <;> simp at this ⊢
theorem jt_truO {m : Option (List α)} {E : α → OP} (h : JR S e Γ m (lstO E)) (he : ∀ env whole, isTrue e env whole = (do let v ← whole; standAt e.pos; holding [v] (truthy v)) := by intro _ _; rfl) : JT S e Γ (m.bind fun x => some (!x.isEmpty)) := fun σ W F st z hz Q k => by
  obtain ⟨x, h1, h2⟩ := run1 hz
  cases h2
  refine ⟨tTru S.K (tOf S e), fun X hX => hX.K ▸ pt_truth (peO hX) (he _), h σ W F st x h1 _ fun v W' e ⟨F1, r, _⟩ => ?_⟩
  obtain ⟨p, vs, F2, rfl, q2, _, q3⟩ := r
  refine ⟨!x.isEmpty, .inl ⟨vs, .inl (.inl q2), ?_⟩, k W' e⟩
  have := q3.len
  cases vs <;> cases x <;> simp at this ⊢
/-! ### order of pairs of ints -/
def ltPI (x y : Int × Int) : Bool := if x.1 = y.1 then decide (x.2 < y.2) else decide (x.1 < y.1)
theorem prI_sq {K : PySem.W.Frag} {W : Wd} {x : Int × Int} {v : V} (ok : Ex W.B W.H) (h : (prS intS intS x).P W.B v) : ∃ a, v = .ref a ∧ SqT K W.H a ([x.1, x.2].map V.int) := by
  obtain ⟨a, vs, rfl, h2, h3⟩ := h
  obtain ⟨u, w, rfl, a1, a2⟩ := hts2 h3
  cases a1
  cases a2
  exact ⟨a, rfl, .inl (.inl (ok a _ h2))⟩
theorem ov_ltPI {K : PySem.W.Frag} : OpV (rLtT K) (prS intS intS) (prS intS intS) (fun x y => some (ltPI x y)) fun z => sh (boolS z) := fun W x y v u z ok hx hy e Q k => by
  cases e
  obtain ⟨a, rfl, ha⟩ := prI_sq (K := K) ok hx
  obtain ⟨b, rfl, hb⟩ := prI_sq (K := K) ok hy
  refine ⟨a, b, _, _, rfl, rfl, ha, hb, k.val ok ?_⟩
  show V.bl (HT.lexLt [x.1, x.2] [y.1, y.2]) = V.bl (ltPI x y)
  congr 1
  unfold ltPI
  simp only [HT.lexLt_cons, HT.lexLt_nil_nil]
  split
  · by_cases h : x.2 = y.2
    · rw [if_pos h]; simp [h]
    · rw [if_neg h]
  · rfl
/-! ### slices -/
def cutL (xs : List α) (lo hi : Option Int) : List α := (xs.drop (HT.sIx xs.length 0 lo)).take (HT.sIx xs.length xs.length hi - HT.sIx xs.length 0 lo)
theorem each_cut {E : α → SP} {B : Hp} {vs : List V} {xs : List α} (h : Each E B vs xs) (lo hi : Option Int) : Each E B (cutV vs lo hi) (cutL xs lo hi) := by
  unfold cutV cutL
  rw [h.len]
  exact (h.drop _).take _
def toOf (S : Stc) (o : Option Expr) : TO := fun σ H Q => ∃ t : TO, (∀ X, S.In X → PO X o t) ∧ t σ H Q
theorem poO {X : Cx} {o : Option Expr} (h : S.In X) : PO X o (toOf S o) := ⟨fun pins s σ H Q I ⟨_, p, q⟩ => (p X h).run pins s σ H Q I q⟩
def JO (S : Stc) (o : Option Expr) (Γ : Ctx) (m : Option (Option Int)) : Prop :=
  ∀ σ W F, Sta Γ σ W F → ∀ x, m = some x → ∀ Q : Option Int → Hp → Prop, (∀ W', Ext W W' → Q x W'.H) → toOf S o σ W.H Q
theorem jo_none : JO S none Γ (some none) := fun σ W F st x hx Q k => by
  cases hx
  exact ⟨tNoPart, fun _ _ => po_none, k W (Ext.refl st.ok)⟩
theorem jo_some {m : Option Int} (h : JN S e Γ m fun z => sh (intS z)) : JO S (some e) Γ (m.bind fun x => some (some x)) := fun σ W F st x hx Q k => by
  obtain ⟨y, h1, h2⟩ := run1 hx
  cases h2
  exact ⟨tPart (tOf S e), fun X hX => po_some (peO hX), h σ W F st y h1 _ fun v W' Fv e _ _ r => ⟨y, r.2, k W' e⟩⟩
theorem jn_slO {E : α → SP} {lo hi : Option Expr} {p2 : Pos} {m : Option (List α)} {ml mh : Option (Option Int)} (h : JR S a Γ m (lstO fun x => sh (E x))) (hl : JO S lo Γ ml) (hh : JO S hi Γ mh) : JN S (.Subscript a (.Slice lo hi none p2) pos) Γ (m.bind fun xs => ml.bind fun l => mh.bind fun u => some (cutL xs l u)) (lstO fun x => sh (E x)) := fun σ W F sta z hz Q kq => by
  obtain ⟨x, h1, h2⟩ := run1 hz
  obtain ⟨l, u, h3, h4, h5⟩ := run2 (f := fun l u => some (cutL x l u)) h2
  cases h5
  refine ⟨tSl (rSlL S.K) (tOf S a) (toOf S lo) (toOf S hi), fun X hX => hX.K ▸ pe_slice sl_list (peO hX) (poO hX) (poO hX), h σ W F sta x h1 _ fun v W1 e1 ⟨F1, r, al⟩ => ?_⟩
  obtain ⟨p, vs, F2, rfl, q2, rfl, q3⟩ := r
  obtain ⟨_, q4⟩ := q3.each
  refine hl σ W1 F (sta.ext e1) l h3 _ fun W2 e2 => ?_
  refine hh σ W2 F (sta.ext (e1.trans e2)) u h4 _ fun W3 e3 => ?_
  have e := (e1.trans e2).trans e3
  exact ⟨p, vs, rfl, .inl (.inl (e3.h p _ (e2.h p _ q2))), (kq.ext e).newL e.ok (each_cut (q4.mono (e2.b.trans e3.b)) l u)⟩
theorem jn_slL {E : α → SP} {lo hi : Option Expr} {p2 : Pos} {m : Option (List α)} {ml mh : Option (Option Int)} (h : JN S a Γ m fun x => sh (lstS E x)) (hl : JO S lo Γ ml) (hh : JO S hi Γ mh) : JN S (.Subscript a (.Slice lo hi none p2) pos) Γ (m.bind fun xs => ml.bind fun l => mh.bind fun u => some (cutL xs l u)) (lstO fun x => sh (E x)) := fun σ W F sta z hz Q kq => by
  obtain ⟨x, h1, h2⟩ := run1 hz
  obtain ⟨l, u, h3, h4, h5⟩ := run2 (f := fun l u => some (cutL x l u)) h2
  cases h5
  refine ⟨tSl (rSlL S.K) (tOf S a) (toOf S lo) (toOf S hi), fun X hX => hX.K ▸ pe_slice sl_list (peO hX) (poO hX) (poO hX), h σ W F sta x h1 _ fun v W1 Fv e1 _ _ r => ?_⟩
  obtain ⟨_, p, vs, rfl, q2, q4⟩ := r
  refine hl σ W1 F (sta.ext e1) l h3 _ fun W2 e2 => ?_
  refine hh σ W2 F (sta.ext (e1.trans e2)) u h4 _ fun W3 e3 => ?_
  have e := (e1.trans e2).trans e3
  exact ⟨p, vs, rfl, .inl (.inl (e.ok p _ (e3.b p _ (e2.b p _ q2)))), (kq.ext e).newL e.ok (each_cut (q4.mono (e2.b.trans e3.b)) l u)⟩
theorem cutL_all {xs : List α} {l u : Option Int} (h : HT.sIx xs.length 0 l = 0 ∧ HT.sIx xs.length xs.length u = xs.length) : cutL xs l u = xs := by
  unfold cutL
  rw [h.1, h.2]
  simp
theorem jn_slT {E : α → SP} {lo hi : Option Expr} {p2 : Pos} {m : Option (List α)} {ml mh : Option (Option Int)} (h : JN S a Γ m fun x => sh (tupS E x)) (hl : JO S lo Γ ml) (hh : JO S hi Γ mh) : JN S (.Subscript a (.Slice lo hi none p2) pos) Γ (m.bind fun xs => ml.bind fun l => mh.bind fun u => some (cutL xs l u)) (fun x => sh (tupS E x)) := fun σ W F sta z hz Q kq => by
  obtain ⟨x, h1, h2⟩ := run1 hz
  obtain ⟨l, u, h3, h4, h5⟩ := run2 (f := fun l u => some (cutL x l u)) h2
  cases h5
  refine ⟨tSl (rSlA S.K) (tOf S a) (toOf S lo) (toOf S hi), fun X hX => hX.K ▸ pe_slice sl_tupA (peO hX) (poO hX) (poO hX), h σ W F sta x h1 _ fun v W1 Fv e1 _ _ r => ?_⟩
  obtain ⟨_, p, vs, rfl, q2, q4⟩ := r
  refine hl σ W1 F (sta.ext e1) l h3 _ fun W2 e2 => ?_
  refine hh σ W2 F (sta.ext (e1.trans e2)) u h4 _ fun W3 e3 => ?_
  have e := (e1.trans e2).trans e3
  have q2' := e3.b p _ (e2.b p _ q2)
  have q4' := q4.mono (e2.b.trans e3.b)
  refine ⟨p, vs, rfl, .inl (.inl (e.ok p _ q2')), fun hw => ?_, fun _ => (kq.ext e).newT e.ok (each_cut q4' l u)⟩
  rw [q4.len] at hw
  refine (kq.ext e).val e.ok ?_
  rw [cutL_all hw]
  exact ⟨p, vs, rfl, q2', q4'⟩
/-! ### max, min of two ints -/
theorem jn_max2 {p : Pos} {m : Option α} {G : α → List SP} (g1 g2 : α → Int) (hm : S.mg "max" = none) (h : JA S (e :: es) Γ m G) (hG : ∀ x, G x = [intS (g1 x), intS (g2 x)] := by intro _; rfl) (hg : GlS S "max" := by rfl) (he : ∀ env, starEach (e :: es) env = (false, eval e env) :: starEach es env := by intro _; rfl) (hpl : ∀ env, (backTo pos (starEach es env)).any (·.1) = false := by intro _; rfl) (hcm : S.calm = true := by rfl) : JN S (.Call (.Name "max" p) (e :: es) [] pos) Γ (m.bind fun x => some (if g2 x > g1 x then g2 x else g1 x)) fun z => sh (intS z) := fun σ W F sta z hz Q kq => by
  obtain ⟨x, h1, h2⟩ := run1 hz
  cases h2
  refine ⟨tCB (fun xs H Q => ∃ i j, xs = [.int i, .int j] ∧ Q (.int (if j > i then j else i)) H) (taOf S (e :: es)), fun X hX => pe_callB (call_max2 (hX.calm.trans hcm)) (hg.gl hX) (mgS hm hX) (by decide +kernel) (paO hX) (by decide) (by decide) (he _) (hpl _), h σ W F sta x h1 _ fun vs W' ext hh => ?_⟩
  rw [hG] at hh
  obtain ⟨u, v, rfl, a1, a2⟩ := hets2 hh
  cases a1
  cases a2
  exact ⟨_, _, rfl, (kq.ext ext).val ext.ok rfl⟩
theorem jn_min2 {p : Pos} {m : Option α} {G : α → List SP} (g1 g2 : α → Int) (hm : S.mg "min" = none) (h : JA S (e :: es) Γ m G) (hG : ∀ x, G x = [intS (g1 x), intS (g2 x)] := by intro _; rfl) (hg : GlS S "min" := by rfl) (he : ∀ env, starEach (e :: es) env = (false, eval e env) :: starEach es env := by intro _; rfl) (hpl : ∀ env, (backTo pos (starEach es env)).any (·.1) = false := by intro _; rfl) (hcm : S.calm = true := by rfl) : JN S (.Call (.Name "min" p) (e :: es) [] pos) Γ (m.bind fun x => some (if g2 x < g1 x then g2 x else g1 x)) fun z => sh (intS z) := fun σ W F sta z hz Q kq => by
  obtain ⟨x, h1, h2⟩ := run1 hz
  cases h2
  refine ⟨tCB (fun xs H Q => ∃ i j, xs = [.int i, .int j] ∧ Q (.int (if j < i then j else i)) H) (taOf S (e :: es)), fun X hX => pe_callB (call_min2 (hX.calm.trans hcm)) (hg.gl hX) (mgS hm hX) (by decide +kernel) (paO hX) (by decide) (by decide) (he _) (hpl _), h σ W F sta x h1 _ fun vs W' ext hh => ?_⟩
  rw [hG] at hh
  obtain ⟨u, v, rfl, a1, a2⟩ := hets2 hh
  cases a1
  cases a2
  exact ⟨_, _, rfl, (kq.ext ext).val ext.ok rfl⟩
/-! ### x, y = [a, b] -/
theorem jg_pairL {E : α → SP} {G : β → SP} {x y : Str} {pos p1 p2 : Pos} {k : Nat} (i j : Nat) (nd : S.N.Nodup) (hN : S.N[i]? = some x := by rfl) (hM : S.N[j]? = some y := by rfl) (hx : Loc S.sc x := by first | exact Or.inl rfl | exact Or.inr rfl) (hy : Loc S.sc y := by first | exact Or.inl rfl | exact Or.inr rfl)
    (hp : (S.prot.contains i) = false := by rfl) (hq : (S.prot.contains j) = false := by rfl) (hf : S.fn x = true ∨ S.sc.names.lookup x = some .local := by first | exact .inl rfl | exact .inr rfl) (hf2 : S.fn y = true ∨ S.sc.names.lookup y = some .local := by first | exact .inl rfl | exact .inr rfl)
    (hs : ∀ env, (assignEach [Expr.Name x p1, .Name y p2] env).map (·.2) = assign (.Name x p1) env :: (assignEach [Expr.Name y p2] env).map (·.2) := by intro _; rfl) (hs2 : ∀ env, (assignEach [Expr.Name y p2] env).map (·.2) = assign (.Name y p2) env :: (assignEach [] env).map (·.2) := by intro _; rfl)
    (hn : ∀ env, (assignEach [Expr.Name x p1, .Name y p2] env).length = 2 := by intro _; rfl) (hst : ∀ env, (assignEach [Expr.Name x p1, .Name y p2] env).findIdx? (·.1) = none := by intro _; rfl) (hcm : S.calm = true := by rfl) :
    JG S (.Tuple [.Name x p1, .Name y p2] k pos) (l2S E G) (fun a Γ => (Γ.set i (some (sh (E a.1)))).set j (some (sh (G a.2)))) [i, j] := fun Γ σ W F q v st hl h Q kk => by
  refine ⟨gLst S.K 2 (gCons (gName i) (gCons (gName j) gNil)), fun X hX => hX.K ▸ pg_lst (hX.calm.trans hcm) (pgs_cons (pg_name (by rw [hX.N]; exact nd) (by rw [hX.N]; exact hN) (locS hx hX) (by rw [hX.fn, hX.sc]; exact hf)) (pgs_cons (pg_name (by rw [hX.N]; exact nd) (by rw [hX.N]; exact hM) (locS hy hX) (by rw [hX.fn, hX.sc]; exact hf2)) pgs_nil (hs2 _)) (hs _)) (hn _) (hst _), ?_⟩
  obtain ⟨a, vs, rfl, h2, h3⟩ := h
  match vs, h3 with
  | [u, w], ⟨p1, p2, _⟩ =>
    refine ⟨a, [u, w], rfl, .inl (.inl (st.ok a _ h2)), rfl, u, [w], rfl, w, [], rfl, rfl, ?_⟩
    obtain ⟨F1, s1, sub1⟩ := set_keeps st (hl i (by simp)) p1
    obtain ⟨F2, s2, sub2⟩ := set_keeps s1 (by rw [List.length_set]; exact hl j (by simp)) p2
    refine kk _ F2 (fun vs hv => ?_) ((Keep.set (ncon hp)).trans (Keep.set (ncon hq))) s2 fun b hb => sub1 b (sub2 b hb)
    rw [wipe_set (hv j (by simp)), wipe_set (hv i (by simp))]
end
/-! ### line.insert(i, y) -/
def insM (xs : List α) (i : Int) (x : α) : Option (List α) := if xs.length < LIM ∧ 0 ≤ i ∧ i < 1000000000 then some (xs.take i.toNat ++ [x] ++ xs.drop i.toNat) else none
section
variable {S : Stc} {Γ : τ → Ctx} {s : τ} {a b c e : Expr} {pos : Pos}
theorem js_insE {x : Str} {p0 apos cpos spos : Pos} {E : α → SP} {m : Option ((Int × α × Unit) × τ)} (i : Nat) (get : τ → List α) (h : JEA S [a, b] Γ s m fun z => [intS z.1, E z.2.1]) (hi : ∀ s, (Γ s)[i]? = some (some (lstO (fun x => sh (E x)) (get s))) := by intro _; rfl) (hN : S.N[i]? = some x := by rfl) (hv : Vis S.sc x := by first | exact Or.inl rfl | exact Or.inr (Or.inl rfl) | exact Or.inr (Or.inr rfl))
    (hd : (x == ("__debug__" : Str)) = false := by decide) (hcd : (x == ("__classdict__" : Str)) = false := by decide)
    (hbase : ∀ env, attributeBase (.Name x p0) "insert" env (eval (.Name x p0) env) = eval (.Name x p0) env := by intro _; rfl)
    (hfew : ∀ env, ((backTo cpos (starEach [a, b] env)).all (fun x => !x.1) && (backToKw cpos (keywordEach [] env)).all (fun x => x.1.isSome) && decide ([a, b].length + ([] : List Keyword).length + (if ([] : List Keyword).isEmpty then 0 else 1) < 30)) = true := by intro _; rfl)
    (hline : (apos.endLine == cpos.line) = true := by rfl) (hs : ∀ env, starEach [a, b] env = (false, eval a env) :: starEach [b] env := by intro _; rfl) (hpl : ∀ env, (backTo cpos (starEach [b] env)).any (·.1) = false := by intro _; rfl) (hsw : ∀ env, swapsWith (.Call (.Attribute (.Name x p0) "insert" apos) [a, b] [] cpos) none spos.line env = pure false := by intro _; rfl) :
    JS S (.Expr (.Call (.Attribute (.Name x p0) "insert" apos) [a, b] [] cpos) spos) (Γ s) (m.bind fun q => (insM (get q.2) q.1.1 q.1.2.1).bind fun ys => some (ys, q.2)) fun q => .nx ((Γ q.2).set i (some (lstO (fun x => sh (E x)) q.1))) := fun σ W F sta z hz Ed k => by
  obtain ⟨q, h1, h2⟩ := run1 hz
  obtain ⟨ys, h3, h4⟩ := run1 (f := fun ys : List α => some (ys, q.2)) h2
  cases h4
  unfold insM at h3
  split at h3
  · rename_i hc
    cases h3
    refine ⟨tDrop (tBM S.K "list" (fun x vs H Q => ∃ (l : Addr) (xs : List V) (i : Int) (y : V), x = .ref l ∧ vs = [.int i, y] ∧ H l = some (.lst xs) ∧ xs.length < sizeLine ∧ 0 ≤ i ∧ i < 2 ^ 63 ∧ Q .non (upd H l (.lst (xs.take i.toNat ++ [y] ++ xs.drop i.toNat)))) (tVar i) (taOf S [a, b])), fun X hX => ps_expr (hX.K ▸ pe_bm PySem.F.plainAttrs_list PySem.F.slot_list_insert PySem.F.type_list_insert mt_insert (pe_var (by rw [hX.N]; exact hN) (visS hv hX) hd hcd) (paO hX) (hbase _) (hfew _) hline (hs _) (hpl _)) (hsw _), ?_⟩
    obtain ⟨v, F1, F2, a1, a2, a3, a4⟩ := sta.hold.at (hi s)
    obtain ⟨p, vs, G2, rfl, b2, rfl, b4⟩ := id a2
    refine ⟨.ref p, a1, .inl ⟨rfl, vs, .inl (.inl b2)⟩, h σ W F sta q h1 _ fun us W1 Fa stp1 sa1 hh => ?_⟩
    obtain ⟨u1, u2, rfl, r1, r2⟩ := hets2 hh
    cases r1
    obtain ⟨v', F1', F2', c1, c2, c3, c4⟩ := sa1.hold.at (hi q.2)
    have ev : v' = .ref p := by rw [a1] at c1; exact (Option.some.inj (Option.some.inj c1)).symm
    subst ev
    obtain ⟨p', vs', G2', e1, d2, rfl, d4⟩ := c2
    cases e1
    have hB : W1.B p = none := (sa1.fp.perm c3).fr p (by simp)
    obtain ⟨rfl, d5⟩ := d4.each
    refine ⟨p, vs', q.1.1, u2, rfl, rfl, d2, lim_lt (by rw [d4.len]; exact hc.1), hc.2.1, by have := hc.2.2; omega, ?_⟩
    have fpA : FpOk W1 [p] := (sa1.fp.perm c3).left
    have A4 : Owns (fun x => sh (E x)) ⟨upd W1.H p (.lst (vs'.take q.1.1.toNat ++ [u2] ++ vs'.drop q.1.1.toNat)), W1.B⟩ (vs'.take q.1.1.toNat ++ [u2] ++ vs'.drop q.1.1.toNat) ((get q.2).take q.1.1.toNat ++ [q.1.2.1] ++ (get q.2).drop q.1.1.toNat) [] :=
      Owns.of_each (W := ⟨upd W1.H p (.lst (vs'.take q.1.1.toNat ++ [u2] ++ vs'.drop q.1.1.toNat)), W1.B⟩) (((d5.take _).app (show Each (fun x => E x) W1.B [u2] [q.1.2.1] from ⟨r2, trivial⟩)).app (d5.drop _))
    obtain ⟨F', s', stp⟩ := sta_own (W' := ⟨upd W1.H p (.lst (vs'.take q.1.1.toNat ++ [u2] ++ vs'.drop q.1.1.toNat)), W1.B⟩) (F1' := [p]) (o' := lstO (fun x => sh (E x)) ((get q.2).take q.1.1.toNat ++ [q.1.2.1] ++ (get q.2).drop q.1.1.toNat)) [] sa1 (by rw [List.append_nil]; exact sa1.fp) c1 c3 c4 (wr_ok sa1.ok hB) rfl (fun a ha _ => upd_ne fun z => ha (z ▸ List.mem_cons_self)) wr_al
      ⟨fpA.nd, fun a ha => wr_al a (fpA.al a ha), fpA.fr⟩ (fun a ha => .inl ha) ⟨p, _, [], rfl, upd_same, rfl, A4⟩
    rw [List.append_nil] at stp
    exact k σ _ F' Keep.refl (stp1.trans stp) s'
  · cases h3
end
end CC
set_option maxHeartbeats 4000000
/-! while without leaving; walks over what a state def hands back; short lists as values. -/
namespace CC
open PySem PySem.Spec L2
open PyProof.Rows hiding St
variable {α β γ δ τ υ ω ρ ε : Type}
def whileF (c : τ → Option Bool) (f : τ → Option τ) : Nat → τ → Option τ
  | 0, _ => none
  | n + 1, s => (c s).bind fun b => bif b then (f s).bind fun s' => whileF c f n s' else some s
theorem whileGo_F {c : τ → Option Bool} {f : τ → Option τ} : ∀ (n : Nat) (s : τ), whileGo (ρ := Empty) c (fun s => (f s).bind fun s' => some (.nx s')) n s = (whileF c f n s).bind fun s' => some (.nx s')
  | 0, s => rfl
  | n + 1, s => by
    show (c s).bind (fun b => bif b then ((f s).bind fun s' => some (Out.nx s')).bind (fun o : Out τ Empty => o.step fun s' => whileGo c (fun s => (f s).bind fun s' => some (.nx s')) n s') else some (.nx s)) = ((c s).bind fun b => bif b then (f s).bind fun s' => whileF c f n s' else some s).bind _
    cases c s with
    | none => rfl
    | some b =>
      cases b with
      | false => rfl
      | true =>
        show ((f s).bind fun s' => some (Out.nx s')).bind _ = ((f s).bind fun s' => whileF c f n s').bind _
        cases f s with
        | none => rfl
        | some s' => exact whileGo_F n s'
section
variable {S : Stc} {Γ Δ : Ctx} {a b c e tg iter elt : Expr} {es ifs : List Expr} {pos : Pos} {st : Stmt} {rest A B : List Stmt}
theorem js_whileS {Γl : τ → Ctx} {mc : τ → Option Bool} {f : τ → Option τ} (n : Nat) (s0 : τ) (w : Weak Γ (Γl s0)) (hc : ∀ s, JT S c (Γl s) (mc s)) (hb : ∀ s, JB S A (Γl s) (f s) fun s' => .nx (Γl s')) :
    JS S (.While c A [] pos) Γ (whileF mc f n s0) fun s => .nx (Γl s) := fun σ W F sta z hz Ed k => by
  have h := js_while (ρ := Empty) (T := fun r => nomatch r) (f := fun s => (f s).bind fun s' => some (.nx s')) (pos := pos) (Γ := Γ) (Γl := Γl) n s0 w (fun r => nomatch r) hc fun s => JB.map (hb s) fun s' => rfl
  refine h σ W F sta (.nx z) ?_ Ed k
  rw [whileGo_F, hz]
  rfl
theorem ao_l2 {E : α → SP} {G : β → SP} {f : α → PV} {g : β → PV} (h : AnyOf E f) (k : AnyOf G g) : AnyOf (l2S E G) (fun p => PV.lst [f p.1, g p.2]) := ⟨fun B x v hx => by
  show anyP B (.lst _) v
  unfold anyP
  obtain ⟨a, vs, h1, h2, h3⟩ := hx
  obtain ⟨u, w, rfl, a1, a2⟩ := hts2 h3
  exact ⟨a, _, h1, h2, each_anys ⟨h.go B _ _ a1, k.go B _ _ a2, trivial⟩⟩⟩
theorem ao_l3 {E : α → SP} {G : β → SP} {I : γ → SP} {f : α → PV} {g : β → PV} {i : γ → PV} (h : AnyOf E f) (k : AnyOf G g) (l : AnyOf I i) : AnyOf (l3S E G I) (fun p => PV.lst [f p.1, g p.2.1, i p.2.2]) := ⟨fun B x v hx => by
  show anyP B (.lst _) v
  unfold anyP
  obtain ⟨a, vs, h1, h2, h3⟩ := hx
  obtain ⟨u, w, y, rfl, a1, a2, a3⟩ := hts3 h3
  exact ⟨a, _, h1, h2, each_anys ⟨h.go B _ _ a1, k.go B _ _ a2, l.go B _ _ a3, trivial⟩⟩⟩
end
section
variable {S : Stc} {Γ : τ → Ctx} {s : τ} {a b c e tg iter : Expr} {es ifs : List Expr} {pos : Pos}
theorem je_intB {m : Option (Bool × τ)} {p : Pos} (hm : S.mg "int" = none) (h : JE S a Γ s m fun x => sh (boolS x)) (hg : GlS S "int" := by rfl) (hs : ∀ env, starEach [a] env = [(false, eval a env)] := by intro _; rfl) : JE S (.Call (.Name "int" p) [a] [] pos) Γ s (m.bind fun q => some (b2i q.1, q.2)) fun z => sh (intS z) :=
  je_t1 (f := fun x : Bool => some (b2i x)) (fun X hX => call_int1) (fun W x v z ok hh e Q k => by
    cases e
    cases hh
    exact .inr ⟨_, rfl, k.val ok rfl⟩) hm h hg (by decide +kernel) (by decide) (by decide) hs
theorem jie_lst {m : Option (List α × τ)} {E : α → SP} (h : JE S iter Γ s m fun xs => sh (lstS E xs)) : JIE S tg iter Γ s m E := fun σ W F sta z hz R k => by
  refine ⟨iList S.K (tOf S iter), fun X hX => hX.K ▸ pi_list (peO hX), h.sh sta hz fun v W' F' stp sa r => ?_⟩
  obtain ⟨a, vs, rfl, h2, h3⟩ := r
  exact ⟨a, rfl, ⟨vs, .inl (.inl (sa.ok a _ h2))⟩, k _ W' F' stp sa (ok_list fun W1 c => ⟨c.1, vs, c.1 a _ (c.2 a _ h2), h3.mono c.2⟩)⟩
theorem jie_tup {m : Option (List α × τ)} {E : α → SP} (h : JE S iter Γ s m fun xs => sh (tupS E xs)) : JIE S tg iter Γ s m E := fun σ W F sta z hz R k => by
  refine ⟨iTup S.K (tOf S iter), fun X hX => hX.K ▸ pi_tup (peO hX), h.sh sta hz fun v W' F' stp sa r => ?_⟩
  obtain ⟨a, vs, rfl, h2, h3⟩ := r
  exact ⟨a, rfl, ⟨vs, .inl (.inl (sa.ok a _ h2))⟩, k _ W' F' stp sa (ok_tup fun W1 c => ⟨c.1, vs, c.1 a _ (c.2 a _ h2), h3.mono c.2⟩)⟩
/-- xs[b] = e with state -/
theorem js_setIE {x : Str} {p0 tpos : Pos} {E : α → SP} {mv : Option (α × τ)} {mi : τ → Option (Int × τ)} (i : Nat) (get : τ → List α) (h : JE S e Γ s mv fun x => CC.sh (E x)) (hb : ∀ s1, JE S b Γ s1 (mi s1) fun z => CC.sh (intS z)) (hi : ∀ s, (Γ s)[i]? = some (some (lstO (fun x => CC.sh (E x)) (get s))) := by intro _; rfl) (hN : S.N[i]? = some x := by rfl) (hv : Vis S.sc x := by first | exact Or.inl rfl | exact Or.inr (Or.inl rfl) | exact Or.inr (Or.inr rfl))
    (hd : (x == ("__debug__" : Str)) = false := by decide) (hcd : (x == ("__classdict__" : Str)) = false := by decide)
    (ha : ∀ env v, assign (.Subscript (.Name x p0) b tpos) env v = (do
      let ov ← holding [v] (eval (.Name x p0) env)
      let iv ← holding [v, ov] (eval b env)
      standAt tpos
      holding [v, ov, iv] (setItem ov iv v)
      release [v, ov, iv] []) := by intro _ _; rfl) (hs : ∀ env, swapsWithSole [.Subscript (.Name x p0) b tpos] e pos.line env = pure false := by intro _; rfl) (hw : ∀ env, swappedStores [.Subscript (.Name x p0) b tpos] e env = pure none := by intro _; rfl)
    (h1 : ∀ env, (assignEach [.Subscript (.Name x p0) b tpos] env).map (·.2) = [assign (.Subscript (.Name x p0) b tpos) env] := by intro _; rfl) :
    JS S (.Assign [.Subscript (.Name x p0) b tpos] e pos) (Γ s) (mv.bind fun q => (mi q.2).bind fun r => (setAt (get r.2) r.1 q.1).bind fun ys => some (ys, r.2)) fun q => .nx ((Γ q.2).set i (some (lstO (fun x => CC.sh (E x)) q.1))) := fun σ W F sta z hz Ed kk => by
  obtain ⟨q, m1, m2⟩ := run1 hz
  obtain ⟨r, m3, m4⟩ := run1 (f := fun r : Int × τ => (setAt (get r.2) r.1 q.1).bind fun ys => some (ys, r.2)) m2
  obtain ⟨ys, m5, m6⟩ := run1 (f := fun ys : List α => some (ys, r.2)) m4
  cases m6
  obtain ⟨j, j1, j2⟩ := run1 (f := fun j => some ((get r.2).set j q.1)) m5
  cases j2
  refine ⟨tAsg (tOf S e) (gSub (tVar i) (tOf S b) rSetL), fun X hX => ps_asg (peO hX) (pg_sub (pe_var (by rw [hX.N]; exact hN) (visS hv hX) hd hcd) (peO hX) set_list (ha _)) (hs _) (hw _) (h1 _), ?_⟩
  refine h.sh sta m1 fun u W1 Fa stp1 sa1 ru => ?_
  obtain ⟨v, F1, F2, a1, a2, a3, a4⟩ := sa1.hold.at (hi q.2)
  obtain ⟨p, vs, G2, rfl, b2, rfl, b4⟩ := a2
  refine ⟨.ref p, a1, ?_⟩
  refine (hb q.2).sh sa1 m3 fun t W2 Fb stp2 sa2 r2 => ?_
  cases r2
  obtain ⟨v', F1', F2', c1, c2, c3, c4⟩ := sa2.hold.at (hi r.2)
  have ev : v' = .ref p := by rw [a1] at c1; exact (Option.some.inj (Option.some.inj c1)).symm
  subst ev
  obtain ⟨p', vs', G2', e1, d2, rfl, d4⟩ := c2
  cases e1
  have hB : W2.B p = none := (sa2.fp.perm c3).fr p (by simp)
  obtain ⟨rfl, d5⟩ := d4.each
  refine ⟨p, vs', r.1, j, rfl, rfl, d2, by rw [d4.len]; exact j1, ?_⟩
  have fpA : FpOk W2 [p] := (sa2.fp.perm c3).left
  have A4 : Owns (fun x => CC.sh (E x)) ⟨upd W2.H p (.lst (vs'.set j u)), W2.B⟩ (vs'.set j u) ((get r.2).set j q.1) [] :=
    Owns.of_each (W := ⟨upd W2.H p (.lst (vs'.set j u)), W2.B⟩) (d5.set (SP.mono _ ru stp2.b) j)
  obtain ⟨F', s', stp⟩ := sta_own (W' := ⟨upd W2.H p (.lst (vs'.set j u)), W2.B⟩) (F1' := [p]) (o' := lstO (fun x => CC.sh (E x)) ((get r.2).set j q.1)) [] sa2 (by rw [List.append_nil]; exact sa2.fp) c1 c3 c4 (wr_ok sa2.ok hB) rfl (fun a ha _ => upd_ne fun z => ha (z ▸ List.mem_cons_self)) wr_al
    ⟨fpA.nd, fun a ha => wr_al a (fpA.al a ha), fpA.fr⟩ (fun a ha => .inl ha) ⟨p, _, [], rfl, upd_same, rfl, A4⟩
  rw [List.append_nil] at stp
  exact kk σ _ F' Keep.refl ((stp1.trans stp2).trans stp) s'
theorem je_notV {m : Option (Bool × τ)} (h : JE S e Γ s m fun z => sh (boolS z)) : JE S (.UnaryOp .Not e pos) Γ s (m.bind fun x => some (!x.1, x.2)) fun z => sh (boolS z) := JE.of_sh fun σ W F sta z hz Q k => by
  obtain ⟨x, h1, h2⟩ := run1 hz
  cases h2
  exact ⟨tNotV (tOf S e), fun X hX => pe_not (peO hX), h.sh sta h1 fun v W' F' stp sa r => ⟨x.1, r, k _ W' F' stp sa rfl⟩⟩
end
end CC
set_option maxHeartbeats 4000000
/-! list.remove of ints. -/
namespace CC
open PySem PySem.Spec L2
open PyProof.Rows hiding St
variable {α β γ δ τ υ ω ρ ε : Type}
def remM (xs : List Int) (k : Int) : Option (List Int) := (xs.findIdx? (fun z => z == k)).bind fun j => some (xs.eraseIdx j)
theorem each_intsV {B : Hp} : ∀ {vs : List V} {xs : List Int}, Each intS B vs xs → vs = xs.map V.int
  | [], [], _ => rfl
  | v :: vs, x :: xs, h => by
    have h1 : v = .int x := h.1
    rw [h1, List.map_cons, ← each_intsV h.2]
  | [], _ :: _, h => h.elim
  | _ :: _, [], h => h.elim
section
variable {S : Stc} {Γ Δ : Ctx} {a b c e tg iter elt : Expr} {es ifs : List Expr} {pos : Pos} {st : Stmt} {rest A B : List Stmt}
theorem js_remI {x : Str} {p0 apos cpos spos : Pos} {xs : List Int} {m : Option Int} (i : Nat) (h : JN S e Γ m fun z => sh (intS z)) (hi : Γ[i]? = some (some (lstO (fun x => sh (intS x)) xs)) := by rfl) (hN : S.N[i]? = some x := by rfl) (hv : Vis S.sc x := by first | exact Or.inl rfl | exact Or.inr (Or.inl rfl) | exact Or.inr (Or.inr rfl))
    (hd : (x == ("__debug__" : Str)) = false := by decide) (hcd : (x == ("__classdict__" : Str)) = false := by decide)
    (hbase : ∀ env, attributeBase (.Name x p0) "remove" env (eval (.Name x p0) env) = eval (.Name x p0) env := by intro _; rfl)
    (hfew : ∀ env, ((backTo cpos (starEach [e] env)).all (fun x => !x.1) && (backToKw cpos (keywordEach [] env)).all (fun x => x.1.isSome) && decide ([e].length + ([] : List Keyword).length + (if ([] : List Keyword).isEmpty then 0 else 1) < 30)) = true := by intro _; rfl)
    (hline : (apos.endLine == cpos.line) = true := by rfl) (hs : ∀ env, starEach [e] env = (false, eval e env) :: starEach [] env := by intro _; rfl) (hsw : ∀ env, swapsWith (.Call (.Attribute (.Name x p0) "remove" apos) [e] [] cpos) none spos.line env = pure false := by intro _; rfl) :
    JS S (.Expr (.Call (.Attribute (.Name x p0) "remove" apos) [e] [] cpos) spos) Γ (m.bind fun y => remM xs y) fun ys => .nx (Γ.set i (some (lstO (fun x => sh (intS x)) ys))) := fun σ W F sta z hz Ed k => by
  obtain ⟨y, h1, h2⟩ := run1 hz
  unfold remM at h2
  obtain ⟨j, j1, j2⟩ := run1 (f := fun j => some (xs.eraseIdx j)) h2
  cases j2
  obtain ⟨jl, j3, j4⟩ := List.findIdx?_eq_some_iff_getElem.mp j1
  refine ⟨tDrop (tBM S.K "list" rRemI (tVar i) (tCons (tOf S e) tNil)), fun X hX => ps_expr (hX.K ▸ pe_bm PySem.F.plainAttrs_list PySem.F.slot_list_remove PySem.F.type_list_remove mt_remove (pe_var (by rw [hX.N]; exact hN) (visS hv hX) hd hcd) (pa_cons (peO hX) pa_nil (hs _)) (hbase _) (hfew _) hline (hs _) rfl) (hsw _), ?_⟩
  obtain ⟨v, F1, F2, a1, a2, a3, a4⟩ := sta.hold.at hi
  obtain ⟨p, vs, G2, rfl, b2, rfl, b4⟩ := id a2
  refine ⟨.ref p, a1, .inl ⟨rfl, vs, .inl (.inl b2)⟩, h σ W F sta y h1 _ fun u W1 Fv ext fr fp r => ?_⟩
  obtain ⟨rfl, ru⟩ := r
  cases ru
  have sta1 := sta.ext ext
  obtain ⟨v', F1', F2', c1, c2, c3, c4⟩ := sta1.hold.at hi
  have ev : v' = .ref p := by rw [a1] at c1; exact (Option.some.inj (Option.some.inj c1)).symm
  subst ev
  obtain ⟨p', vs', G2', e1, d2, rfl, d4⟩ := c2
  cases e1
  have hB : W1.B p = none := (sta1.fp.perm c3).fr p (by simp)
  obtain ⟨rfl, d5⟩ := d4.each
  have ev := each_intsV d5
  subst ev
  refine ⟨p, xs, y, j, rfl, rfl, d2, ?_, fun m hm => ?_, ?_⟩
  · rw [List.getElem?_eq_getElem jl]
    have : (xs[j] == y) = true := j3
    rw [beq_iff_eq] at this
    rw [this]
  · have := j4 m hm
    rw [List.getElem?_eq_getElem (by omega)]
    intro z
    have := Option.some.inj z
    simp_all
  · have fpA : FpOk W1 [p] := (sta1.fp.perm c3).left
    have A4 : Owns (fun x => sh (intS x)) ⟨upd W1.H p (.lst ((xs.eraseIdx j).map V.int)), W1.B⟩ ((xs.eraseIdx j).map V.int) (xs.eraseIdx j) [] := by
      refine Owns.of_each (W := ⟨upd W1.H p (.lst ((xs.eraseIdx j).map V.int)), W1.B⟩) ?_
      have := d5.eraseIdx j
      rwa [L2.erase_mapI] at this
    obtain ⟨F', s', stp⟩ := sta_own (W' := ⟨upd W1.H p (.lst ((xs.eraseIdx j).map V.int)), W1.B⟩) (F1' := [p]) (o' := lstO (fun x => sh (intS x)) (xs.eraseIdx j)) [] sta1 (by rw [List.append_nil]; exact sta1.fp) c1 c3 c4 (wr_ok ext.ok hB) rfl (fun a ha _ => upd_ne fun z => ha (z ▸ List.mem_cons_self)) wr_al
      ⟨fpA.nd, fun a ha => wr_al a (fpA.al a ha), fpA.fr⟩ (fun a ha => .inl ha) ⟨p, _, [], rfl, upd_same, rfl, A4⟩
    rw [List.append_nil] at stp
    exact k σ _ F' Keep.refl (ext.stp0.trans stp) s'
end
end CC
set_option maxHeartbeats 4000000
/-! A walk over what a call that may raise returns. -/
namespace CC
open PySem PySem.Spec L2
open PyProof.Rows hiding St
variable {α β γ δ τ υ ω ρ ε : Type}
def JIX (S : Stc) (tg iter : Expr) (Γ : Ctx) (m : Option (Res ε (List α))) (E : α → SP) (Xp : ε → XP) : Prop :=
  ∀ σ W F, Sta Γ σ W F → ∀ r, m = some r → ∀ R : It → Hp → Prop, (match r with | .ok xs => ∀ J W', Ext W W' → ItOk J (fun W1 => Ex W1.B W1.H ∧ Ex W'.B W1.B) xs E → R J W'.H | .er e => ∀ c d W', Ext W W' → (Xp e).P W'.B c d → S.W c d σ W'.H) → tiOf S tg iter σ W.H R
section
variable {S : Stc} {Γ Δ : Ctx} {a b c e tg iter : Expr} {es : List Expr} {pos : Pos} {A : List Stmt}
theorem jix_tup {m : Option (Res ε (List α))} {E : α → SP} {Xp : ε → XP} (h : JNX S iter Γ m (fun xs => sh (tupS E xs)) Xp) : JIX S tg iter Γ m E Xp := fun σ W F st r hr R k => by
  refine ⟨iTup S.K (tOf S iter), fun X hX => hX.K ▸ pi_tup (peO hX), h σ W F st r hr _ ?_⟩
  cases r with
  | ok xs =>
    exact fun v W' Fv ext _ _ q => by
      obtain ⟨_, a, vs, rfl, h2, h3⟩ := q
      exact ⟨a, rfl, ⟨vs, .inl (.inl (ext.ok a _ h2))⟩, k _ W' ext (ok_tup fun W1 c => ⟨c.1, vs, c.1 a _ (c.2 a _ h2), h3.mono c.2⟩)⟩
  | er u => exact k
/-- only where it does not raise -/
theorem jn_part {m : Option (Res ε α)} {R : α → OP} {Xp : ε → XP} (h : JNX S e Γ m R Xp) : JN S e Γ (m.bind fun r => r.k (fun x => some x) fun _ => none) R := fun σ W F st x hx Q k => by
  obtain ⟨r, h1, h2⟩ := run1 hx
  cases r with
  | ok y =>
    cases h2
    exact h σ W F st (.ok x) h1 Q k
  | er u => cases h2
theorem js_forSX {mi : Option (Res ε (List α))} {E : α → SP} {up : α → Ctx → Ctx} {ws : List Nat} {Γl : τ → Ctx} {f : α → τ → Option τ} {Xp : ε → XP} (s0 : τ) (hi : JIX S tg iter Γ mi E Xp) (hg : JG S tg E up ws) (w : Weak Γ (Γl s0)) (hl : ∀ s, ∀ i ∈ ws, i < (Γl s).length)
    (hb : ∀ x s, JB S A (up x (Γl s)) (f x s) fun s' => .nx (Γl s')) (hs : ∀ env x, foldedSetIterable iter env x = pure x := by intro _ _; rfl) (hcm : S.calm = true := by rfl) : JS S (.For tg iter A [] pos) Γ (mi.bind fun r => r.k (fun xs => (foldGo f xs s0).bind fun s => some (Res.ok s)) fun e => some (Res.er e)) (XD Γl Γ Xp) := fun σ W F sta z hz Ed k => by
  obtain ⟨r, h1, h2⟩ := run1 hz
  cases r with
  | ok xs =>
    obtain ⟨s', h3, h4⟩ := run1 (f := fun s : τ => some (Res.ok (ε := ε) s)) h2
    cases h4
    have hi' : JI S tg iter Γ (mi.bind fun r => r.k (fun ys => some ys) fun _ => none) E := fun σ W F st ys hy R k => by
      rw [h1] at hy
      cases hy
      exact hi σ W F st (.ok xs) h1 R k
    exact js_forS (pos := pos) s0 hi' hg w hl hb hs hcm σ W F sta s' (by rw [h1]; exact h3) Ed k
  | er u =>
    cases h2
    exact ⟨tFor (tiOf S tg iter) (tgOf S tg) (tbOf S A), fun X hX => ps_for hX.pass (hX.calm.trans hcm) (piO hX) (pgO hX) (pbO hX) (hs _), hi σ W F sta (.er u) h1 _ fun c d W' ext hp => k c d σ W' F Keep.refl ext.stp0 (sta.ext ext) hp⟩
end
end CC
set_option maxHeartbeats 4000000
/-! list.extend with a tuple; slices with state. -/
namespace CC
open PySem PySem.Spec L2
open PyProof.Rows hiding St
variable {α β γ δ τ υ ω ρ ε : Type}
section
open PySem.AutoSeq1
theorem ext_tup (l : Addr) (items : Array Value) (n : Nat) (b : Addr) (items2 : Array Value) (n2 : Nat) (dc : Option Addr) (sl : Array (Option Value)) (hs0 : ¬(!items.isEmpty && Builtin.List.listTooLong (items.size + items2.size)) = true) (hs1 : items.size ≤ sizeLine) (hs2 : items.size + items2.size ≤ sizeLine + 1) :
    Meets (Builtin.«list.extend» ⟨[.ref l, .ref b], []⟩) (fun _ R s => s.heap.get? l = some { cls := .type "list", dict := none, data := .seq items n, slots := #[] } ∧ s.heap.get? b = some { cls := .type "tuple", dict := dc, data := .seq items2 n2, slots := sl } ∧ R (.ok (.ret Value.none)) { s with heap := s.heap.update l (Obj.mapSeq fun x => x ++ items2), toks := s.toks }) :=
  .of_wp fun prog w A R s h => by
    obtain ⟨hp, g, d, tk, os⟩ := s; obtain ⟨hl, hb, h⟩ := h; have f2 := AutoSeq1.sub_tuple_tuple; have f3 := AutoSeq1.sub_list_list; have f4 := AutoSeq1.sub_tuple_list; have f5 := AutoSeq1.sub_list_tuple
    have hz' : (items ++ items2).size ≤ sizeLine + 1 := by rw [Array.size_append]; exact hs2
    wp_walk using (wpAny_updateSeq hl rfl (hz := hs1) (_hz' := hz')), wpAny_loadPart' hl, wpAny_loadPart' hb; exact ⟨_, rfl, h⟩
end
def rExtT (K : PySem.W.Frag) : V → List V → Hp → VK → Prop := fun x vs H Q => ∃ l b xs zs, x = .ref l ∧ vs = [.ref b] ∧ H l = some (.lst xs) ∧ SqT K H b zs ∧ xs.length + zs.length ≤ sizeLine ∧ Q .non (upd H l (.lst (xs ++ zs)))
theorem mt_extT {X : Cx} : MtM X "list.extend" (rExtT X.K) := by
  intro pins s σ H x vs v us Q I rx rv h
  obtain ⟨l, b, xs, zs, rfl, rfl, hH, hB, hz, q⟩ := h
  cases rx
  obtain ⟨u, rfl, ru⟩ := rv.one
  cases ru
  obtain ⟨z, its, n, r, hl, e⟩ := I.lstM hH
  obtain ⟨its2, r2, ⟨o2, e2, hc2, n2, hd2⟩, _⟩ := I.tuple hB
  have hl2 := r2.length
  have hsz : its.toArray.size + its2.toArray.size ≤ sizeLine := by rw [List.size_toArray, List.size_toArray]; omega
  have hlong : ¬ (!its.toArray.isEmpty && Builtin.List.listTooLong (its.toArray.size + its2.toArray.size)) = true := by
    rw [notLongL hsz, Bool.and_false]
    exact Bool.false_ne_true
  obtain ⟨c2, dc, d2, sl⟩ := o2
  simp only at hc2 hd2
  subst hc2 hd2
  refine call_meets PySem.F.slot_list_extend ⟨_, e, rfl⟩ PySem.F.entry_list_extend (PySem.F.args_list_extend_2 _ _)
    (ext_tup l its.toArray n b its2.toArray n2 dc sl hlong (by rw [List.size_toArray]; omega) (by omega)) ⟨e, e2, ?_⟩
  refine ⟨.non, _, I.lset (its' := its ++ its2) hH e (by simp) (r.append r2) ?_, rfl, q⟩
  rw [List.length_append]
  omega
section
variable {S : Stc} {Γ : Ctx} {a b c e : Expr} {pos : Pos}
theorem js_extT {x : Str} {p0 apos cpos spos : Pos} {E : α → SP} {xs : List α} {m : Option (List α)} (i : Nat) (h : JN S e Γ m fun ys => sh (tupS E ys)) (hi : Γ[i]? = some (some (lstO (fun x => sh (E x)) xs)) := by rfl) (hN : S.N[i]? = some x := by rfl) (hv : Vis S.sc x := by first | exact Or.inl rfl | exact Or.inr (Or.inl rfl) | exact Or.inr (Or.inr rfl))
    (hd : (x == ("__debug__" : Str)) = false := by decide) (hcd : (x == ("__classdict__" : Str)) = false := by decide)
    (hbase : ∀ env, attributeBase (.Name x p0) "extend" env (eval (.Name x p0) env) = eval (.Name x p0) env := by intro _; rfl)
    (hfew : ∀ env, ((backTo cpos (starEach [e] env)).all (fun x => !x.1) && (backToKw cpos (keywordEach [] env)).all (fun x => x.1.isSome) && decide ([e].length + ([] : List Keyword).length + (if ([] : List Keyword).isEmpty then 0 else 1) < 30)) = true := by intro _; rfl)
    (hline : (apos.endLine == cpos.line) = true := by rfl) (hs : ∀ env, starEach [e] env = (false, eval e env) :: starEach [] env := by intro _; rfl) (hsw : ∀ env, swapsWith (.Call (.Attribute (.Name x p0) "extend" apos) [e] [] cpos) none spos.line env = pure false := by intro _; rfl) :
    JS S (.Expr (.Call (.Attribute (.Name x p0) "extend" apos) [e] [] cpos) spos) Γ (m.bind fun ys => catM xs ys) fun ys => .nx (Γ.set i (some (lstO (fun x => sh (E x)) ys))) := fun σ W F sta z hz Ed k => by
  obtain ⟨ys, h1, h2⟩ := run1 hz
  unfold catM at h2
  split at h2
  · rename_i hlen
    cases h2
    refine ⟨tDrop (tBM S.K "list" (rExtT S.K) (tVar i) (tCons (tOf S e) tNil)), fun X hX => ps_expr (hX.K ▸ pe_bm PySem.F.plainAttrs_list PySem.F.slot_list_extend PySem.F.type_list_extend mt_extT (pe_var (by rw [hX.N]; exact hN) (visS hv hX) hd hcd) (pa_cons (peO hX) pa_nil (hs _)) (hbase _) (hfew _) hline (hs _) rfl) (hsw _), ?_⟩
    obtain ⟨v, F1, F2, a1, a2, a3, a4⟩ := sta.hold.at hi
    obtain ⟨p, vs, G2, rfl, b2, rfl, b4⟩ := id a2
    refine ⟨.ref p, a1, .inl ⟨rfl, vs, .inl (.inl b2)⟩, h σ W F sta ys h1 _ fun u W1 Fv ext fr fp r => ?_⟩
    obtain ⟨rfl, q, us, rfl, r2, r3⟩ := r
    have sta1 := sta.ext ext
    obtain ⟨v', F1', F2', c1, c2, c3, c4⟩ := sta1.hold.at hi
    have ev : v' = .ref p := by rw [a1] at c1; exact (Option.some.inj (Option.some.inj c1)).symm
    subst ev
    obtain ⟨p', vs', G2', e1, d2, rfl, d4⟩ := c2
    cases e1
    have hB : W1.B p = none := (sta1.fp.perm c3).fr p (by simp)
    obtain ⟨rfl, d5⟩ := d4.each
    refine ⟨p, q, vs', us, rfl, rfl, d2, .inl (.inl (ext.ok q _ r2)), lim_le (by rw [d5.len, r3.len]; exact hlen), ?_⟩
    have fpA : FpOk W1 [p] := (sta1.fp.perm c3).left
    have A4 : Owns (fun x => sh (E x)) ⟨upd W1.H p (.lst (vs' ++ us)), W1.B⟩ (vs' ++ us) (xs ++ ys) [] :=
      Owns.of_each (W := ⟨upd W1.H p (.lst (vs' ++ us)), W1.B⟩) (d5.app r3)
    obtain ⟨F', s', stp⟩ := sta_own (W' := ⟨upd W1.H p (.lst (vs' ++ us)), W1.B⟩) (F1' := [p]) (o' := lstO (fun x => sh (E x)) (xs ++ ys)) [] sta1 (by rw [List.append_nil]; exact sta1.fp) c1 c3 c4 (wr_ok ext.ok hB) rfl (fun a ha _ => upd_ne fun z => ha (z ▸ List.mem_cons_self)) wr_al
      ⟨fpA.nd, fun a ha => wr_al a (fpA.al a ha), fpA.fr⟩ (fun a ha => .inl ha) ⟨p, _, [], rfl, upd_same, rfl, A4⟩
    rw [List.append_nil] at stp
    exact k σ _ F' Keep.refl (ext.stp0.trans stp) s'
  · cases h2
end
/-! ### a tuple turned round -/
section
variable {prog : Program} {w : World} {A : Around} {E : Value → Shared → Prop} {s : Shared}
theorem adjust_rev (n : Nat) : Builtin.Slice.sliceAdjust none none (-1) (n : Int) = ((n : Int) - 1, -1) := rfl
theorem places_rev (n : Nat) : Builtin.Slice.slicePlaces ((n : Int) - 1) (-1) (-1) = n := by
  unfold Builtin.Slice.slicePlaces
  rw [if_neg (by decide)]
  split
  · rw [show (-(-1 : Int)) = 1 by decide, Int.ediv_one]
    omega
  · omega
theorem sliceApplied_rev {sl : Addr} {vs : Value} {n : Nat} {Q : Int × Int × Nat → Shared → Prop} (hs : s.heap.IsSliceOf sl .none .none vs) (ps : IsPart vs (some (-1)))
    (h : Q ((n : Int) - 1, -1, n) s) : wpAny (model prog w) A (Builtin.Slice.sliceApplied (.ref sl) (pure (n : Int))) Q E s := by
  obtain ⟨os, hos, hcs, hds⟩ := id hs
  unfold Builtin.Slice.sliceApplied Builtin.Slice.sliceFields
  refine wpAny_bind (wpAny_bind (wpAny_field hos hds (x := .none) rfl (wpAny_bind (wpAny_field hos hds (x := .none) rfl (wpAny_bind (wpAny_field hos hds (x := vs) rfl (wpAny_pure ?_)))))))
  refine wpAny_bind (HT.slicePart_ ps ?_)
  show wpAny _ _ (if ((-1 : Int) == 0) = true then _ else _) _ _ s
  rw [if_neg (by decide)]
  refine wpAny_bind (slicePart_none (wpAny_bind (slicePart_none (wpAny_bind (wpAny_pure ?_)))))
  show wpAny _ _ (match Builtin.Slice.sliceAdjust none none (-1) (n : Int) with | (lo, hi) => pure (lo, (-1 : Int), Builtin.Slice.slicePlaces lo hi (-1))) _ _ s
  rw [adjust_rev n]
  show wpAny _ _ (pure ((n : Int) - 1, (-1 : Int), Builtin.Slice.slicePlaces ((n : Int) - 1) (-1) (-1))) _ _ s
  rw [places_rev]
  exact wpAny_pure h
theorem fm_congr {α β : Type} {f g : α → Option β} : ∀ {l : List α}, (∀ x ∈ l, f x = g x) → l.filterMap f = l.filterMap g
  | [], _ => rfl
  | x :: l, h => by
    rw [List.filterMap_cons, List.filterMap_cons, h x List.mem_cons_self, fm_congr fun y hy => h y (List.mem_cons_of_mem _ hy)]
theorem pick_rev (xs : Array Value) : ((List.range xs.size).filterMap fun (m : Nat) => xs[((xs.size : Int) - 1 + (m : Int) * (-1)).toNat]?).toArray = xs.toList.reverse.toArray := by
  congr 1
  have e := PySem.W.krv_all xs
  have e2 : xs.toList.reverse = ((List.range xs.size).reverse).filterMap (xs[·]?) := by rw [List.filterMap_reverse, e]
  rw [e2, ← PySem.W.krv_range, List.filterMap_map]
  refine fm_congr fun m hm => ?_
  have := List.mem_range.mp hm
  show _ = xs[xs.size - 1 - m]?
  congr 1
  omega
theorem getItem_tuple_rev {t sl : Addr} {items : Array Value} {vs : Value} {Q : Value → Shared → Prop} (ht : IsTup s.heap t items) (hs : s.heap.IsSliceOf sl .none .none vs) (ps : IsPart vs (some (-1)))
    (h : Q (.ref s.heap.objs.size) { s with heap := s.heap.push { cls := .type "tuple", data := .seq items.toList.reverse.toArray } })
    (hsz : items.size ≤ sizeLine) : wpAny (model prog w) A (getItem (.ref t) (.ref sl)) Q E s := by
  have htake : sizeOk (.seq items.toList.reverse.toArray) := by
    show items.toList.reverse.toArray.size ≤ sizeLine
    rw [List.size_toArray, List.length_reverse, Array.length_toList]
    exact hsz
  obtain ⟨os, hos, hcs, hds⟩ := id hs
  have hTs : s.TypeIs (.ref sl) "slice" := ⟨os, hos, hcs⟩
  unfold getItem
  try with_reducible refine wpAny_holding ?_
  first | refine wpAny_bind (wpAny_pure ?_) | skip
  refine wpAny_bind (wpAny_sequenceKey ht.typeIs (by decide) ?_)
  refine wpAny_bind (wpAny_callSpecial?_slot (name := Str.ofString "__getitem__") ht.typeIs PyProof.Rows.slot_tuple_getitem
    (wpAny_call_entry PyProof.Rows.slot_tuple_getitem ht.typeIs entry_tuple_getitem ?_ (args_tuple_getitem _ _)))
  show wpAny _ _ (Builtin.Tuple.tupleItemsOf (.ref t) >>= _) _ _ s
  refine wpAny_bind (tupleItemsOf_ ht ?_)
  refine wpAny_bind (wpAny_typeOf hTs ?_)
  rw [if_pos (by decide)]
  refine wpAny_bind (sliceApplied_rev hs ps ?_)
  have hno : ¬ ((((items.size : Int) - 1) == 0 && (-1 : Int) == 1 && items.size == items.size) = true) := by
    rw [show ((-1 : Int) == 1) = false from rfl, Bool.and_false, Bool.false_and]
    exact Bool.false_ne_true
  show wpAny _ _ (if (((items.size : Int) - 1) == 0 && (-1 : Int) == 1 && items.size == items.size) = true then _ else _) _ _ s
  rw [if_neg hno, pick_rev]
  first
    | exact wpAny_bind (m := Builtin.Tuple.tupleExact _) (wpAny_newObj_type (wpAny_pure ⟨_, rfl, wpAny_pure h⟩) htake)
    | exact wpAny_bind (m := Builtin.Tuple.tupleExact _) (wpAny_newObj_type (wpAny_bind (wpAny_pure (wpAny_pure ⟨_, rfl, wpAny_pure h⟩))) htake)
    | exact wpAny_bind (wpAny_bind (m := Builtin.Tuple.tupleExact _) (wpAny_newObj_type (wpAny_pure (wpAny_pure ⟨_, rfl, wpAny_pure h⟩)) htake))
    | exact wpAny_bind (wpAny_bind (m := Builtin.Tuple.tupleExact _) (wpAny_newObj_type (wpAny_pure ⟨_, rfl, wpAny_pure h⟩) htake))
end
def tRevT (K : PySem.W.Frag) (te : TE) : TE := fun σ H Q => te σ H fun x H1 => ∃ a xs, x = .ref a ∧ SqT K H1 a xs ∧ ∀ p, H1 p = none → Q (.ref p) (upd H1 p (.tup xs.reverse))
theorem pe_revT {X : Cx} {e : Expr} {te : TE} {k : Nat} {p1 p2 p3 pos : Pos} (he : PE X e te) : PE X (.Subscript e (.Slice none none (some (.UnaryOp .USub (.Constant (.int 1) k p1) p2)) p3) pos) (tRevT X.K te) := by
  refine ⟨fun pins s σ H Q I h => ?_⟩
  refine Subscript_ (thn (he.run pins s σ H _ I h) fun v s1 ⟨x, H1, I1, r1, q1⟩ => ?_)
  obtain ⟨a, xs, ex, hx, q⟩ := q1
  subst ex
  cases r1
  have hst : PO X (some (.UnaryOp .USub (.Constant (.int 1) k p1) p2)) (tPart (tUn (rU fun i => .int (-i)) (tC (.int 1)))) := po_some (pe_un un_neg pe_int)
  refine wpAny_Slice (thn (po_none.run pins s1 σ H1 (fun o H2 => o = none ∧ H2 = H1) I1 ⟨rfl, rfl⟩) fun vl s2 ⟨l, H2, I2, pl, el, e2⟩ => ?_)
  subst el e2
  refine thn (po_none.run pins s2 σ H2 (fun o H3 => o = none ∧ H3 = H2) I2 ⟨rfl, rfl⟩) fun vu s3 ⟨u, H3, I3, pu, eu, e3⟩ => ?_
  subst eu e3
  refine thn (hst.run pins s3 σ H3 (fun o H4 => o = some (-1) ∧ H4 = H3) I3 ⟨1, rfl, -1, rfl, rfl, rfl⟩) fun vs s4 ⟨o, H4, I4, ps, eo, e4⟩ => ?_
  subst eo e4
  have I5 : Inv X pins σ H4 { s4 with heap := s4.heap.push { cls := .type "slice", data := .fields #[vl, vu, vs] } } := I4.kept (t' := s4.toks) fun b ob q => Heap.get?_push_of_some _ q
  obtain ⟨its, r, ht, hz⟩ := I5.tuple hx
  have hlen := r.length
  cases pl
  cases pu
  show wpAny (model X.prog X.w) X.A (subscriptTail e (.Slice none none (some (.UnaryOp .USub (.Constant (.int 1) k p1) p2)) p3) (.ref a) (.ref s4.heap.objs.size)) (EP X pins σ Q) X.xe { s4 with heap := s4.heap.push { cls := .type "slice", data := .fields #[.none, .none, vs] } }
  refine tail_any (ops := [.ref a, .ref s4.heap.objs.size]) ht.typeIs (PyProof.Rows.slot_tuple_getitem.lookup) ?_ (by with_unfolding_all rfl)
  refine getItem_tuple_rev ht (Heap.IsSliceOf.new _ .none .none vs) ps ?_ (by rw [List.size_toArray]; omega)
  refine ⟨.ref _, _, I5.laid (t' := s4.toks) (o := .tup xs.reverse) (fun b ob q => Heap.get?_push_of_some _ q) (Nat.le_refl _) ?_, rfl, q _ (I5.hok.fresh (Nat.le_refl _))⟩
  exact ⟨by rw [List.length_reverse]; exact hz, _, r.reverse, IsTup.new _ _⟩
theorem jn_revT {S : Stc} {Γ : Ctx} {a : Expr} {pos : Pos} {E : α → SP} {m : Option (List α)} {k : Nat} {p1 p2 p3 : Pos} (h : JN S a Γ m fun x => sh (tupS E x)) : JN S (.Subscript a (.Slice none none (some (.UnaryOp .USub (.Constant (.int 1) k p1) p2)) p3) pos) Γ (m.bind fun xs => some xs.reverse) (fun x => sh (tupS E x)) := fun σ W F sta z hz Q kq => by
  obtain ⟨x, h1, h2⟩ := run1 hz
  cases h2
  refine ⟨tRevT S.K (tOf S a), fun X hX => hX.K ▸ pe_revT (peO hX), h σ W F sta x h1 _ fun v W' Fv ext _ _ r => ?_⟩
  obtain ⟨_, p, vs, rfl, q2, q3⟩ := r
  exact ⟨p, vs, rfl, .inl (.inl (ext.ok p _ q2)), (kq.ext ext).newT ext.ok q3.rev⟩
/-! ### slices -/
section
variable {S : Stc} {Γ : τ → Ctx} {s : τ} {a b c e : Expr} {pos : Pos}
def JOE (S : Stc) (o : Option Expr) (Γ : τ → Ctx) (s : τ) (m : Option (Option Int × τ)) : Prop :=
  ∀ σ W F, Sta (Γ s) σ W F → ∀ x, m = some x → ∀ Q : Option Int → Hp → Prop, (∀ W' F', Stp W F W' F' → Sta (Γ x.2) σ W' F' → Q x.1 W'.H) → toOf S o σ W.H Q
theorem joe_none : JOE S none Γ s (some (none, s)) := fun σ W F st x hx Q k => by
  cases hx
  exact ⟨tNoPart, fun _ _ => po_none, k W F (Stp.refl st.ok) st⟩
theorem joe_some {m : Option (Int × τ)} (h : JE S e Γ s m fun z => sh (intS z)) : JOE S (some e) Γ s (m.bind fun x => some (some x.1, x.2)) := fun σ W F st x hx Q k => by
  obtain ⟨y, h1, h2⟩ := run1 hx
  cases h2
  exact ⟨tPart (tOf S e), fun X hX => po_some (peO hX), h.sh st h1 fun v W' F' stp sa r => ⟨y.1, r, k W' F' stp sa⟩⟩
theorem je_slL {E : α → SP} {lo hi : Option Expr} {p2 : Pos} {ma : Option (List α × τ)} {ml mh : τ → Option (Option Int × τ)} (h : JE S a Γ s ma fun x => sh (lstS E x)) (hl : ∀ s1, JOE S lo Γ s1 (ml s1)) (hh : ∀ s1, JOE S hi Γ s1 (mh s1)) : JE S (.Subscript a (.Slice lo hi none p2) pos) Γ s (ma.bind fun p => (ml p.2).bind fun l => (mh l.2).bind fun u => some (cutL p.1 l.1 u.1, u.2)) (lstO fun x => sh (E x)) := fun σ W F sta z hz Q k => by
  obtain ⟨p, h1, h2⟩ := run1 hz
  obtain ⟨l, h3, h4⟩ := run1 (f := fun l : Option Int × τ => (mh l.2).bind fun u => some (cutL p.1 l.1 u.1, u.2)) h2
  obtain ⟨u, h5, h6⟩ := run1 (f := fun u : Option Int × τ => some (cutL p.1 l.1 u.1, u.2)) h4
  cases h6
  refine ⟨tSl (rSlL S.K) (tOf S a) (toOf S lo) (toOf S hi), fun X hX => hX.K ▸ pe_slice sl_list (peO hX) (poO hX) (poO hX), h.sh sta h1 fun v W1 F1 stp1 sa1 r => ?_⟩
  obtain ⟨q, vs, rfl, q2, q4⟩ := r
  refine hl p.2 σ W1 F1 sa1 l h3 _ fun W2 F2 stp2 sa2 => ?_
  refine hh l.2 σ W2 F2 sa2 u h5 _ fun W3 F3 stp3 sa3 => ?_
  have eb := stp2.b.trans stp3.b
  have kq : Got (lstO (fun x => sh (E x)) (cutL p.1 l.1 u.1)) W3 Q := fun t W4 Fv ext fr fp rr => k t W4 F3 Fv (((stp1.trans stp2).trans stp3).trans (ext.stp fr)) (sa3.ext ext) (sa3.fp.fresh ext fp fr) rr
  exact ⟨q, vs, rfl, .inl (.inl (sa3.ok q _ (eb q _ q2))), kq.newL sa3.ok (each_cut (q4.mono eb) l.1 u.1)⟩
theorem je_slT {E : α → SP} {lo hi : Option Expr} {p2 : Pos} {ma : Option (List α × τ)} {ml mh : τ → Option (Option Int × τ)} (h : JE S a Γ s ma fun x => sh (tupS E x)) (hl : ∀ s1, JOE S lo Γ s1 (ml s1)) (hh : ∀ s1, JOE S hi Γ s1 (mh s1)) : JE S (.Subscript a (.Slice lo hi none p2) pos) Γ s (ma.bind fun p => (ml p.2).bind fun l => (mh l.2).bind fun u => some (cutL p.1 l.1 u.1, u.2)) (fun x => sh (tupS E x)) := fun σ W F sta z hz Q k => by
  obtain ⟨p, h1, h2⟩ := run1 hz
  obtain ⟨l, h3, h4⟩ := run1 (f := fun l : Option Int × τ => (mh l.2).bind fun u => some (cutL p.1 l.1 u.1, u.2)) h2
  obtain ⟨u, h5, h6⟩ := run1 (f := fun u : Option Int × τ => some (cutL p.1 l.1 u.1, u.2)) h4
  cases h6
  refine ⟨tSl (rSlA S.K) (tOf S a) (toOf S lo) (toOf S hi), fun X hX => hX.K ▸ pe_slice sl_tupA (peO hX) (poO hX) (poO hX), h.sh sta h1 fun v W1 F1 stp1 sa1 r => ?_⟩
  obtain ⟨q, vs, rfl, q2, q4⟩ := r
  refine hl p.2 σ W1 F1 sa1 l h3 _ fun W2 F2 stp2 sa2 => ?_
  refine hh l.2 σ W2 F2 sa2 u h5 _ fun W3 F3 stp3 sa3 => ?_
  have eb := stp2.b.trans stp3.b
  have kq : Got (sh (tupS E (cutL p.1 l.1 u.1))) W3 Q := fun t W4 Fv ext fr fp rr => k t W4 F3 Fv (((stp1.trans stp2).trans stp3).trans (ext.stp fr)) (sa3.ext ext) (sa3.fp.fresh ext fp fr) rr
  have q2' := eb q _ q2
  have q4' := q4.mono eb
  refine ⟨q, vs, rfl, .inl (.inl (sa3.ok q _ q2')), fun hw => ?_, fun _ => kq.newT sa3.ok (each_cut q4' l.1 u.1)⟩
  rw [q4.len] at hw
  refine kq.val sa3.ok ?_
  rw [cutL_all hw]
  exact ⟨q, vs, rfl, q2', q4'⟩
end
end CC
set_option maxHeartbeats 4000000
/-! Targets of any number. -/
namespace CC
open PySem PySem.Spec L2
open PyProof.Rows hiding St
variable {α β γ δ τ υ ω ρ ε : Type}
section
variable {S : Stc} {e : Expr} {es : List Expr} {pos : Pos}
def tgsOf (S : Stc) (es : List Expr) (vs : List V) (σ : L2.St) (H : Hp) (Q : L2.St → Hp → Prop) : Prop := ∃ t : TGs, (∀ X, S.In X → PGs X es t) ∧ t vs σ H Q
def JGs (S : Stc) (es : List Expr) (G : α → List SP) (up : α → Ctx → Ctx) (ws : List Nat) : Prop :=
  ∀ Γ σ W F x vs, Sta Γ σ W F → (∀ i ∈ ws, i < Γ.length) → Hets W.B vs (G x) → ∀ Q : L2.St → Hp → Prop, (∀ σ' F', (∀ vs : List Nat, (∀ i ∈ ws, i ∈ vs) → wipe σ' vs = wipe σ vs) → Keep S.prot σ σ' → Sta (up x Γ) σ' W F' → (∀ a ∈ F', a ∈ F) → Q σ' W.H) → tgsOf S es vs σ W.H Q
theorem jgs_nil : JGs S [] (fun _ : Unit => []) (fun _ Γ => Γ) [] := fun Γ σ W F x vs st _ h Q k => by
  cases vs with
  | nil => exact ⟨gNil, fun _ _ => pgs_nil, rfl, k σ F (fun _ _ => rfl) Keep.refl st fun _ h => h⟩
  | cons _ _ => exact h.elim
theorem pgsO {X : Cx} (h : S.In X) : PGs X es (tgsOf S es) := ⟨fun pins s σ H vs us Q I r ⟨_, p, q⟩ => (p X h).run pins s σ H vs us Q I r q⟩
theorem jgs_cons {E : α → SP} {G : β → List SP} {up : α → Ctx → Ctx} {up2 : β → Ctx → Ctx} {ws ws2 : List Nat} (h : JG S e E up ws) (k : JGs S es G up2 ws2) (hlen : ∀ a Γ, (up a Γ).length = Γ.length := by intro _ _; simp)
    (hs : ∀ env, (assignEach (e :: es) env).map (·.2) = assign e env :: (assignEach es env).map (·.2) := by intro _; rfl) : JGs S (e :: es) (fun p : α × β => E p.1 :: G p.2) (fun p Γ => up2 p.2 (up p.1 Γ)) (ws ++ ws2) := fun Γ σ W F x vs st hl hh Q kk => by
  cases vs with
  | nil => exact hh.elim
  | cons v vs =>
    refine ⟨gCons (tgOf S e) (tgsOf S es), fun X hX => pgs_cons (pgO hX) (pgsO hX) (hs _), v, vs, rfl, ?_⟩
    refine h Γ σ W F x.1 v st (fun i hi => hl i (List.mem_append_left _ hi)) hh.1 _ fun σ1 F1 w1 k1 s1 sub1 => ?_
    refine k (up x.1 Γ) σ1 W F1 x.2 vs s1 (fun i hi => by rw [hlen]; exact hl i (List.mem_append_right _ hi)) hh.2 Q fun σ2 F2 w2 k2 s2 sub2 => ?_
    exact kk σ2 F2 (fun us hu => (w2 us fun i hi => hu i (List.mem_append_right _ hi)).trans (w1 us fun i hi => hu i (List.mem_append_left _ hi))) (k1.trans k2) s2 fun b hb => sub1 b (sub2 b hb)
theorem jg_tupN {P : γ → SP} {G : α → List SP} {up : α → Ctx → Ctx} {ws : List Nat} {n k : Nat} (g : γ → α) (h : JGs S es G up ws) (hP : ∀ y, P y = htupS (G (g y)) := by intro _; rfl) (hn : ∀ y, (G (g y)).length = n := by intro _; rfl)
    (hl : ∀ env, (assignEach es env).length = n := by intro _; rfl) (hst : ∀ env, (assignEach es env).findIdx? (·.1) = none := by intro _; rfl) (hcm : S.calm = true := by rfl) : JG S (.Tuple es k pos) P (fun y Γ => up (g y) Γ) ws := fun Γ σ W F q v st hi hh Q kk => by
  rw [hP] at hh
  obtain ⟨a, vs, rfl, h2, h3⟩ := hh
  have hlen : vs.length = n := by rw [← hn q]; exact h3.len
  refine ⟨gTup S.K n (tgsOf S es), fun X hX => hX.K ▸ pg_tup (hX.calm.trans hcm) (pgsO hX) (hl _) (hst _), a, vs, rfl, .inl (.inl (st.ok a _ h2)), hlen, ?_⟩
  exact h Γ σ W F (g q) vs st hi h3 Q kk
end
end CC
set_option maxHeartbeats 4000000
/-! An own exception whose __init__ says super().__init__(text), then stores attributes. -/
namespace CC
open PySem PySem.Spec L2
open PyProof.Rows hiding St
open PySem.W (kxs_mw)
/-- what is told of such a class -/
structure SupK (P : Program) (K : PySem.W.Frag) (C cc cda : Addr) : Prop where
  cd : ∃ cd, PySem.W.clsIn K C = some cd ∧ PySem.W.alongIn K "__init__" ((cd.mro.dropWhile (· != .ref C)).drop 1) = some (some (.builtin "ValueError.__init__"))
  sub : PySem.W.mroIn K C (.ref C) = some true
  ve : PySem.W.subIn K (.ref C) (.type "ValueError") = some true
  cell : ∃ cl cld csl, K.lookup cc = some ⟨cl, cld, .cell (some (.ref C)), csl⟩
  code : ∃ ccl cdd vs ccs file tf, K.lookup cda = some ⟨ccl, cdd, .fields vs, ccs⟩ ∧ vs[2]? = some (.str file tf) ∧ ((P.main.file : Str) == file) = true
  any : PySem.W.nsIn K cStatics "thirdparty.any" = some none
  top : (P.main.scope.names.lookup ("super" : Str)).isSome = false
section
variable {X : Cx} {pins : List (Addr × Obj)} {σ : L2.St} {H : Hp} {s : Shared} {a C cc cda fI u : Addr} {E : Value → Shared → Prop} {A : Around}
/-- ValueError.__init__ bound to an exception, called -/
theorem call_mw {us : List Value} {Q : Value → Shared → Prop} (T : OexC X.K C) (I : Inv X pins σ H s) (e : H a = some (exo a C none)) (hu : s.heap.get? u = some (kxs_mw "ValueError.__init__" a)) (hl : us.length ≤ sizeLine) (h : ∀ s', Inv X pins σ H s' → Q .none s') :
    wpAny (model X.prog X.w) A (call (.ref u) us) Q E s := by
  obtain ⟨nm, q, N, bs, bm, sn, sub, ab, col, dd, k0, k1, k2, k3, k5, hC, hbm⟩ := T.cls
  obtain ⟨t1, ho⟩ := exo_at I.hok e
  obtain ⟨hp, g, d, t, os⟩ := s
  have FB := F.excBase_ValueError
  refine wpAny_call (codeAny_of_tree ?_)
  show wpAny _ A.in1 (callAny (.ref u) ⟨us, []⟩) _ _ _
  simp only [callAny]
  refine wpAny_bind (wpAny_load hu ?_)
  simp only [kxs_mw, show (Value.type "method-wrapper" == Value.type "method" || Value.type "method-wrapper" == Value.type "builtin_function_or_method" || Value.type "method-wrapper" == Value.type "method-wrapper") = true by decide, if_true]
  refine PySem.W.KFB.if_so (by decide) ?_
  refine wpAny_bind (PySem.W.check_bound_init FB.toExcCallFacts (I.kIn _ _ hC) ho rfl ?_)
  refine wpAny_bind (wpAny_pure (wpAny_pure ?_))
  refine ⟨plainId_quiet FB.init.plain _, codeAny_builtin FB.initEntry ?_⟩
  refine PySem.W.exc_init_tree (cls := .ref C) (t0 := t1) (dv := none) (c2 := .none) (c3 := .none) (b4 := .bool false) ho hl fun h' k hx _ => ?_
  have J := I.write (t' := t) (x := a) (e := a) (o := exo a C none) (by rw [e]; exact True.intro) (.inl rfl) k ⟨_, hx⟩ (exo_ok hx)
  have eu : upd H a (exo a C none) = H := by
    funext b
    by_cases hb : b = a
    · rw [hb, upd_same, e]
    · rw [upd_ne hb]
  rw [eu] at J
  exact h _ J
theorem exo_inst {t1 : Addr} {h : Heap} (ho : h.get? a = some ({ cls := .ref C, dict := none, data := .fields #[.ref t1, .none, .none, .none, .bool false, .none] } : Obj)) : PySem.W.InstAt h a ({ cls := .ref C, dict := none, data := .fields #[.ref t1, .none, .none, .none, .bool false, .none] } : Obj) C none := ⟨ho, rfl, rfl, trivial⟩
/-- super() in its __init__ -/
theorem sup_node {qual attr : Str} {scope : Scope} {L : Addr} {whole : Sem Value} {body : List Stmt} {p0 p1 : Pos} {oc : Value} {od : Option Addr} {osl : Array (Option Value)} {fd : FuncData} {ar : Arg} {Q : Value → Shared → Prop} (I : Inv X pins σ H s) (T : OexC X.K C) (SK : SupK X.prog X.K C cc cda) (henv : X.env = PySem.W.envX qual scope L fI (.ref cda) [("__class__", cc)])
    (lkf : X.K.lookup fI = some ⟨oc, od, .func fd, osl⟩) (hp : (fd.params.posonlyargs ++ fd.params.args).head? = some ar) (hN : X.N[0]? = some ar.arg) (hs0 : σ[0]? = some (some (.ref a))) (ea : H a = some (exo a C none)) (hms : X.mg "super" = none)
    (hat : (attr == ("__class__" : Str)) = false) (hks : scope.names.lookup ("super" : Str) = some .globalImplicit) (hkc : scope.names.lookup ("__class__" : Str) = some .free) (hka : scope.names.lookup ar.arg = some .local)
    (h : ∀ so s', Inv X pins σ H s' → s'.heap.get? so = some (PySem.W.ks_superObj C a C) → (∀ b o, s.heap.get? b = some o → s'.heap.get? b = some o) → Q (.ref so) s') :
    _root_.PySem.wpAt (model X.prog X.w) X.A (.func body X.env) (attributeBase (.Call (.Name "super" p0) [] [] p1) attr X.env whole) Q E s := by
  have KX := I.kIn
  obtain ⟨mb, b1, b2⟩ := I.mod.blt
  have hk : scope.kind = .function := by
    have := I.ok.kind
    rw [henv] at this
    exact this
  obtain ⟨cd, hcd, hal⟩ := SK.cd
  obtain ⟨cl, cld, csl, hcell⟩ := SK.cell
  obtain ⟨ccl, cdd, vs, ccs, file, tf, hcode, hvs, hfile⟩ := SK.code
  obtain ⟨t1, ho⟩ := exo_at I.hok ea
  obtain ⟨oD, hD1, hD2⟩ : ∃ oD, s.heap.get? C = some oD ∧ oD.data = .cls cd := by
    unfold PySem.W.clsIn at hcd
    split at hcd
    · rename_i c d cd' sl ho'
      cases hcd
      exact ⟨_, KX _ _ ho', rfl⟩
    · cases hcd
  obtain ⟨m, hn, hl⟩ := I.loc
  have hvis : Vis X.env.scope ar.arg := by rw [henv]; exact .inl hka
  obtain ⟨u0, r0, l0⟩ := hl 0 ar.arg (.ref a) hN hs0 hvis
  have r0 : u0 = .ref a := r0
  subst r0
  have hm : m ar.arg = some (.ref a) := by
    rcases l0 with ⟨_, hm⟩ | ⟨hk', _⟩
    · exact hm
    · rw [henv] at hk'
      have hk' : scope.names.lookup ar.arg = some .cell ∨ scope.names.lookup ar.arg = some .free := hk'
      rw [hka] at hk'
      rcases hk' with z | z <;> cases z
  have G := I.mod.glob.keeps I.bk
  have B := b1.keeps I.bk
  have hgl := I.ok.glob
  have hbl := I.ok.blt
  rw [henv] at hn ⊢
  have hI := I
  obtain ⟨hh, g, d, t, os⟩ := s
  refine PySem.ks_wpAt_super_base (env := PySem.W.envX qual scope L fI (.ref cda) [("__class__", cc)]) hks hkc hat rfl (KX _ _ lkf) rfl hp rfl (KX _ _ hcode) rfl hvs hfile SK.top ?_
  refine PySem.W.ks_loadName_global hk hks (Calls.loadGlobal_builtin (env := PySem.W.envX qual scope L fI (.ref cda) [("__class__", cc)]) G hms B ((b2 _ (by decide +kernel)).trans (by decide +kernel)) ⟨rfl, ?_⟩)
  refine wpAny_loadName_free hk hkc rfl ⟨_, KX _ _ hcell, rfl⟩ ?_
  refine wpAny_loadName_local hk hka hn hm ?_
  refine PySem.ks_wpAny_isType_cls hD1 hD2 ⟨rfl, ?_⟩
  refine PySem.ks_wpAny_call_super hD1 hD2 ho rfl (fun c e => nomatch e) (PySem.W.looks_mroIn KX SK.sub) (fun h' e k => ?_)
  exact h _ _ (hI.kept k) e k
theorem Inv.pinned {q : Addr} {o : Obj} (I : Inv X pins σ H s) (hq : s.heap.get? q = some o) (hn : H q = none) (hl : q ≠ X.env.locals) (hf : q ∉ X.fs) (hc : ∀ v, o.data ≠ .cell v) : Inv X ((q, o) :: pins) σ H s :=
  have key : ∀ p ∈ X.pn ++ (q, o) :: pins, s.heap.get? p.1 = some p.2 ∧ H p.1 = none ∧ p.1 ≠ X.env.locals ∧ p.1 ∉ X.fs ∧ ∀ v, p.2.data ≠ .cell v := fun p hp => by
    rcases List.mem_append.mp hp with hp | hp
    · exact I.pin p (List.mem_append_left _ hp)
    · rcases List.mem_cons.mp hp with rfl | hp
      · exact ⟨hq, hn, hl, hf, hc⟩
      · exact I.pin p (List.mem_append_right _ hp)
  ⟨I.ok, I.os, I.bare, I.base, I.loc, I.cell, I.free, I.freeC, key, I.hok, I.len⟩
theorem Inv.unpin {p0 : Addr × Obj} (I : Inv X (p0 :: pins) σ H s) : Inv X pins σ H s :=
  have key : ∀ p ∈ X.pn ++ pins, s.heap.get? p.1 = some p.2 ∧ H p.1 = none ∧ p.1 ≠ X.env.locals ∧ p.1 ∉ X.fs ∧ ∀ v, p.2.data ≠ .cell v := fun p hp => I.pin p (by
    rcases List.mem_append.mp hp with hp | hp
    · exact List.mem_append_left _ hp
    · exact List.mem_append_right _ (List.mem_cons_of_mem _ hp))
  ⟨I.ok, I.os, I.bare, I.base, I.loc, I.cell, I.free, I.freeC, key, I.hok, I.len⟩
/-- super().__init__(text) -/
theorem sup_stmt {qual z : Str} {scope : Scope} {L : Addr} {body : List Stmt} {p0 p1 apos cp cpos spos : Pos} {ck : Nat} {oc : Value} {od : Option Addr} {osl : Array (Option Value)} {fd : FuncData} {ar : Arg} (I : Inv X pins σ H s) (T : OexC X.K C) (SK : SupK X.prog X.K C cc cda) (henv : X.env = PySem.W.envX qual scope L fI (.ref cda) [("__class__", cc)])
    (lkf : X.K.lookup fI = some ⟨oc, od, .func fd, osl⟩) (hp : (fd.params.posonlyargs ++ fd.params.args).head? = some ar) (hN : X.N[0]? = some ar.arg) (hs0 : σ[0]? = some (some (.ref a))) (ea : H a = some (exo a C none)) (hms : X.mg "super" = none)
    (hks : scope.names.lookup ("super" : Str) = some .globalImplicit) (hkc : scope.names.lookup ("__class__" : Str) = some .free) (hka : scope.names.lookup ar.arg = some .local)
    (hsw : swapsWith (.Call (.Attribute (.Call (.Name "super" p0) [] [] p1) "__init__" apos) [.Constant (.str z) ck cp] [] cpos) none spos.line X.env = pure false)
    (he : ∃ pl, eval (.Call (.Attribute (.Call (.Name "super" p0) [] [] p1) "__init__" apos) [.Constant (.str z) ck cp] [] cpos) X.env = (do
      let ov ← attributeBase (.Call (.Name "super" p0) [] [] p1) "__init__" X.env (eval (.Call (.Name "super" p0) [] [] p1) X.env)
      standAt apos.atName
      let (f, first) ← holding [ov] (getMethod ov "__init__" pl)
      callWith cpos f first (backTo cpos (starEach [.Constant (.str z) ck cp] X.env)) []))
    (hst : starEach [.Constant (.str z) ck cp] X.env = (false, eval (.Constant (.str z) ck cp) X.env) :: starEach [] X.env) :
    _root_.PySem.wpAt (model X.prog X.w) X.A (.func body X.env) (exec (.Expr (.Call (.Attribute (.Call (.Name "super" p0) [] [] p1) "__init__" apos) [.Constant (.str z) ck cp] [] cpos) spos) X.env) (fun fl s' => fl = .next ∧ Inv X pins σ H s') X.xe s := by
  obtain ⟨pl, he⟩ := he
  obtain ⟨cd, hcd, hal⟩ := SK.cd
  refine PySem.ks_wpAt_Expr_any (Q := fun fl s' => fl = .next ∧ Inv X pins σ H s') ?_ I.quiet hsw
  refine PySem.ks_wpAt_MethodCall (pl := pl) ?_ he
  refine sup_node I T SK henv lkf hp hN hs0 ea hms rfl hks hkc hka fun so s' I1 hso k1 => ?_
  have KX := I1.kIn
  obtain ⟨t1, ho⟩ := exo_at I1.hok ea
  have IA := exo_inst ho
  have hll := I1.lt
  have hfr := I1.hok.fresh (Nat.le_refl _)
  have hnf := I1.nofs (Nat.le_refl _)
  have I2 := I1
  obtain ⟨hh, g, d, t, os⟩ := s'
  refine PySem.W.kxs_getMethod PySem.W.kxs_ValueError hso (PySem.W.looks_opaque KX SK.any) (l₀ := cd.mro) ?_ rfl KX hal (IA.type.andThen (PySem.W.looks_subIn KX SK.ve)) (PySem.W.ks_ne KX IA hcd) rfl ?_
  · exact fun A Q E s k q => wpAny_bind ((PySem.W.looks_clsIn KX hcd) A _ E s k (wpAny_pure q))
  · have gq : (hh.push (kxs_mw "ValueError.__init__" a)).get? hh.objs.size = some (kxs_mw "ValueError.__init__" a) := Heap.get?_push_at rfl rfl
    have I3 : Inv X pins σ H ⟨hh.push (kxs_mw "ValueError.__init__" a), g, d, t + 1, os⟩ := I2.kept (t' := t + 1) fun b o q => Heap.get?_push_of_some _ q
    have I4 := Inv.pinned I3 (q := hh.objs.size) (o := kxs_mw "ValueError.__init__" a) gq hfr (fun z => by rw [← z] at hll; exact Nat.lt_irrefl _ hll) hnf (fun v z => nomatch z)
    have ha : PA X [.Constant (.str z) ck cp] (tCons (tC (.str z)) tNil) := pa_cons pe_str pa_nil hst
    rw [hst]
    refine PySem.W.kxs_callWith (i := "ValueError.__init__") (x := a) rfl (PySem.Calls.evalArgs_plain ?_)
    have hr := ha.run cpos _ _ σ H (fun vs H1 => vs = [.str z] ∧ H1 = H) I4 ⟨rfl, rfl⟩
    rw [hst] at hr
    refine thn hr fun us s2 ⟨vs, H1, I5, r1, hv, hH⟩ => ?_
    subst hH
    have hq5 := (I5.pin (hh.objs.size, kxs_mw "ValueError.__init__" a) (List.mem_append_right _ List.mem_cons_self)).1
    refine ⟨hq5, ?_⟩
    refine call_mw T I5 ea hq5 (by show us.length ≤ sizeLine; rw [← Paired.length r1, hv, sizeLine_eq]; show 1 ≤ _; omega) fun s3 J => ⟨rfl, Inv.unpin J⟩
end
open NdefX (NScope CellsAt NF envF startF ncx inv_startN) in
/-- such an __init__ as a def -/
theorem fnok_sup {CX : CXT} {P : Program} {w : World} {K : PySem.W.Frag} {mg : Str → Option Value} {base : Heap} {k : Nat} {C cc cda fI : Addr} {name qual z : Str} {params : Arguments} {rest : List Stmt} {scope : Scope} {dV kV doc pm ct oc : Value} {an od : Option Addr} {osl : Array (Option Value)} {N ps : List Str} {sp : Sp} {p0 p1 apos cp cpos spos : Pos} {ck : Nat} {ar : Arg}
    (lk : K.lookup fI = some ⟨oc, od, .func (PySem.W.fnX name qual params (.Expr (.Call (.Attribute (.Call (.Name "super" p0) [] [] p1) "__init__" apos) [.Constant (.str z) ck cp] [] cpos) spos :: rest) scope [("__class__", cc)] dV kV doc pm an (.ref cda) ct), osl⟩)
    (hcd : PySem.W.codeIn K (.ref cda) qual = true) (S : NScope N ps ["__class__"] scope) (T : OexC K C) (SK : SupK P K C cc cda) (hms : mg "super" = none) (hp : (params.posonlyargs ++ params.args).head? = some ar) (hN : N[0]? = some ar.arg) (hps : ps[0]? = some ar.arg)
    (hks : scope.names.lookup ("super" : Str) = some .globalImplicit)
    (len : ∀ vs H Q E, sp vs H Q E → vs.length = ps.length) (self : ∀ vs H Q E, sp vs H Q E → ∃ a, vs[0]? = some (.ref a) ∧ H a = some (exo a C none))
    (hsw : ∀ env, swapsWith (.Call (.Attribute (.Call (.Name "super" p0) [] [] p1) "__init__" apos) [.Constant (.str z) ck cp] [] cpos) none spos.line env = pure false)
    (he : ∀ env, ∃ pl, eval (.Call (.Attribute (.Call (.Name "super" p0) [] [] p1) "__init__" apos) [.Constant (.str z) ck cp] [] cpos) env = (do
      let ov ← attributeBase (.Call (.Name "super" p0) [] [] p1) "__init__" env (eval (.Call (.Name "super" p0) [] [] p1) env)
      standAt apos.atName
      let (f, first) ← holding [ov] (getMethod ov "__init__" pl)
      callWith cpos f first (backTo cpos (starEach [.Constant (.str z) ck cp] env)) []))
    (hst : ∀ env, starEach [.Constant (.str z) ck cp] env = (false, eval (.Constant (.str z) ck cp) env) :: starEach [] env)
    (hbody : ∀ (X : Cx), X.prog = P → X.K = K → X.N = N → X.env.scope = scope → ∀ (vs : List V) (H : Hp) (Q : VK) (E : XK), sp vs H Q E → ∃ t, PSs X rest t ∧ t { nx := fun _ H' => Q .non H', rt := Q } (startF N vs [none]) H) :
    FnOk P w K mg base CX (k + 1) fI (PySem.W.fnX name qual params (.Expr (.Call (.Attribute (.Call (.Name "super" p0) [] [] p1) "__init__" apos) [.Constant (.str z) ck cp] [] cpos) spos :: rest) scope [("__class__", cc)] dV kV doc pm an (.ref cda) ct) ps sp := by
  refine ⟨len, fun A outer s H args us vs Q E hr e0 hb r hsp => ?_⟩
  have hl := len _ _ _ _ hsp
  have KB := e0.mod.kin
  have KX : K.In s.heap := KB.keeps fun b o e => (e0.bs b o e).1
  have lim : s.heap.NoLimit := e0.mod.nolimit.keeps fun b o e => (e0.bs b o e).1
  obtain ⟨cl, cld, csl, hcell⟩ := SK.cell
  obtain ⟨hc1, hc2⟩ := e0.bs _ _ (KB _ _ hcell)
  have CA : CellsAt [(("__class__" : Str), cc)] ["__class__"] [none] s.heap H := by
    refine ⟨rfl, fun y c e => ?_, fun x y c h1 h2 => ?_, fun i y hy => ?_⟩
    · simp only [List.lookup] at e
      split at e
      · cases e
        exact ⟨hc2, _, _, hc1, rfl⟩
      · cases e
    · have e1 : x = ("__class__" : Str) := by
        simp only [List.lookup] at h1
        split at h1
        · rename_i q
          exact beq_iff_eq.mp q
        · cases h1
      have e2 : y = ("__class__" : Str) := by
        simp only [List.lookup] at h2
        split at h2
        · rename_i q
          exact beq_iff_eq.mp q
        · cases h2
      rw [e1, e2]
    · cases i with
      | zero =>
        have e : ("__class__" : Str) = y := Option.some.inj hy
        subst e
        exact ⟨cc, by simp [List.lookup], fun v hv => by cases hv⟩
      | succ i => cases hy
  let F : NF := ⟨name, qual, params, .Expr (.Call (.Attribute (.Call (.Name "super" p0) [] [] p1) "__init__" apos) [.Constant (.str z) ck cp] [] cpos) spos :: rest, scope, [("__class__", cc)], cda⟩
  refine codeAny_call_function hr.depth (KX _ _ lk) rfl S.co S.gen rfl (PySem.W.codeRec_of KX hcd) (hb _ _ _ _ ?_)
  refine wpAny_newFunctionEnv S.nocell (fun ⟨n, _⟩ hy => S.par n (List.of_mem_zip hy).1) (fun h₁ hns hsb => ⟨lim.fresh _ hsb, ?_⟩) S.kind
  show codeAny _ _ (.func F.body (envF F fI s.heap.objs.size)) _ _
  refine PySem.ks_codeAny_funcAt ?_
  have kp : ∀ b o, s.heap.get? b = some o → h₁.get? b = some o := fun b o e => hsb.extBut b o (Nat.ne_of_lt (Heap.lt_size e)) (Heap.get?_push_of_some _ e)
  have I : Inv (ncx CX P w K mg base N F fI A outer s H E) [] (startF N vs [none]) H { s with heap := h₁, toks := s.toks + (ps.zip us).length } := inv_startN (F := F) S hr.hd e0 hl r CA hns kp
  obtain ⟨a, ha1, ha2⟩ := self _ _ _ _ hsp
  have h0 : (startF N vs [none])[0]? = some (some (.ref a)) := by
    unfold startF
    cases vs with
    | nil => cases ha1
    | cons v vs =>
      have : v = .ref a := Option.some.inj ha1
      rw [this]
      rfl
  have hka : scope.names.lookup ar.arg = some .local := S.par _ (List.mem_of_getElem? hps)
  have hkc : scope.names.lookup ("__class__" : Str) = some .free := S.frk _ List.mem_cons_self
  obtain ⟨t, ht, hq⟩ := hbody (ncx CX P w K mg base N F fI A outer s H E) rfl rfl rfl rfl vs H Q E hsp
  refine PySem.ks_wpAt_execs_cons (PySem.ks_wpAt_mono (sup_stmt (X := ncx CX P w K mg base N F fI A outer s H E) I T SK rfl lk hp hN h0 ha2 hms hks hkc hka (hsw _) (he _) (hst _)) (fun fl s' hf => ?_) fun _ _ y => y)
  obtain ⟨rfl, J⟩ := hf
  refine wpAt_of_wpAny (wpAny_mono (ht.run [] _ (startF N vs [none]) H _ J hq) (fun fl s2 hs => ?_) fun e s' hs => hs)
  have fin : ∀ {σ' : L2.St} {H' : Hp} {v : V} {u : Value}, Inv (ncx CX P w K mg base N F fI A outer s H E) [] σ' H' s2 → L2.RelV v u → Q v H' → CE outer P w H s Q u s2 :=
    fun {σ' H' v u} J rv q => ⟨v, H', J.os, J.bare, J.base, J.hok, rv, q⟩
  cases fl with
  | ret u =>
    obtain ⟨v, σ', H', J, rv, q⟩ := hs
    exact fin J rv q
  | next =>
    obtain ⟨σ', H', J, q⟩ := hs
    exact fin (v := V.non) (u := Value.none) J rfl q
  | brk =>
    obtain ⟨_, _, _, q⟩ := hs
    exact False.elim q
  | cont =>
    obtain ⟨_, _, _, q⟩ := hs
    exact False.elim q
end CC
set_option maxHeartbeats 4000000
/-! Exceptions with an attribute: what the top tells, raising, reading. -/
namespace CC
open PySem PySem.Spec L2
open PyProof.Rows hiding St
variable {α β γ δ τ υ ω ρ ε : Type}
structure SupD where
  x : Str
  qual : Str
  params : Arguments
  body : List Stmt
  scope : Scope
abbrev SupW : Type := Option (Str × Str × Arguments × FuncBody × Scope × Addr × List Str × Addr)
abbrev iAd (K : PySem.W.Frag) (x : Str) : Addr := He.ma K (He.ga K x) "__init__"
def supW (K : PySem.W.Frag) (x : Str) : SupW := match K.lookup (iAd K x) with
  | some ⟨_, _, .func fd, _⟩ => some (fd.name, fd.qualname, fd.params, fd.body, fd.scope, fd.globals, fd.closure.map (·.1), fd.builtins)
  | _ => none
def SupD.val (d : SupD) : SupW := some ("__init__", d.qual, d.params, .stmts d.body, d.scope, mainGlobals, ["__class__"], builtinsNs)
def oexB (K : PySem.W.Frag) (C : Addr) : Bool := match K.lookup C with
  | some ⟨.type t, _, .cls cd, sl⟩ => decide (t = "type") && (match cd.mro, sl.toList with
    | .ref C' :: bm, [_, _, _, _, some (.builtin n), _] => decide (C' = C) && (decide (n = "ValueError.__new__") && (!cd.hasDel && (cd.hasDict && PySem.HandSPX.refsVE bm)))
    | _, _ => false)
  | _ => false
theorem oexB_ok {K : PySem.W.Frag} {C : Addr} (h : oexB K C = true) : ∃ nm q N bs bm sn sub ab col dd k0 k1 k2 k3 k5, K.lookup C = some (excClassObj nm q C N bs bm true sn sub ab col dd k0 k1 k2 k3 k5 "ValueError.__new__") ∧ PySem.HandSPX.refsVE bm = true := by
  unfold oexB at h
  split at h
  · rename_i t dd cd sl ho
    obtain ⟨h1, h2⟩ := Bool.and_eq_true_iff.mp h
    have h1 := of_decide_eq_true h1
    subst h1
    obtain ⟨nm, bs, mro, ns, qn, hd, sn, sb, ab, col, del⟩ := cd
    split at h2
    · rename_i C' bm k0 k1 k2 k3 n k5 e1 e2
      dsimp only at e1
      subst e1
      obtain ⟨a1, h3⟩ := Bool.and_eq_true_iff.mp h2
      obtain ⟨a2, h4⟩ := Bool.and_eq_true_iff.mp h3
      obtain ⟨a3, h5⟩ := Bool.and_eq_true_iff.mp h4
      obtain ⟨a4, a5⟩ := Bool.and_eq_true_iff.mp h5
      have a1 := of_decide_eq_true a1
      have a2 := of_decide_eq_true a2
      dsimp only at a3 a4
      rw [Bool.not_eq_true'] at a3
      subst a1 a2 a3 a4
      have e3 : sl = #[k0, k1, k2, k3, some (.builtin "ValueError.__new__"), k5] := by
        apply Array.toList_inj.mp
        rw [e2]
      subst e3
      exact ⟨nm, qn, ns, bs, bm, sn, sb, ab, col, dd, k0, k1, k2, k3, k5, ho, a5⟩
    · cases h2
  · cases h
/-- SupK without the program -/
structure SupC (K : PySem.W.Frag) (fl : Str) (C cc cda : Addr) : Prop where
  cd : ∃ cd, PySem.W.clsIn K C = some cd ∧ PySem.W.alongIn K "__init__" ((cd.mro.dropWhile (· != .ref C)).drop 1) = some (some (.builtin "ValueError.__init__"))
  sub : PySem.W.mroIn K C (.ref C) = some true
  ve : PySem.W.subIn K (.ref C) (.type "ValueError") = some true
  cell : ∃ cl cld csl, K.lookup cc = some ⟨cl, cld, .cell (some (.ref C)), csl⟩
  code : ∃ ccl cdd vs ccs tf, K.lookup cda = some ⟨ccl, cdd, .fields vs, ccs⟩ ∧ vs[2]? = some (.str fl tf)
  any : PySem.W.nsIn K cStatics "thirdparty.any" = some none
/-- what is asked of the program -/
structure PF (P : Program) (fl : Str) : Prop where
  file : ((P.main.file : Str) == fl) = true
  top : (P.main.scope.names.lookup ("super" : Str)).isSome = false
theorem SupC.k {P : Program} {K : PySem.W.Frag} {fl : Str} {C cc cda : Addr} (h : SupC K fl C cc cda) (p : PF P fl) : SupK P K C cc cda := by
  obtain ⟨a, b, c, d, e, hc, hv⟩ := h.code
  exact ⟨h.cd, h.sub, h.ve, h.cell, ⟨a, b, c, d, fl, e, hc, hv, p.file⟩, h.any, p.top⟩
def tSup (fl : Str) (d : SupD) (K : PySem.W.Frag) : Bool :=
  oexB K (He.ga K d.x) && (decide (PySem.W.findIn K (.ref (He.ga K d.x)) "__setattr__" = some (some (.builtin "object.__setattr__"))) && (decide (PySem.W.subIn K (.ref (He.ga K d.x)) (.type "BaseException") = some true) && (decide (PySem.W.typeIn K (.ref (He.ga K d.x)) = some (.type "type")) && (PySem.W.keepIn K (.ref (He.ga K d.x)) &&
  (decide (PySem.W.findIn K (.ref (He.ga K d.x)) "__init__" = some (some (.ref (iAd K d.x)))) && (decide (PySem.W.typeIn K (.ref (iAd K d.x)) = some (.type "function")) &&
  (decide (PySem.W.mroIn K (He.ga K d.x) (.ref (He.ga K d.x)) = some true) && (decide (PySem.W.subIn K (.ref (He.ga K d.x)) (.type "ValueError") = some true) && (decide (PySem.W.nsIn K cStatics "thirdparty.any" = some none) &&
  ((match PySem.W.clsIn K (He.ga K d.x) with
    | some cd => decide (PySem.W.alongIn K "__init__" ((cd.mro.dropWhile (· != .ref (He.ga K d.x))).drop 1) = some (some (.builtin "ValueError.__init__")))
    | none => false) &&
  (match K.lookup (iAd K d.x) with
    | some ⟨_, _, .func fd, _⟩ => (match fd.code, fd.closure with
      | .ref cda, [(_, cc)] => (decide (fd.defaults = .none) && decide (fd.kwdefaults = .none)) && (PySem.W.codeIn K (.ref cda) d.qual && ((match K.lookup cc with
        | some ⟨_, _, .cell (some (.ref D)), _⟩ => decide (D = He.ga K d.x)
        | _ => false) && (match K.lookup cda with
        | some ⟨_, _, .fields vs, _⟩ => (match (show Option Value from vs[2]?) with
          | some (Value.str z _) => decide (z = fl)
          | _ => false)
        | _ => false)))
      | _, _ => false)
    | _ => false)))))))))))
structure SupF (K : PySem.W.Frag) (fl : Str) (C fI : Addr) (d : SupD) : Prop where
  ex : ∃ oc od doc pm an cda ct osl cc, K.lookup fI = some ⟨oc, od, .func (PySem.W.fnX "__init__" d.qual d.params d.body d.scope [("__class__", cc)] .none .none doc pm an (.ref cda) ct), osl⟩ ∧ PySem.W.codeIn K (.ref cda) d.qual = true ∧ SupC K fl C cc cda
  oex : OexC K C
  iC : PySem.W.findIn K (.ref C) "__init__" = some (some (.ref fI))
  tI : PySem.W.typeIn K (.ref fI) = some (.type "function")
theorem supF_ok {K : PySem.W.Frag} {fl : Str} {d : SupD} (e : supW K d.x = d.val) (h : tSup fl d K = true) : SupF K fl (He.ga K d.x) (iAd K d.x) d := by
  unfold tSup at h
  simp only [Bool.and_eq_true, decide_eq_true_eq] at h
  obtain ⟨h1, h2, h3, h4, h5, h6, h7, h8, h9, h10, h11, h12⟩ := h
  refine ⟨?_, ⟨oexB_ok h1, h2, h3, h4, h5⟩, h6, h7⟩
  unfold supW at e
  split at h12
  · rename_i oc od fd osl ho
    rw [ho] at e
    obtain ⟨n1, n2, n3, n4, n5, n6, n7, n8, n9, n10, n11, n12, n13, n14, n15⟩ := fd
    have e2 : (some (n1, n2, n3, n4, n5, n6, n7.map (·.1), n15) : SupW) = d.val := e
    unfold SupD.val at e2
    simp only [Option.some.injEq, Prod.mk.injEq] at e2
    obtain ⟨q1, q2, q3, q4, q5, q6, q7, q8⟩ := e2
    subst q1 q2 q3 q4 q5 q6 q8
    split at h12
    · rename_i cda x cc y1 y2
      dsimp only at y1 y2
      subst y1 y2
      simp only [List.map_cons, List.map_nil, List.cons.injEq, and_true] at q7
      subst q7
      simp only [Bool.and_eq_true, decide_eq_true_eq] at h12
      obtain ⟨⟨z4, z5⟩, z1, z2, z3⟩ := h12
      subst z4 z5
      refine ⟨oc, od, n10, n11, n12, cda, n14, osl, cc, ho, z1, ?_, h8, h9, ?_, ?_, h10⟩
      · split at h11
        · rename_i cd hcd
          exact ⟨cd, hcd, of_decide_eq_true h11⟩
        · cases h11
      · split at z2
        · rename_i a b D c hc
          have := of_decide_eq_true z2
          rw [this] at hc
          exact ⟨a, b, c, hc⟩
        · cases z2
      · split at z3
        · rename_i a b vs c hc
          split at z3
          · rename_i z tf hv
            have := of_decide_eq_true z3
            rw [this] at hv
            exact ⟨a, b, vs, c, tf, hc, hv⟩
          · cases z3
        · cases z3
    · cases h12
  · cases h12
end CC
set_option maxHeartbeats 4000000
/-! Exceptions with an attribute: the hook, raising, reading. -/
namespace CC
open PySem PySem.Spec L2
open PyProof.Rows hiding St
variable {α β γ δ τ υ ω ρ ε : Type}
/-! ### the hook -/
def asY (g : Addr → Option Obj) (n : Nat) : List Addr := cStatics :: He.asD g n
abbrev AlY : Type := (Bool × He.AlD) × List SupW
def obsY (mo : List Tst) (fa : List He.Fa) (fn : List He.DefD) (sp : List SupD) (K : PySem.W.Frag) : AlY := (obsX mo fa fn K, sp.map fun d => supW K d.x)
def valY (fn : List He.DefD) (sp : List SupD) : AlY := ((true, He.valD fn), sp.map SupD.val)
def SaysY (mo : List Tst) (fa : List He.Fa) (fn : List He.DefD) (sp : List SupD) (K : PySem.W.Frag) : Prop := obsY mo fa fn sp K = valY fn sp
def obsYG (n : Nat) (mo : List Tst) (fa : List He.Fa) (fn : List He.DefD) (sp : List SupD) (g : Addr → Option Obj) : AlY := obsY mo fa fn sp (He.frG g (asY g n))
def hookY (n : Nat) (mo : List Tst) (fa : List He.Fa) (fn : List He.DefD) (sp : List SupD) : PySem.W.Hook where
  α := AlY
  obs := fun s => obsYG n mo fa fn sp s.heap.get?
  val := fun _ => valY fn sp
  says := fun _ h => ∃ K : PySem.W.Frag, K.In h ∧ SaysY mo fa fn sp K
  of := fun _ _ e => ⟨_, He.frG_in, e⟩
  keeps := fun _ _ _ ⟨K, hK, c⟩ k => ⟨K, PySem.W.Frag.In.keeps hK k, c⟩
theorem obsYG_eq {n : Nat} {mo : List Tst} {fa : List He.Fa} {fn : List He.DefD} {sp : List SupD} {g : Addr → Option Obj} {s : Shared} (h : ∀ a, g a = s.heap.get? a) : obsYG n mo fa fn sp g = (hookY n mo fa fn sp).obs s := by
  have e : g = s.heap.get? := funext h
  rw [e] <;> rfl
theorem SaysY.x {mo : List Tst} {fa : List He.Fa} {fn : List He.DefD} {sp : List SupD} {K : PySem.W.Frag} (c : SaysY mo fa fn sp K) : SaysX mo fa fn K := congrArg (fun z : AlY => z.1) c
theorem SaysY.s {mo : List Tst} {fa : List He.Fa} {fn : List He.DefD} {sp : List SupD} {K : PySem.W.Frag} (c : SaysY mo fa fn sp K) (i : Nat) {d : SupD} (h : sp[i]? = some d := by rfl) : supW K d.x = d.val := by
  have e : sp.map (fun d => supW K d.x) = sp.map SupD.val := congrArg (fun z : AlY => z.2) c
  have e2 : (sp.map fun d => supW K d.x)[i]? = (sp.map SupD.val)[i]? := by rw [e]
  rw [List.getElem?_map, List.getElem?_map, h] at e2
  exact Option.some.inj e2
/-- the j-th statement of a class -/
def clsM (st : Stmt) (j : Nat) : Stmt := match st with
  | .ClassDef _ _ _ body .. => body.getD j (.Pass ⟨0, 0, 0, 0⟩)
  | _ => .Pass ⟨0, 0, 0, 0⟩
/-! ### an __init__ that stores one thing -/
def spI (C : Addr) (f : Str) : Sp := fun vs H Q _ => ∃ a v, vs = [.ref a, v] ∧ H a = some (exo a C none) ∧ ∀ dx, H dx = none → dx ≠ a → Q .non (upd (upd H dx (exd dx [(f, v)])) a (exo a C (some dx)))
structure ShI (d : SupD) (f y : Str) : Prop where
  ex : ∃ (p0 p1 apos cp cpos spos q0 q1 q2 q3 : Pos) (ck : Nat) (z : Str) (ar : Arg), d.body = [.Expr (.Call (.Attribute (.Call (.Name "super" p0) [] [] p1) "__init__" apos) [.Constant (.str z) ck cp] [] cpos) spos, .Assign [.Attribute (.Name "self" q0) f q1] (.Name y q2) q3] ∧
    (d.params.posonlyargs ++ d.params.args).head? = some ar ∧ ar.arg = ("self" : Str) ∧
    (∀ env, swapsWith (.Call (.Attribute (.Call (.Name "super" p0) [] [] p1) "__init__" apos) [.Constant (.str z) ck cp] [] cpos) none spos.line env = pure false) ∧
    (∀ env, ∃ pl, eval (.Call (.Attribute (.Call (.Name "super" p0) [] [] p1) "__init__" apos) [.Constant (.str z) ck cp] [] cpos) env = (do
      let ov ← attributeBase (.Call (.Name "super" p0) [] [] p1) "__init__" env (eval (.Call (.Name "super" p0) [] [] p1) env)
      standAt apos.atName
      let (f, first) ← holding [ov] (getMethod ov "__init__" pl)
      callWith cpos f first (backTo cpos (starEach [.Constant (.str z) ck cp] env)) [])) ∧
    (∀ env, starEach [.Constant (.str z) ck cp] env = (false, eval (.Constant (.str z) ck cp) env) :: starEach [] env) ∧
    ∀ env, swapsWith (.Name y q2) (some (.Attribute (.Name "self" q0) f q1)) q3.line env = pure false
  sc : NdefX.NScope ["self", y, "__class__"] ["self", y] ["__class__"] d.scope
  ks : d.scope.names.lookup ("super" : Str) = some .globalImplicit
  yd : (y == ("__debug__" : Str)) = false ∧ (y == ("__classdict__" : Str)) = false
  bind : ∀ doc pm an cdv ct cc (us : List Value), us.length = 2 → bindArgs (PySem.W.fnX "__init__" d.qual d.params d.body d.scope [("__class__", cc)] .none .none doc pm an cdv ct) ⟨us, []⟩ = pure ([("self" : Str), y].zip us)
theorem sup1_fn {P : Program} {w : World} {K : PySem.W.Frag} {mg : Str → Option Value} {base : Heap} {fl f y : Str} {C fI : Addr} {d : SupD} (F : SupF K fl C fI d) (hp : PF P fl) (hms : mg "super" = none) (hno : PySem.W.findIn K (.ref C) f = some none) (Sh : ShI d f y) :
    ∃ fd, FnOk P w K mg base CX0 1 fI fd ["self", y] (spI C f) ∧ Binds K fd ["self", y] [] := by
  obtain ⟨oc, od, doc, pm, an, cda, ct, osl, cc, lk, hcd, SC⟩ := F.ex
  obtain ⟨p0, p1, apos, cp, cpos, spos, q0, q1, q2, q3, ck, z, ar, hb, har, har2, hsw, he, hst, hsw2⟩ := Sh.ex
  refine ⟨_, ?_, Binds.all fun us hl => Sh.bind doc pm an (.ref cda) ct cc us hl⟩
  have S := Sh.sc
  have hks := Sh.ks
  have hyd := Sh.yd
  obtain ⟨x, qual, params, body, scope⟩ := d
  dsimp only at hb lk hcd har S hks ⊢
  subst hb
  refine fnok_sup (k := 0) (z := z) lk hcd S F.oex (SC.k hp) hms har (by rw [har2]; rfl) (by rw [har2]; rfl) hks (fun vs H Q E h => ?_) (fun vs H Q E h => ?_) hsw he hst fun X hP hK hN hsc vs H Q E h => ?_
  · obtain ⟨a, v, rfl, _⟩ := h
    rfl
  · obtain ⟨a, v, rfl, h2, _⟩ := h
    exact ⟨a, rfl, h2⟩
  · obtain ⟨a, v, rfl, h2, h3⟩ := h
    have v1 : Vis X.env.scope "self" := by rw [hsc]; exact .inl (S.par _ (by simp))
    have v2 : Vis X.env.scope y := by rw [hsc]; exact .inl (S.par _ (by simp))
    refine ⟨tSeq (tOst X.K f (tVar 0) (tVar 1)) tNext, pss_cons (ps_ost (pe_var (by rw [hN]; rfl) v1) (pe_var (by rw [hN]; rfl) v2 hyd.1 hyd.2) (hsw2 _)) pss_nil, ?_⟩
    exact ⟨v, rfl, .ref a, rfl, a, C, rfl, by rw [hK]; exact F.oex, by rw [hK]; exact hno, .inl ⟨h2, h3⟩⟩
/-! ### raising it -/
section
variable {S : Stc} {Γ Δ : Ctx} {e : Expr} {pos : Pos}
theorem jm_sup {x fl f y : Str} {p : Pos} {C fI : Addr} {d : SupD} {m : Option α} {E : α → SP} {u : α → ε} {Xp : ε → XP} (F : SupF S.K fl C fI d) (hP : PF S.P fl) (hms : S.mg "super" = none) (hno : PySem.W.findIn S.K (.ref C) f = some none) (Sh : ShI d f y) (hm : S.mg x = some (.ref C)) (ha : JN S e Γ m fun z => sh (E z)) (hX : ∀ z, Xp (u z) = excX C (some (f, E z)) := by intro _; rfl)
    (hk : 2 ≤ S.k := by exact Nat.le_of_ble_eq_true rfl) (hg : GlS S x := by rfl) (hdb : (x == ("__debug__" : Str)) = false := by decide) (he : ∀ env, starEach [e] env = (false, eval e env) :: starEach [] env := by intro _; rfl) (hcm : S.calm = true := by rfl) : JM S (.Call (.Name x p) [e] [] pos) Γ (m.bind fun z => some (u z)) Xp := fun σ W F' sta w hw Q k => by
  obtain ⟨z, h1, h2⟩ := run1 hw
  cases h2
  refine ⟨tMkO C (spI C f) [] (tCons (tOf S e) tNil), fun X hX' => ?_, ?_⟩
  · obtain ⟨fd, Fn, Bd⟩ := sup1_fn (P := S.P) (w := S.w) (mg := S.mg) (base := S.base) F hP hms hno Sh
    rw [← hX'.K] at F
    refine pmk_oex (ds := []) (dvs := []) (k := 1) F.oex F.iC F.tI (CX := CX0) ?_ ((hX'.room hcm).mono hk) (by rw [hX'.K]; exact Bd) .nil passE0 (hg.gl hX') (mgS hm hX') (pa_cons (peO hX') pa_nil (he _)) hdb (he _) rfl
    rw [hX'.prog, hX'.w, hX'.K, hX'.mg, hX'.base]
    exact Fn
  · refine ha σ W F' sta z h1 _ fun v W1 Fv ext fr fp r => ?_
    obtain ⟨_, hv⟩ := r
    refine ⟨by simp, fun a hna => ?_⟩
    refine ⟨a, v, rfl, upd_same, fun dx hdx hne => ⟨rfl, dx, [(f, v)], upd_same, ?_, ?_, ?_⟩⟩
    · rw [upd_ne hne, upd_same]
    · rwa [upd_ne hne] at hdx
    · have hd1 : W1.H dx = none := by rwa [upd_ne hne] at hdx
      have e2 := Ext.newB ext.ok (o := .xd [(f, v)]) hd1
      have eH : upd (del (upd (upd (upd W1.H a (exo a C none)) dx (exd dx [(f, v)])) a (exo a C (some dx))) a) dx (.xd [(f, v)]) = (⟨upd W1.H dx (.xd [(f, v)]), upd W1.B dx (.xd [(f, v)])⟩ : Wd).H := by
        funext b
        by_cases hb : b = dx
        · rw [hb, upd_same]
          exact upd_same.symm
        · rw [upd_ne hb]
          show _ = upd W1.H dx _ b
          rw [upd_ne hb]
          by_cases hb2 : b = a
          · rw [hb2, del_same, hna]
          · rw [del_ne hb2, upd_ne hb2, upd_ne hb, upd_ne hb2]
      rw [eH]
      refine k (.ref C) (some dx) ⟨upd W1.H dx (.xd [(f, v)]), upd W1.B dx (.xd [(f, v)])⟩ (ext.trans e2) ?_
      rw [hX]
      exact ⟨rfl, dx, v, rfl, upd_same, SP.mono _ hv e2.b⟩
/-- e.f in its suite -/
theorem jn_xat {n f : Str} {p0 : Pos} {a C : Addr} {d : Option Addr} {x : α} {E : α → SP} (i : Nat) (hex : S.ex = some (a, C, d)) (hE : ExcC S.K C) (hno : PySem.W.findIn S.K (.ref C) f = some none) (hi : Γ[i]? = some (some (sh (excS a d (some (f, E x))))) := by rfl) (hN : S.N[i]? = some n := by rfl) (hv : Vis S.sc n := by first | exact Or.inl rfl | exact Or.inr (Or.inl rfl) | exact Or.inr (Or.inr rfl))
    (hd : (n == ("__debug__" : Str)) = false := by decide) (hcd : (n == ("__classdict__" : Str)) = false := by decide) (hb : ∀ env, attributeBase (.Name n p0) f env (eval (.Name n p0) env) = eval (.Name n p0) env := by intro _; rfl) : JN S (.Attribute (.Name n p0) f pos) Γ (some x) fun z => sh (E z) := fun σ W F sta z hz Q kq => by
  cases hz
  obtain ⟨v, h1, h2⟩ := sta.get hi
  obtain ⟨rfl, dd, w, rfl, h4, h5⟩ := h2
  refine ⟨tXf a (.ref C) (some dd) C f (tVar i), fun X hX => ?_, ?_⟩
  · obtain ⟨X', oe, pn, rfl, hz, hf⟩ := hX.ex a C (some dd) hex
    have eK : (X'.suite a ((a, oe) :: pn)).K = S.K := hX.K
    have eK' : X'.K = S.K := eK
    exact pe_xf (X := X') ⟨by rw [eK']; exact hE.hg, by rw [eK']; exact hE.hk, by rw [eK']; exact hE.hs, by rw [eK']; exact hE.hd⟩ (by rw [eK']; exact hno) hz hf (pe_var (by rw [hX.N]; exact hN) (visS hv hX) hd hcd) (hb _)
  · exact ⟨.ref a, h1, rfl, rfl, dd, [(f, w)], w, rfl, sta.ok _ _ h4, by simp [List.lookup], kq.val sta.ok h5⟩
end
end CC
set_option maxHeartbeats 4000000
/-! a < b < c as a test. -/
namespace CC
open PySem PySem.Spec L2
open PyProof.Rows hiding St
variable {α β γ δ τ υ ω ρ ε : Type}
section
variable {S : Stc} {Γ : Ctx} {a b c e : Expr} {pos : Pos}
theorem jt_chain {op op' : CmpOp} {r r' : R2} {E : α → SP} {G : β → SP} {I : γ → SP} {f : α → β → Option Bool} {g : β → γ → Option Bool} {ma : Option α} {mb : Option β} {mc : Option γ} (ho : ∀ X, S.In X → OpR X (compareOp op) r) (hr : OpV r E G f fun z => sh (boolS z)) (ho' : ∀ X, S.In X → OpR X (compareOp op') r') (hr' : OpV r' G I g fun z => sh (boolS z))
    (ha : JN S a Γ ma fun x => sh (E x)) (hb : JN S b Γ mb fun x => sh (G x)) (hc : JN S c Γ mc fun x => sh (I x)) (hm : lastMarks [op, op'] [b, c] = false := by with_unfolding_all rfl) :
    JT S (.Compare a [op, op'] [b, c] pos) Γ (ma.bind fun x => mb.bind fun y => (f x y).bind fun t => bif t then mc.bind fun z => g y z else some false) := fun σ W F st z hz Q kq => by
  obtain ⟨x, y, h1, h2, h3⟩ := run2 hz
  obtain ⟨t, h4, h5⟩ := run1 h3
  refine ⟨tTest (tChain r r' (tOf S a) (tOf S b) (tOf S c)), fun X hX => pt_chain (ho X hX) (ho' X hX) (peO hX) (peO hX) (peO hX) hm, ?_⟩
  have k : Got (sh (boolS z)) W fun v H => ∃ b, v = V.bl b ∧ Q b H := fun v W' Fv ext _ _ r => ⟨z, r.2, kq W' ext⟩
  show tChain r r' (tOf S a) (tOf S b) (tOf S c) σ W.H fun v H => ∃ b, v = V.bl b ∧ Q b H
  refine ha σ W F st x h1 _ fun v W1 F1 e1 _ _ r1 => hb σ W1 F (st.ext e1) y h2 _ fun u W2 F2 e2 _ _ r2 => ?_
  refine hr W2 x y v u t e2.ok (SP.mono _ r1.2 e2.b) r2.2 h4 _ fun w W3 F3 e3 _ _ r3 => ?_
  have e13 := (e1.trans e2).trans e3
  refine ⟨t, r3.2, ?_⟩
  cases t with
  | false =>
    cases h5
    rw [if_neg (fun z => nomatch z)]
    exact (k.ext e13).val e3.ok rfl
  | true =>
    rw [if_pos rfl]
    obtain ⟨q, h6, h7⟩ := run1 (f := fun z => g y z) h5
    refine hc σ W3 F (st.ext e13) q h6 _ fun w' W4 F4 e4 _ _ r4 => ?_
    exact hr' W4 y q u w' z e4.ok (SP.mono _ (SP.mono _ r2.2 e3.b) e4.b) r4.2 h7 _ (k.ext (e13.trans e4))
end
end CC
set_option maxHeartbeats 4000000
/-! every second element of a tuple: t[::2], t[1::2]. -/
namespace CC
open PySem PySem.Spec L2
open PyProof.Rows hiding St
variable {α β γ δ τ υ ω ρ ε : Type}
def evL : List α → List α
  | [] => []
  | [x] => [x]
  | x :: _ :: xs => x :: evL xs
theorem evL_range : ∀ {l : List α}, (List.range ((l.length + 1) / 2)).filterMap (fun m => l[2 * m]?) = evL l
  | [] => by simp [evL]
  | [x] => by
    rw [show ([x].length + 1) / 2 = 1 by simp, show List.range 1 = [0] from rfl]
    rfl
  | x :: y :: l => by
    rw [show ((x :: y :: l).length + 1) / 2 = (l.length + 1) / 2 + 1 by simp only [List.length_cons]; omega, List.range_succ_eq_map, List.filterMap_cons, List.filterMap_map]
    show x :: _ = x :: evL l
    rw [← evL_range (l := l)]
    congr 1
theorem Each.ev {E : α → SP} {B : Hp} : ∀ {vs : List V} {xs : List α}, Each E B vs xs → Each E B (evL vs) (evL xs)
  | [], [], _ => trivial
  | [_], [_], h => h
  | _ :: _ :: vs, _ :: _ :: xs, h => ⟨h.1, Each.ev h.2.2⟩
theorem evL_map {f : α → β} : ∀ {l : List α}, evL (l.map f) = (evL l).map f
  | [] => rfl
  | [_] => rfl
  | x :: _ :: l => by
    show f x :: evL (l.map f) = f x :: (evL l).map f
    rw [evL_map]
theorem evL_len : ∀ {l : List α}, (evL l).length ≤ l.length
  | [] => Nat.le_refl _
  | [_] => Nat.le_refl _
  | x :: y :: l => by
    have := evL_len (l := l)
    show (evL l).length + 1 ≤ l.length + 1 + 1
    omega
section
variable {prog : Program} {w : World} {A : Around} {E : Value → Shared → Prop} {s : Shared}
theorem places_ev {n lo : Nat} (h : lo ≤ n) : Builtin.Slice.slicePlaces (lo : Int) (n : Int) 2 = (n - lo + 1) / 2 := by
  unfold Builtin.Slice.slicePlaces
  rw [if_pos (by decide)]
  split <;> omega
theorem pick_ev (xs : Array Value) {lo : Nat} (h : lo ≤ xs.size) : ((List.range ((xs.size - lo + 1) / 2)).filterMap fun (m : Nat) => xs[((lo : Int) + (m : Int) * 2).toNat]?).toArray = (evL (xs.toList.drop lo)).toArray := by
  congr 1
  rw [← evL_range, List.length_drop, Array.length_toList]
  refine fm_congr fun m _ => ?_
  rw [List.getElem?_drop, Array.getElem?_toList]
  congr 1
  omega
theorem sliceApplied_ev {sl : Addr} {vl vs : Value} {n lo : Nat} {o : Option Int} {Q : Int × Int × Nat → Shared → Prop} (hs : s.heap.IsSliceOf sl vl .none vs) (pl : IsPart vl o) (ps : IsPart vs (some 2)) (hlo : lo ≤ n) (ha : Builtin.Slice.sliceAdjust o none 2 (n : Int) = ((lo : Int), (n : Int)))
    (h : Q ((lo : Int), 2, (n - lo + 1) / 2) s) : wpAny (model prog w) A (Builtin.Slice.sliceApplied (.ref sl) (pure (n : Int))) Q E s := by
  obtain ⟨os, hos, hcs, hds⟩ := id hs
  unfold Builtin.Slice.sliceApplied Builtin.Slice.sliceFields
  refine wpAny_bind (wpAny_bind (wpAny_field hos hds (x := vl) rfl (wpAny_bind (wpAny_field hos hds (x := .none) rfl (wpAny_bind (wpAny_field hos hds (x := vs) rfl (wpAny_pure ?_)))))))
  refine wpAny_bind (HT.slicePart_ ps ?_)
  show wpAny _ _ (if ((2 : Int) == 0) = true then _ else _) _ _ s
  rw [if_neg (by decide)]
  refine wpAny_bind (HT.slicePart_ pl (wpAny_bind (slicePart_none (wpAny_bind (wpAny_pure ?_)))))
  show wpAny _ _ (match Builtin.Slice.sliceAdjust o none 2 (n : Int) with | (lo, hi) => pure (lo, (2 : Int), Builtin.Slice.slicePlaces lo hi 2)) _ _ s
  rw [ha]
  show wpAny _ _ (pure ((lo : Int), (2 : Int), Builtin.Slice.slicePlaces (lo : Int) (n : Int) 2)) _ _ s
  rw [places_ev hlo]
  exact wpAny_pure h
theorem getItem_tuple_ev {t sl : Addr} {items : Array Value} {vl vs : Value} {lo : Nat} {o : Option Int} {Q : Value → Shared → Prop} (ht : IsTup s.heap t items) (hs : s.heap.IsSliceOf sl vl .none vs) (pl : IsPart vl o) (ps : IsPart vs (some 2)) (hlo : lo ≤ items.size) (ha : Builtin.Slice.sliceAdjust o none 2 (items.size : Int) = ((lo : Int), (items.size : Int)))
    (h : Q (.ref s.heap.objs.size) { s with heap := s.heap.push { cls := .type "tuple", data := .seq (evL (items.toList.drop lo)).toArray } })
    (hsz : items.size ≤ sizeLine) : wpAny (model prog w) A (getItem (.ref t) (.ref sl)) Q E s := by
  have htake : sizeOk (.seq (evL (items.toList.drop lo)).toArray) := by
    show (evL (items.toList.drop lo)).toArray.size ≤ sizeLine
    rw [List.size_toArray]
    refine Nat.le_trans evL_len ?_
    rw [List.length_drop, Array.length_toList]
    omega
  obtain ⟨os, hos, hcs, hds⟩ := id hs
  have hTs : s.TypeIs (.ref sl) "slice" := ⟨os, hos, hcs⟩
  unfold getItem
  try with_reducible refine wpAny_holding ?_
  first | refine wpAny_bind (wpAny_pure ?_) | skip
  refine wpAny_bind (wpAny_sequenceKey ht.typeIs (by decide) ?_)
  refine wpAny_bind (wpAny_callSpecial?_slot (name := Str.ofString "__getitem__") ht.typeIs PyProof.Rows.slot_tuple_getitem
    (wpAny_call_entry PyProof.Rows.slot_tuple_getitem ht.typeIs entry_tuple_getitem ?_ (args_tuple_getitem _ _)))
  show wpAny _ _ (Builtin.Tuple.tupleItemsOf (.ref t) >>= _) _ _ s
  refine wpAny_bind (tupleItemsOf_ ht ?_)
  refine wpAny_bind (wpAny_typeOf hTs ?_)
  rw [if_pos (by decide)]
  refine wpAny_bind (sliceApplied_ev hs pl ps hlo ha ?_)
  have hno : ¬ (((lo : Int) == 0 && (2 : Int) == 1 && (items.size - lo + 1) / 2 == items.size) = true) := by
    rw [show ((2 : Int) == 1) = false from rfl, Bool.and_false, Bool.false_and]
    exact Bool.false_ne_true
  show wpAny _ _ (if ((lo : Int) == 0 && (2 : Int) == 1 && (items.size - lo + 1) / 2 == items.size) = true then _ else _) _ _ s
  rw [if_neg hno, pick_ev items hlo]
  first
    | exact wpAny_bind (m := Builtin.Tuple.tupleExact _) (wpAny_newObj_type (wpAny_pure ⟨_, rfl, wpAny_pure h⟩) htake)
    | exact wpAny_bind (m := Builtin.Tuple.tupleExact _) (wpAny_newObj_type (wpAny_bind (wpAny_pure (wpAny_pure ⟨_, rfl, wpAny_pure h⟩))) htake)
    | exact wpAny_bind (wpAny_bind (m := Builtin.Tuple.tupleExact _) (wpAny_newObj_type (wpAny_pure (wpAny_pure ⟨_, rfl, wpAny_pure h⟩)) htake))
    | exact wpAny_bind (wpAny_bind (m := Builtin.Tuple.tupleExact _) (wpAny_newObj_type (wpAny_pure ⟨_, rfl, wpAny_pure h⟩) htake))
end
theorem vals_ev : ∀ {xs : List V} {us : List Value}, Vals xs us → Vals (evL xs) (evL us)
  | _, _, .nil => .nil
  | _, _, .cons r .nil => .cons r .nil
  | _, _, .cons r (.cons _ t) => .cons r (vals_ev t)
def tEvT (K : PySem.W.Frag) (k : Nat) (te : TE) : TE := fun σ H Q => te σ H fun x H1 => ∃ a xs, x = .ref a ∧ SqT K H1 a xs ∧ ∀ p, H1 p = none → Q (.ref p) (upd H1 p (.tup (evL (xs.drop k))))
theorem pe_evT {X : Cx} {e : Expr} {te : TE} {lw : Option Expr} {tl : TO} {o : Option Int} {kk k : Nat} {p1 p3 pos : Pos} (he : PE X e te) (hl : PO X lw tl) (ho : ∀ σ H (Q : Option Int → Hp → Prop), Q o H → tl σ H Q) (ha : ∀ n : Nat, Builtin.Slice.sliceAdjust o none 2 (n : Int) = (((min kk n : Nat) : Int), (n : Int))) : PE X (.Subscript e (.Slice lw none (some (.Constant (.int 2) k p1)) p3) pos) (tEvT X.K kk te) := by
  refine ⟨fun pins s σ H Q I h => ?_⟩
  refine Subscript_ (thn (he.run pins s σ H _ I h) fun v s1 ⟨x, H1, I1, r1, q1⟩ => ?_)
  obtain ⟨a, xs, ex, hx, q⟩ := q1
  subst ex
  cases r1
  have hst : PO X (some (.Constant (.int 2) k p1)) (tPart (tC (.int 2))) := po_some pe_int
  refine wpAny_Slice (thn (hl.run pins s1 σ H1 (fun o' H2 => o' = o ∧ H2 = H1) I1 (ho _ _ _ ⟨rfl, rfl⟩)) fun vl s2 ⟨l, H2, I2, pl, el, e2⟩ => ?_)
  subst el e2
  refine thn (po_none.run pins s2 σ H2 (fun o H3 => o = none ∧ H3 = H2) I2 ⟨rfl, rfl⟩) fun vu s3 ⟨u, H3, I3, pu, eu, e3⟩ => ?_
  subst eu e3
  refine thn (hst.run pins s3 σ H3 (fun o H4 => o = some 2 ∧ H4 = H3) I3 ⟨2, rfl, rfl, rfl⟩) fun vs s4 ⟨o, H4, I4, ps, eo, e4⟩ => ?_
  subst eo e4
  have I5 : Inv X pins σ H4 { s4 with heap := s4.heap.push { cls := .type "slice", data := .fields #[vl, vu, vs] } } := I4.kept (t' := s4.toks) fun b ob q => Heap.get?_push_of_some _ q
  obtain ⟨its, r, ht, hz⟩ := I5.tuple hx
  have hlen := r.length
  cases pu
  show wpAny (model X.prog X.w) X.A (subscriptTail e (.Slice lw none (some (.Constant (.int 2) k p1)) p3) (.ref a) (.ref s4.heap.objs.size)) (EP X pins σ Q) X.xe { s4 with heap := s4.heap.push { cls := .type "slice", data := .fields #[vl, .none, vs] } }
  refine tail_any (ops := [.ref a, .ref s4.heap.objs.size]) ht.typeIs (PyProof.Rows.slot_tuple_getitem.lookup) ?_ (by with_unfolding_all rfl)
  refine getItem_tuple_ev (lo := min kk its.toArray.size) ht (Heap.IsSliceOf.new _ vl .none vs) pl ps (Nat.min_le_right _ _) (ha _) ?_ (by rw [List.size_toArray]; omega)
  refine ⟨.ref _, _, I5.laid (t' := s4.toks) (o := .tup (evL (xs.drop kk))) (fun b ob q => Heap.get?_push_of_some _ q) (Nat.le_refl _) ?_, rfl, q _ (I5.hok.fresh (Nat.le_refl _))⟩
  rw [show (its.toArray.toList.drop (min kk its.toArray.size)) = its.drop kk by
    rw [List.size_toArray]
    show its.drop _ = _
    by_cases h : kk ≤ its.length
    · rw [Nat.min_eq_left h]
    · rw [List.drop_eq_nil_of_le (by omega), List.drop_eq_nil_of_le (by omega)]]
  have hl1 := evL_len (l := xs.drop kk)
  rw [List.length_drop] at hl1
  exact ⟨by omega, _, vals_ev (r.drop kk), IsTup.new _ _⟩
theorem adj0 (n : Nat) : Builtin.Slice.sliceAdjust none none 2 (n : Int) = (((min 0 n : Nat) : Int), (n : Int)) := by
  rw [Nat.zero_min]
  rfl
theorem adj1 (n : Nat) : Builtin.Slice.sliceAdjust (some 1) none 2 (n : Int) = (((min 1 n : Nat) : Int), (n : Int)) := by
  show (min (1 : Int) (n : Int), (n : Int)) = _
  rw [show min (1 : Int) (n : Int) = ((min 1 n : Nat) : Int) by omega]
section
variable {S : Stc} {Γ : Ctx} {a : Expr} {pos : Pos} {E : α → SP} {m : Option (List α)} {k k' : Nat} {p1 p2 p3 : Pos}
theorem jn_ev0 (h : JN S a Γ m fun x => sh (tupS E x)) : JN S (.Subscript a (.Slice none none (some (.Constant (.int 2) k p1)) p3) pos) Γ (m.bind fun xs => some (evL xs)) (fun x => sh (tupS E x)) := fun σ W F sta z hz Q kq => by
  obtain ⟨x, h1, h2⟩ := run1 hz
  cases h2
  refine ⟨tEvT S.K 0 (tOf S a), fun X hX => hX.K ▸ pe_evT (peO hX) po_none (fun _ _ _ q => q) adj0, h σ W F sta x h1 _ fun v W' Fv ext _ _ r => ?_⟩
  obtain ⟨_, p, vs, rfl, q2, q3⟩ := r
  exact ⟨p, vs, rfl, .inl (.inl (ext.ok p _ q2)), (kq.ext ext).newT ext.ok q3.ev⟩
theorem jn_ev1 (h : JN S a Γ m fun x => sh (tupS E x)) : JN S (.Subscript a (.Slice (some (.Constant (.int 1) k' p2)) none (some (.Constant (.int 2) k p1)) p3) pos) Γ (m.bind fun xs => some (evL (xs.drop 1))) (fun x => sh (tupS E x)) := fun σ W F sta z hz Q kq => by
  obtain ⟨x, h1, h2⟩ := run1 hz
  cases h2
  refine ⟨tEvT S.K 1 (tOf S a), fun X hX => hX.K ▸ pe_evT (peO hX) (po_some pe_int) (fun _ _ _ q => ⟨1, rfl, q⟩) adj1, h σ W F sta x h1 _ fun v W' Fv ext _ _ r => ?_⟩
  obtain ⟨_, p, vs, rfl, q2, q3⟩ := r
  exact ⟨p, vs, rfl, .inl (.inl (ext.ok p _ q2)), (kq.ext ext).newT ext.ok (q3.drop 1).ev⟩
end
end CC
set_option maxHeartbeats 4000000
/-! sum of a tuple. -/
namespace CC
open PySem PySem.Spec L2
open PyProof.Rows hiding St
variable {α β γ δ τ υ ω ρ ε : Type}
section
variable {prog : Program} {w : World} {A : Around} {E : Value → Shared → Prop} {s : Shared} {l : Addr} {its : List Value} {ns : List Int} {Q : Value → Shared → Prop}
theorem sum_rawT (hh : A.handled = none) (hl : s.heap.IsTuple l its.toArray) (hi : IntsAre its ns)
    (h : ∀ h' tk t', (∀ b o, s.heap.get? b = some o → h'.get? b = some o) → Q (.int ns.sum t') { s with heap := h', toks := tk }) : wpAny (model prog w) A (call (.builtin "sum") [.ref l]) Q E s := by
  obtain ⟨xs, e⟩ := hi.allInts.items
  have hn : numsOf (intItems xs).toList = ns := by rw [← e]; exact hi.numsOf
  rw [nums_intItems] at hn
  rw [e] at hl
  refine PySem.W.ktm_sumG hh hl fun h' tk t' hk => ?_
  have := h h' tk t' hk
  rw [preSum_eq, List.take_of_length_le (by simp), hn]; exact this
end
def rSumT (K : PySem.W.Frag) : List V → Hp → VK → Prop := fun vs H Q => ∃ (a : Addr) (ns : List Int), vs = [V.ref a] ∧ SqT K H a (ns.map V.int) ∧ Q (.int ns.sum) H
theorem cr_sumT {X : Cx} (hc : X.calm = true) : CallR X (.builtin "sum") (rSumT X.K) := by
  intro pins s σ H vs us Q I r h
  obtain ⟨a, ns, rfl, hs, q⟩ := h
  obtain ⟨its, rv, hl, _⟩ := I.tuple hs
  rw [Vals.ref1 r]
  exact sum_rawT (I.ok.hd hc) hl rv.ints fun h' tk t' hk => ⟨.int _, H, I.kept hk, ⟨_, rfl⟩, q⟩
section
variable {S : Stc} {Γ : Ctx} {a : Expr} {pos : Pos}
theorem sum_tup {m : Option (List Int)} {p : Pos} (hm : S.mg "sum" = none) (h : JN S a Γ m fun x => sh (tupS intS x)) (hg : GlS S "sum" := by rfl) (hs : ∀ env, starEach [a] env = [(false, eval a env)] := by intro _; rfl) (hcm : S.calm = true := by rfl) : JN S (.Call (.Name "sum" p) [a] [] pos) Γ (m.bind fun x => some x.sum) fun z => sh (intS z) :=
  jn_b1 (f := fun x : List Int => some x.sum) (fun X hX => hX.K ▸ cr_sumT (hX.calm.trans hcm)) (fun W x v z ok hh e Q k => by
    cases e
    obtain ⟨a, vs, rfl, h2, h3⟩ := hh
    have e1 := each_flat fl_int h3
    subst e1
    exact ⟨a, x, rfl, .inl (.inl (ok a _ h2)), k.val ok rfl⟩) hm h hg (by decide +kernel) (by decide) (by decide) hs
end
end CC
set_option maxHeartbeats 4000000
/-! a dict of one pair; d.get(k, x). -/
namespace CC
open PySem PySem.Spec L2
open PyProof.Rows hiding St
variable {α β γ δ τ υ ω ρ ε κ : Type} [DecidableEq κ]
section
variable {S : Stc} {Γ : Ctx} {a b c e : Expr} {pos : Pos}
theorem jn_d1 {kE : κ → SP} {kk : κ → Key} {E : α → SP} {ma : Option κ} {mv : Option α} (K : KeyE kE kk) (ha : JN S a Γ ma fun k => sh (kE k)) (he : JN S e Γ mv fun x => sh (E x)) : JN S (.Dict [some a] [e] pos) Γ (ma.bind fun k => mv.bind fun x => some [(k, x)]) (dkO kk E) := fun σ W F sta z hz Q kq => by
  obtain ⟨k, x, m1, m2, m3⟩ := run2 hz
  cases m3
  refine ⟨tDisp [(tOf S a, tOf S e)], fun X hX => pe_disp (pps_cons (peO hX) (peO hX) pps_nil) rfl rfl (fun z => nomatch z) (Nat.le_of_ble_eq_true rfl), fun p hp => ?_⟩
  have e1 : Ext W ⟨upd W.H p (.dK []), W.B⟩ := Ext.new sta.ok hp
  show tOf S a σ (upd W.H p (.dK [])) _
  refine ha σ ⟨upd W.H p (.dK []), W.B⟩ F (sta.ext e1) k m1 _ fun u W1 F1 e2 _ _ r1 => he σ W1 F (sta.ext (e1.trans e2)) x m2 _ fun v W2 F2 e3 _ _ r2 => ?_
  have e23 : Ext ⟨upd W.H p (.dK []), W.B⟩ W2 := e2.trans e3
  have hp2 : W2.H p = some (.dK []) := e23.h p _ upd_same
  have ek := K.eq r1.2
  subst ek
  refine ⟨hp2, [(kk k, v)], rfl, Nat.le_of_ble_eq_true rfl, ?_⟩
  show Q (.ref p) (upd W2.H p (.dK [(kk k, v)]))
  have hB : W2.B p = none := e23.fr p (by show upd W.H p (.dK []) p ≠ none; rw [upd_same]; exact fun z => nomatch z) (sta.ok.back hp)
  have e3 : Ext W ⟨upd W2.H p (.dK [(kk k, v)]), W2.B⟩ := by
    refine ⟨wr_ok e3.ok hB, fun a o h => ?_, (e1.trans e23).b, fun a h3 h4 => ?_⟩
    · have na : a ≠ p := fun z => by rw [z, hp] at h; cases h
      show upd W2.H p _ a = _
      rw [upd_ne na]
      exact (e1.trans e23).h a o h
    · exact (e1.trans e23).fr a h3 h4
  have fp3 : FpOk ⟨upd W2.H p (.dK [(kk k, v)]), W2.B⟩ [p] := by
    refine ⟨List.nodup_cons.mpr ⟨by simp, List.nodup_nil⟩, fun a ha => ?_, fun a ha => ?_⟩
    · rw [List.mem_singleton.mp ha]
      show upd W2.H p _ p ≠ none
      rw [upd_same]
      exact fun z => nomatch z
    · rw [List.mem_singleton.mp ha]
      exact hB
  exact kq (.ref p) _ [p] e3 (fun a ha => by rw [List.mem_singleton.mp ha]; exact hp) fp3 ⟨p, _, rfl, upd_same, rfl, rfl, r2.2, trivial⟩
theorem jn_dget2 {apos : Pos} {kE : κ → SP} {kk : κ → Key} {E : α → SP} {R : List (κ × α) → OP} {ma : Option κ} {mb : Option (List (κ × α))} {mc : Option α} (K : KeyE kE kk) (D : DRd kk E R) (hb : JR S b Γ mb R) (ha : JN S a Γ ma fun k => sh (kE k)) (hc : JN S c Γ mc fun x => sh (E x)) (hbase : ∀ env, attributeBase b "get" env (eval b env) = eval b env := by intro _; rfl)
    (hf : ∀ env, ((backTo pos (starEach [a, c] env)).all (fun x => !x.1) && (backToKw pos (keywordEach [] env)).all (fun x => x.1.isSome) && decide (([a, c] : List Expr).length + ([] : List Keyword).length + (if ([] : List Keyword).isEmpty then 0 else 1) < 30)) = true := by intro _; rfl) (hline : (apos.endLine == pos.line) = true := by rfl) (htr : ∀ env, backTo pos (starEach [a, c] env) = [(false, eval a env), (false, eval c env)] := by intro _; rfl) :
    JN S (.Call (.Attribute b "get" apos) [a, c] [] pos) Γ (mb.bind fun s => ma.bind fun k => mc.bind fun x => some ((getM s k).getD x)) fun z => sh (E z) := fun σ W F st z hz Q kq => by
  obtain ⟨s, m1, hz⟩ := run1 hz
  obtain ⟨k, x, m2, m3, m4⟩ := run2 hz
  cases m4
  refine ⟨tDGet2 (tOf S b) (tOf S a) (tOf S c), fun X hX => pe_dget2 (by have := hX.un; omega) (peO hX) (peO hX) (peO hX) ⟨hbase _, hf _, hline, htr _⟩, ?_⟩
  refine hb σ W F st s m1 _ fun u W1 e1 ⟨F2, r2, al⟩ => ?_
  obtain ⟨p0, r0, eu, h0, _⟩ := D W1 s u F2 e1.ok r2
  refine ⟨p0, eu, ?_, ha σ W1 F (st.ext e1) k m2 _ fun v W2 F1 e2 _ _ r1 => hc σ W2 F (st.ext (e1.trans e2)) x m3 _ fun d W3 F3 e3 _ _ r3 => ?_⟩
  · exact .inl ⟨r0, .inl h0⟩
  have r2' : (R s).C W3 u F2 := OP.loc _ r2 (e2.trans e3).b fun x hx => (e2.trans e3).h.eq (al x hx)
  obtain ⟨p, r, rfl, h2, h3⟩ := D W3 s u F2 e3.ok r2'
  cases eu
  have ek := K.eq r1.2
  subst ek
  have g := h3.get K k
  have kx := (kq.ext ((e1.trans e2).trans e3))
  refine ⟨valV r (kk k), DGet.k h2, ?_⟩
  cases hg : getM s k with
  | none =>
    rw [hg] at g
    simp only at g
    rw [g]
    exact (hg ▸ kx).val e3.ok r3.2
  | some y =>
    rw [hg] at g
    obtain ⟨w, g1, g2⟩ := g
    rw [g1]
    exact (hg ▸ kx).val e3.ok g2
end
end CC
set_option maxHeartbeats 4000000
/-! dict comprehensions: keys ints (texts), values shared. -/
namespace CC
open PySem PySem.Spec L2
open PyProof.Rows hiding St
variable {α β γ δ τ υ ω ρ ε κ : Type} [DecidableEq κ]
def dcGo (t : α → Option Bool) (fk : α → Option κ) (fv : α → Option β) : List α → List (κ × β) → Option (List (κ × β))
  | [], s => some s
  | x :: xs, s => (t x).bind fun b => bif b then (fk x).bind fun k => (fv x).bind fun v => dcGo t fk fv xs (putM s k v) else dcGo t fk fv xs s
def dcM (t : α → Option Bool) (fk : α → Option κ) (fv : α → Option β) (xs : List α) : Option (List (κ × β)) := if xs.length ≤ LIM then dcGo t fk fv xs [] else none
theorem putR_len (k : κ) (x : β) : ∀ s : List (κ × β), (putR s k x).length = s.length
  | [] => rfl
  | q :: s => by
    unfold putR
    rw [List.length_cons, List.length_cons, putR_len k x s]
theorem putM_len (s : List (κ × β)) (k : κ) (x : β) : (putM s k x).length ≤ s.length + 1 := by
  unfold putM
  split
  · rw [putR_len]; omega
  · rw [List.length_append, List.length_singleton]; omega
section
variable {S : Stc} {Γ Δ : Ctx} {a b c e tg iter kx vx : Expr} {es ifs : List Expr} {pos : Pos}
theorem jn_dc {scope : Scope} {mi : Option (List α)} {E : α → SP} {up : α → Ctx → Ctx} {ws : List Nat} {mt : α → Option Bool} {mk : α → Option κ} {mv : α → Option β} {kE : κ → SP} {kk : κ → Key} {G : β → SP} (K : KeyE kE kk) (own : List (Str × Nat)) (nd : S.N.Nodup) (hi : JIc S tg iter Γ mi E) (ok : blkC S.N S.sc scope own = true) (hg : JG (S.blk scope) tg E up ws)
    (hw : ∀ i ∈ ws, i ∈ own.map (·.2)) (hl : ∀ i ∈ ws, i < Γ.length) (ht : ∀ x, JTs (S.blk scope) ifs (up x (wipeC Γ (own.map (·.2)))) (mt x)) (hk : ∀ x, JN (S.blk scope) kx (up x (wipeC Γ (own.map (·.2)))) (mk x) fun k => sh (kE k)) (hv : ∀ x, JN (S.blk scope) vx (up x (wipeC Γ (own.map (·.2)))) (mv x) fun y => sh (G y))
    (hs : ∀ env x, foldedSetIterable iter env x = pure x := by intro _ _; rfl) (hcm : S.calm = true := by rfl) :
    JN S (.DictComp kx vx [⟨tg, iter, ifs, 0⟩] scope pos) Γ (mi.bind fun xs => dcM mt mk mv xs) (dkO kk G) := fun σ W F st zs hx Q kq => by
  refine ⟨tDc (tiOf S tg iter) (tgOf (S.blk scope) tg) (ttsOf (S.blk scope) ifs) (tOf (S.blk scope) kx) (tOf (S.blk scope) vx) (own.map (·.2)), fun X hX => pe_dc (hX.calm.trans hcm) (by rw [hX.N]; exact nd) (piO hX) (by rw [hX.N, hX.sc]; exact blkOk_by ok) (fun s H C cl fp => pgO (hX.blk scope s H C cl fp)) (fun s H C cl fp => ptsO (hX.blk scope s H C cl fp)) (fun s H C cl fp => peO (hX.blk scope s H C cl fp)) (fun s H C cl fp => peO (hX.blk scope s H C cl fp)) (hs _), ?_⟩
  obtain ⟨xs, h1, h2⟩ := run1 hx
  unfold dcM at h2
  split at h2
  · rename_i hlen
    refine hi σ W F st xs h1 _ fun J W' ext iok => fun D hD => ?_
    have st' := st.ext ext
    refine ⟨fun i m H => m = xs.length - i ∧ i ≤ xs.length ∧ ∃ (W1 : Wd) (r : List (Key × V)) (s : List (κ × β)), W1.H = H ∧ Ext W' W1 ∧ W1.H D = some (.dK r) ∧ W1.B D = none ∧ s.length ≤ i ∧ dcGo mt mk mv (xs.drop i) s = some zs ∧ DRel kk G W1.B r s,
      ⟨xs.length, by simp, Nat.zero_le _, ⟨upd W'.H D (.dK []), W'.B⟩, [], [], rfl, Ext.new ext.ok hD, upd_same, ext.ok.back hD, Nat.le_refl _, by simpa using h2, DRel.nil⟩, ?_⟩
    rintro i m H ⟨rfl, hi', W1, r, s, rfl, e1, d1, d2, la, c1, o1⟩
    obtain ⟨iok1, iok2⟩ := iok W1 e1
    by_cases hlt : i < xs.length
    · obtain ⟨g1, g2⟩ := iok1 i xs[i] (List.getElem?_eq_getElem hlt)
      refine .inr ⟨g1, fun H' => ∃ m', m' < xs.length - i ∧ (m' = xs.length - (i + 1) ∧ i + 1 ≤ xs.length ∧ ∃ (W1 : Wd) (r : List (Key × V)) (s : List (κ × β)), W1.H = H' ∧ Ext W' W1 ∧ W1.H D = some (.dK r) ∧ W1.B D = none ∧ s.length ≤ i + 1 ∧ dcGo mt mk mv (xs.drop (i + 1)) s = some zs ∧ DRel kk G W1.B r s), fun H' h => h, fun v H' y => ?_⟩
      obtain ⟨W2, rfl, e2, p2⟩ := g2 v H' y
      have hDrop : xs.drop i = xs[i] :: xs.drop (i + 1) := List.drop_eq_getElem_cons hlt
      rw [hDrop] at c1
      obtain ⟨b, t1, t2⟩ := run1 (f := fun b => bif b then (mk xs[i]).bind fun k => (mv xs[i]).bind fun v => dcGo mt mk mv (xs.drop (i + 1)) (putM s k v) else dcGo mt mk mv (xs.drop (i + 1)) s) c1
      obtain ⟨Fw, sw, subw⟩ := (st'.ext (e1.trans e2)).wipe (own.map (·.2))
      refine hg _ _ W2 Fw xs[i] v sw (fun j hj => by rw [wipeC_len]; exact hl j hj) p2 _ fun σ2 F2 wp _ s2 sub2 => ⟨?_, ?_⟩
      · rw [wp _ hw]
        exact jc_of.wipe_wipe σ (own.map (·.2))
      refine ht xs[i] σ2 W2 F2 s2 b t1 _ fun W3 e3 => ?_
      have eAll : Ext W1 W3 := e2.trans e3
      cases b with
      | true =>
        obtain ⟨k1, v1, t3, t4, t5⟩ := run2 (f := fun k v => dcGo mt mk mv (xs.drop (i + 1)) (putM s k v)) t2
        refine iteT (hk xs[i] σ2 W3 F2 (s2.ext e3) k1 t3 _ fun u W4 Fu e4 _ _ r4 => hv xs[i] σ2 W4 F2 ((s2.ext e3).ext e4) v1 t4 _ fun y W5 Fy e5 _ _ r5 => ?_)
        have eA : Ext W1 W5 := (eAll.trans e4).trans e5
        have hD5 : W5.H D = some (.dK r) := eA.h D _ d1
        have hB5 : W5.B D = none := eA.fr D (by rw [d1]; exact fun z => nomatch z) d2
        have ek := K.eq r4.2
        subst ek
        have hr : r.length < LIM := by
          have := o1.len
          omega
        refine ⟨r, kk k1, rfl, hD5, lim_lt hr, xs.length - (i + 1), by omega, rfl, hlt, ⟨upd W5.H D (.dK (putK r (kk k1) y)), W5.B⟩, putK r (kk k1) y, putM s k1 v1, rfl, ?_, upd_same, hB5, ?_, t5, ?_⟩
        · have q := e1.trans eA
          refine ⟨fun a o h => ?_, fun a o h => ?_, q.b, q.fr⟩
          · have z : a ≠ D := fun z => by
              rw [z] at h
              rw [show W5.B D = some o from h] at hB5
              cases hB5
            show upd W5.H D _ a = some o
            rw [upd_ne z]
            exact q.ok a o h
          · show upd W5.H D _ a = some o
            rw [upd_ne (ne_of_none h hD)]
            exact q.h a o h
        · have := putM_len s k1 v1
          omega
        · exact (o1.mono eA.b).put K r5.2
      | false =>
        exact iteF ⟨xs.length - (i + 1), by omega, rfl, hlt, W3, r, s, rfl, e1.trans eAll, eAll.h D _ d1, eAll.fr D (by rw [d1]; exact fun z => nomatch z) d2, by omega, t2, o1.mono eAll.b⟩
    · have ei : i = xs.length := by omega
      subst ei
      rw [List.drop_length] at c1
      cases c1
      refine .inl ⟨iok2 _ (Nat.le_refl _), kq (.ref D) W1 [D] (ext.trans e1) (fun a ha => ?_) ⟨?_, fun a ha => ?_, fun a ha => ?_⟩ ⟨D, r, rfl, d1, rfl, o1⟩⟩
      · rw [List.mem_singleton.mp ha]; exact ext.h.back hD
      · exact List.nodup_cons.mpr ⟨List.not_mem_nil, List.nodup_nil⟩
      · rw [List.mem_singleton.mp ha, d1]; exact fun z => nomatch z
      · rw [List.mem_singleton.mp ha]; exact d2
  · cases h2
theorem swD_cell {k v : Expr} {gs : List Comprehension} {scope : Scope} {pos py : Pos} {y : Str} {l : Nat} {env : Env} (hy : env.scope.names.lookup y = some .cell) : swapsWith (.DictComp k v gs scope pos) (some (.Name y py)) l env = pure false := by
  have ky : env.kindOf y = some .cell := hy
  unfold swapsWith
  simp only [ky]
  cases env.blockKind == ScopeKind.function <;> rfl
theorem swD_true {k v : Expr} {gs : List Comprehension} {scope : Scope} {pos py : Pos} {y : Str} {l : Nat} {env : Env} (hk : env.scope.kind = .function) (hy : env.scope.names.lookup y = some .local) (hl : (py.line == pos.line) = true)
    (ha : (scope.names.any fun (n, k) => n == y && (k == .local || k == .cell)) = false) : swapsWith (.DictComp k v gs scope pos) (some (.Name y py)) l env = pure true := by
  have ky : env.kindOf y = some .local := hy
  have hb : env.blockKind = .function := by unfold Env.blockKind; rw [hk]; rfl
  unfold swapsWith
  simp only [hb, ky, ha, Expr.pos, hl]
  rfl
theorem js_setDcC {x : Str} {py spos pos : Pos} {k v : Expr} {gs : List Comprehension} {scope : Scope} {m : Option α} {R : α → OP} (i : Nat) (nd : S.N.Nodup) (h : JN S (.DictComp k v gs scope pos) Γ m R) (hi : (Γ[i]?).isSome = true := by rfl) (hN : S.N[i]? = some x := by rfl) (hx : S.sc.names.lookup x = some .cell := by rfl) (hp : (S.prot.contains i) = false := by rfl) (hf : S.fn x = true := by rfl) :
    JS S (.Assign [.Name x py] (.DictComp k v gs scope pos) spos) Γ m fun a => .nx (Γ.set i (some (R a))) := fun σ W F sta y hy E k => by
  refine ⟨tAsg (tOf S _) (gName i), fun X hX => ps_set (by rw [hX.N]; exact nd) (by rw [hX.N]; exact hN) (locS (.inr hx) hX) (peO hX) (swD_cell (by rw [hX.sc]; exact hx)) (by rw [hX.fn]; exact .inl hf), h σ W F sta y hy _ fun v W' Fv ext fr fp r => ?_⟩
  obtain ⟨F', s', stp⟩ := sta_set sta ext fr fp r hi
  exact k _ W' F' (Keep.set (ncon hp)) stp s'
/-- in d, as a test -/
theorem jt_din {kE : κ → SP} {kk : κ → Key} {E : β → SP} {R : List (κ × β) → OP} {ma : Option κ} {mb : Option (List (κ × β))} (K : KeyE kE kk) (D : DRd kk E R) (ha : JN S a Γ ma fun k => sh (kE k)) (hb : JR S b Γ mb R) (h1 : behindInMarks .In b = false := by first | exact nobehind _ (by decide) (by decide) | rfl) :
    JT S (.Compare a [.In] [b] pos) Γ (ma.bind fun k => mb.bind fun s => some (getM s k).isSome) := fun σ W F st z hz Q kq => by
  obtain ⟨k, s, m1, m2, m3⟩ := run2 hz
  cases m3
  refine ⟨tB (tDIn (tOf S a) (tOf S b)), fun X hX => pt_cmp (pc_din (by have := hX.un; omega) (peO hX) (peO hX)) h1, ?_⟩
  refine ha σ W F st k m1 _ fun v W1 F1 e1 _ _ r1 => hb σ W1 F (st.ext e1) s m2 _ fun u W2 e2 ⟨F2, r2, _⟩ => ?_
  obtain ⟨p, r, rfl, h2, h3⟩ := D W2 s u F2 e2.ok r2
  have ek := K.eq r1.2
  subst ek
  refine ⟨p, _, rfl, DGet.k h2, ?_⟩
  have g := h3.get K k
  have e : (valV r (kk k)).isSome = (getM s k).isSome := by
    cases q : getM s k with
    | none => rw [q] at g; rw [g]; rfl
    | some y =>
      rw [q] at g
      obtain ⟨u, g, _⟩ := g
      rw [g]
      rfl
  exact ⟨_, rfl, e ▸ kq _ (e1.trans e2)⟩
theorem jt_dnin {kE : κ → SP} {kk : κ → Key} {E : β → SP} {R : List (κ × β) → OP} {ma : Option κ} {mb : Option (List (κ × β))} (K : KeyE kE kk) (D : DRd kk E R) (ha : JN S a Γ ma fun k => sh (kE k)) (hb : JR S b Γ mb R) (h1 : behindInMarks .NotIn b = false := by first | exact nobehind _ (by decide) (by decide) | rfl) :
    JT S (.Compare a [.NotIn] [b] pos) Γ (ma.bind fun k => mb.bind fun s => some (!(getM s k).isSome)) := fun σ W F st z hz Q kq => by
  obtain ⟨k, s, m1, m2, m3⟩ := run2 hz
  cases m3
  refine ⟨tB (tDNotIn (tOf S a) (tOf S b)), fun X hX => pt_cmp (pc_dnotin (by have := hX.un; omega) (peO hX) (peO hX)) h1, ?_⟩
  refine ha σ W F st k m1 _ fun v W1 F1 e1 _ _ r1 => hb σ W1 F (st.ext e1) s m2 _ fun u W2 e2 ⟨F2, r2, _⟩ => ?_
  obtain ⟨p, r, rfl, h2, h3⟩ := D W2 s u F2 e2.ok r2
  have ek := K.eq r1.2
  subst ek
  refine ⟨p, _, rfl, DGet.k h2, ?_⟩
  have g := h3.get K k
  have e : (valV r (kk k)).isSome = (getM s k).isSome := by
    cases q : getM s k with
    | none => rw [q] at g; rw [g]; rfl
    | some y =>
      rw [q] at g
      obtain ⟨u, g, _⟩ := g
      rw [g]
      rfl
  exact ⟨_, rfl, e ▸ kq _ (e1.trans e2)⟩
end
end CC
set_option maxHeartbeats 1000000
/-! Plain laws of the mirrors' words: when they give something, and what. -/
namespace CC
open PySem PySem.Spec L2
open PyProof.Rows hiding St
variable {α β γ δ τ υ ω ρ : Type}
def Ok (m : Option α) (P : α → Prop) : Prop := ∃ x, m = some x ∧ P x
theorem Ok.one {P : α → Prop} {x : α} (h : P x) : Ok (some x) P := ⟨x, rfl, h⟩
theorem Ok.bind {m : Option α} {f : α → Option β} {P : α → Prop} {Q : β → Prop} (h : Ok m P) (k : ∀ x, P x → Ok (f x) Q) : Ok (m.bind f) Q := by
  obtain ⟨x, rfl, hx⟩ := h
  exact k x hx
theorem Ok.mono {m : Option α} {P Q : α → Prop} (h : Ok m P) (k : ∀ x, P x → Q x) : Ok m Q := by
  obtain ⟨x, rfl, hx⟩ := h
  exact ⟨x, rfl, k x hx⟩
theorem Ok.eq {m : Option α} {x : α} (h : m = some x) : Ok m (· = x) := ⟨x, h, rfl⟩
theorem Ok.of_eq {m : Option α} {x : α} {P : α → Prop} (h : m = some x) (p : P x) : Ok m P := ⟨x, h, p⟩
theorem Ok.eq_some {m : Option α} {x : α} (h : Ok m (· = x)) : m = some x := by
  obtain ⟨y, e, rfl⟩ := h
  exact e
theorem Ok.bif {b : Bool} {m n : Option α} {P : α → Prop} (h : b = true → Ok m P) (k : b = false → Ok n P) : Ok (bif b then m else n) P := by
  cases b with
  | true => exact h rfl
  | false => exact k rfl
theorem bind_eta (m : Option (α × β)) : (m.bind fun r => some (r.1, r.2)) = m := by cases m <;> rfl
theorem bind_id (m : Option α) : (m.bind fun r => some r) = m := by cases m <;> rfl
theorem bassoc (m : Option α) (f : α → Option β) (g : β → Option γ) : (m.bind f).bind g = m.bind fun x => (f x).bind g := by cases m <;> rfl
theorem bif_bind (b : Bool) (m n : Option α) (f : α → Option β) : (bif b then m else n).bind f = bif b then m.bind f else n.bind f := by cases b <;> rfl
theorem run_eq {m : Option α} {f : α → Option β} {x : α} (h : m = some x) : m.bind f = f x := by rw [h]; rfl
/-! ### numbers -/
theorem mulO_l {x y : Int} (h1 : -(2 ^ 64) < x) (h2 : x < 2 ^ 64) : mulO x y = some (x * y) := by
  unfold mulO
  rw [if_pos (.inl ⟨h1, h2⟩)]
theorem mulO_r {x y : Int} (h1 : -(2 ^ 64) < y) (h2 : y < 2 ^ 64) : mulO x y = some (x * y) := by
  unfold mulO
  rw [if_pos (.inr ⟨h1, h2⟩)]
theorem divO_eq {x y : Int} (h1 : 0 < y) (h2 : y < 1073741824) : divO x y = some (x / y) := by
  unfold divO
  rw [if_pos ⟨h1, h2⟩]
theorem modO_eq {x y : Int} (h1 : 0 < y) : modO x y = some (x % y) := by
  unfold modO
  rw [if_pos h1]
theorem mod_lo (x : Int) {y : Int} (h : 0 < y) : 0 ≤ x % y := Int.emod_nonneg x (by omega)
theorem mod_hi (x : Int) {y : Int} (h : 0 < y) : x % y < y := Int.emod_lt_of_pos x h
/-! ### ranges -/
def rl (n : Nat) : List Int := (List.range n).map fun i : Nat => (i : Int)
theorem rl_len (n : Nat) : (rl n).length = n := by unfold rl; rw [List.length_map, List.length_range]
theorem rl_get {n k : Nat} (h : k < n) : (rl n)[k]? = some (k : Int) := by
  unfold rl
  rw [List.getElem?_map, List.getElem?_range h]
  rfl
theorem rl_mem {n : Nat} {x : Int} : x ∈ rl n ↔ ∃ k : Nat, k < n ∧ x = (k : Int) := by
  unfold rl
  rw [List.mem_map]
  constructor
  · rintro ⟨k, h, rfl⟩
    exact ⟨k, List.mem_range.mp h, rfl⟩
  · rintro ⟨k, h, rfl⟩
    exact ⟨k, List.mem_range.mpr h, rfl⟩
theorem rl_succ (n : Nat) : rl (n + 1) = rl n ++ [(n : Int)] := by
  unfold rl
  rw [List.range_succ, List.map_append]
  rfl
theorem rl_nodup (n : Nat) : (rl n).Nodup := by
  unfold rl
  refine (List.pairwise_map).mpr ?_
  exact List.Pairwise.imp (fun h e => h (by omega)) (List.nodup_range (n := n))
theorem rng_nat {n : Nat} (h : n ≤ LIM) : rng 0 (n : Int) = some (rl n) := by
  have hl : (LIM : Int) = 1000000 := rfl
  have h' : n ≤ 1000000 := h
  unfold rng rl
  rw [if_pos (by rw [hl]; omega)]
  rw [show ((n : Int) - 0).toNat = n by omega]
  congr 1
  exact List.map_congr_left fun i _ => by omega
theorem rng_int {z : Int} (h0 : 0 ≤ z) (h : z ≤ 1000000) : rng 0 z = some (rl z.toNat) := by
  have : rng 0 ((z.toNat : Nat) : Int) = some (rl z.toNat) := rng_nat (by show z.toNat ≤ 1000000; omega)
  rw [← this]
  congr 1
  omega
/-! ### looks and stores -/
theorem ixN_nat {n k : Nat} (h : k < n) : ixN n (k : Int) = some k := by
  unfold ixN
  rw [if_pos (by omega), if_pos (by omega), Int.toNat_natCast]
theorem ixN_int {n : Nat} {z : Int} (h0 : 0 ≤ z) (h : z < n) : ixN n z = some z.toNat := by
  unfold ixN
  rw [if_pos h0, if_pos h]
theorem atI_nat {xs : List α} {k : Nat} (h : k < xs.length) : atI xs (k : Int) = some xs[k] := by
  unfold atI
  rw [ixN_nat h]
  exact List.getElem?_eq_getElem h
theorem atI_nat? {xs : List α} {k : Nat} {x : α} (h : xs[k]? = some x) : atI xs (k : Int) = some x := by
  obtain ⟨h1, rfl⟩ := List.getElem?_eq_some_iff.mp h
  exact atI_nat h1
theorem atI_ok {xs : List α} {z : Int} {P : α → Prop} (h0 : 0 ≤ z) (h : z < xs.length) (hP : ∀ (k : Nat) x, xs[k]? = some x → (k : Int) = z → P x) : Ok (atI xs z) P := by
  obtain ⟨k, rfl⟩ := Int.eq_ofNat_of_zero_le h0
  have hk : k < xs.length := by omega
  exact ⟨xs[k], atI_nat hk, hP k _ (List.getElem?_eq_getElem hk) rfl⟩
theorem atI_mem {xs : List α} {z : Int} (h0 : 0 ≤ z) (h : z < xs.length) : Ok (atI xs z) fun x => x ∈ xs := atI_ok h0 h fun k x e _ => List.mem_of_getElem? e
theorem setAt_nat {xs : List α} {k : Nat} {x : α} (h : k < xs.length) : setAt xs (k : Int) x = some (xs.set k x) := by
  unfold setAt
  rw [ixN_nat h]
  rfl
theorem appM_eq {xs : List α} {x : α} (h : xs.length < 1000000) : appM xs x = some (xs ++ [x]) := by
  unfold appM
  rw [if_pos (show xs.length < LIM from h)]
theorem catM_eq {xs ys : List α} (h : xs.length + ys.length ≤ 1000000) : catM xs ys = some (xs ++ ys) := by
  unfold catM
  rw [if_pos (show xs.length + ys.length ≤ LIM from h)]
theorem popAt_ok {xs : List α} {z : Int} (h0 : 0 ≤ z) (h : z < xs.length) (hl : xs.length ≤ 1000000) : Ok (popAt xs z) fun r => xs.Perm (r.1 :: r.2) ∧ r.2.length + 1 = xs.length := by
  obtain ⟨k, rfl⟩ := Int.eq_ofNat_of_zero_le h0
  have hk : k < xs.length := by omega
  have e : popAt xs (k : Int) = some (xs[k], xs.eraseIdx k) := by
    unfold popAt
    rw [if_pos ⟨h0, hl⟩, Int.toNat_natCast, List.getElem?_eq_getElem hk]
    rfl
  refine ⟨_, e, ?_, ?_⟩
  · show xs.Perm (xs[k] :: xs.eraseIdx k)
    rw [List.eraseIdx_eq_take_drop_succ]
    have e : xs = xs.take k ++ xs[k] :: xs.drop (k + 1) := by rw [← List.drop_eq_getElem_cons hk, List.take_append_drop]
    exact (List.Perm.of_eq e).trans List.perm_middle
  · show (xs.eraseIdx k).length + 1 = _
    rw [List.length_eraseIdx_of_lt hk]
    omega
/-! ### walks -/
inductive F2 {α β : Type} (P : α → β → Prop) : List α → List β → Prop
  | nil : F2 P [] []
  | cons {x y xs ys} : P x y → F2 P xs ys → F2 P (x :: xs) (y :: ys)
theorem mapGo_eq {f : α → Option β} {g : α → β} : ∀ {xs : List α}, (∀ x ∈ xs, f x = some (g x)) → mapGo f xs = some (xs.map g)
  | [], _ => rfl
  | x :: xs, h => by
    show (f x).bind _ = _
    rw [h x List.mem_cons_self, sb, mapGo_eq fun y hy => h y (List.mem_cons_of_mem _ hy)]
    rfl
theorem mapM_is {f : α → Option β} {g : α → β} {xs : List α} (hl : xs.length ≤ 1000000) (h : ∀ x ∈ xs, f x = some (g x)) : mapM f xs = some (xs.map g) := by
  unfold mapM
  rw [if_pos (show xs.length ≤ LIM from hl), mapGo_eq h]
theorem mapGo_ok {f : α → Option β} {P : α → β → Prop} : ∀ {xs : List α}, (∀ x ∈ xs, Ok (f x) (P x)) → Ok (mapGo f xs) fun ys => F2 P xs ys
  | [], _ => .one .nil
  | x :: xs, h => .bind (h x List.mem_cons_self) fun y hy => .bind (mapGo_ok fun z hz => h z (List.mem_cons_of_mem _ hz)) fun ys hys => .one (.cons hy hys)
theorem mapM_ok {f : α → Option β} {P : α → β → Prop} {xs : List α} (hl : xs.length ≤ 1000000) (h : ∀ x ∈ xs, Ok (f x) (P x)) : Ok (mapM f xs) fun ys => F2 P xs ys := by
  unfold mapM
  rw [if_pos (show xs.length ≤ LIM from hl)]
  exact mapGo_ok h
theorem f2_len {P : α → β → Prop} {xs : List α} {ys : List β} (h : F2 P xs ys) : ys.length = xs.length := by
  induction h with
  | nil => rfl
  | cons _ _ ih => rw [List.length_cons, List.length_cons, ih]
theorem f2_get {P : α → β → Prop} {xs : List α} {ys : List β} (h : F2 P xs ys) : ∀ {k : Nat} {y : β}, ys[k]? = some y → ∃ x, xs[k]? = some x ∧ P x y := by
  induction h with
  | nil => intro k y e; simp at e
  | @cons a b as bs hab _ ih =>
    intro k y e
    cases k with
    | zero =>
      have : b = y := by simpa using e
      subst this
      exact ⟨a, rfl, hab⟩
    | succ k =>
      obtain ⟨x, h1, h2⟩ := ih (k := k) (by simpa using e)
      exact ⟨x, by simpa using h1, h2⟩
theorem f2_mem {P : α → β → Prop} {xs : List α} {ys : List β} (h : F2 P xs ys) {y : β} (hy : y ∈ ys) : ∃ x, x ∈ xs ∧ P x y := by
  obtain ⟨k, hk⟩ := List.mem_iff_getElem?.mp hy
  obtain ⟨x, h1, h2⟩ := f2_get h hk
  exact ⟨x, List.mem_of_getElem? h1, h2⟩
/-- over a range -/
theorem mapR_ok {f : Int → Option β} {P : Nat → β → Prop} {n : Nat} (hl : n ≤ 1000000) (h : ∀ k < n, Ok (f (k : Int)) (P k)) : Ok (mapM f (rl n)) fun ys => ys.length = n ∧ ∀ k y, ys[k]? = some y → P k y := by
  refine (mapM_ok (P := fun x y => ∀ k : Nat, x = (k : Int) → P k y) (by rw [rl_len]; exact hl) fun x hx => ?_).mono fun ys hy => ⟨by rw [f2_len hy, rl_len], fun k y e => ?_⟩
  · obtain ⟨k, hk, rfl⟩ := rl_mem.mp hx
    refine (h k hk).mono fun y hy j e => ?_
    have : k = j := by omega
    exact this ▸ hy
  · obtain ⟨x, h1, h2⟩ := f2_get hy e
    have hk : k < n := by
      have := (List.getElem?_eq_some_iff.mp h1).1
      rwa [rl_len] at this
    rw [rl_get hk] at h1
    exact h2 k (Option.some.inj h1).symm
theorem compGo_eq {t : α → Option Bool} {f : α → Option β} {p : α → Bool} {g : α → β} : ∀ {xs : List α}, (∀ x ∈ xs, t x = some (p x)) → (∀ x ∈ xs, p x = true → f x = some (g x)) → compGo t f xs = some ((xs.filter p).map g)
  | [], _, _ => rfl
  | x :: xs, h, k => by
    have ih := compGo_eq (xs := xs) (fun y hy => h y (List.mem_cons_of_mem _ hy)) fun y hy => k y (List.mem_cons_of_mem _ hy)
    show (t x).bind _ = _
    rw [h x List.mem_cons_self, sb]
    cases hp : p x with
    | true =>
      show (f x).bind _ = _
      rw [k x List.mem_cons_self hp, sb, ih, List.filter_cons_of_pos hp]
      rfl
    | false =>
      show compGo t f xs = _
      rw [ih, List.filter_cons_of_neg (by rw [hp]; exact fun z => nomatch z)]
theorem compM_eq {t : α → Option Bool} {f : α → Option β} {p : α → Bool} {g : α → β} {xs : List α} (hl : xs.length ≤ 1000000) (h : ∀ x ∈ xs, t x = some (p x)) (k : ∀ x ∈ xs, p x = true → f x = some (g x)) : compM t f xs = some ((xs.filter p).map g) := by
  unfold compM
  rw [if_pos (show xs.length ≤ LIM from hl), compGo_eq h k]
theorem foldGo_ok {f : α → τ → Option τ} {Inv : List α → τ → Prop} : ∀ (xs : List α) (pre : List α) {s : τ}, Inv pre s → (∀ pre x post s, pre ++ x :: post = pre ++ x :: post → x ∈ xs → Inv pre s → Ok (f x s) (Inv (pre ++ [x]))) → Ok (foldGo f xs s) (Inv (pre ++ xs))
  | [], pre, s, h, _ => by
    rw [List.append_nil]
    exact .one h
  | x :: xs, pre, s, h, hs => by
    refine .bind (hs pre x xs s rfl List.mem_cons_self h) fun s' h' => ?_
    have := foldGo_ok xs (pre ++ [x]) h' fun pre y post s e hy => hs pre y post s rfl (List.mem_cons_of_mem _ hy)
    rwa [List.append_assoc] at this
/-- a walk with an invariant by what was seen -/
theorem fold_ok {f : α → τ → Option τ} (Inv : List α → τ → Prop) {xs : List α} {s : τ} (h0 : Inv [] s) (hs : ∀ pre x s, x ∈ xs → Inv pre s → Ok (f x s) (Inv (pre ++ [x]))) : Ok (foldGo f xs s) (Inv xs) := by
  have := foldGo_ok (Inv := Inv) xs [] h0 fun pre x post s _ hx h => hs pre x s hx h
  simpa using this
theorem foldG_ok {f : α → τ → Option τ} {Inv : Nat → τ → Prop} : ∀ (xs : List α) (j : Nat) {s : τ}, Inv j s → (∀ k x s, xs[k]? = some x → Inv (j + k) s → Ok (f x s) (Inv (j + k + 1))) → Ok (foldGo f xs s) (Inv (j + xs.length))
  | [], j, s, h, _ => .one h
  | x :: xs, j, s, h, hs => by
    refine .bind (hs 0 x s rfl h) fun s' h' => ?_
    have := foldG_ok xs (j + 1) h' fun k y s e hy => by
      have := hs (k + 1) y s (by simpa using e) (by rwa [show j + (k + 1) = j + 1 + k by omega])
      rwa [show j + (k + 1) = j + 1 + k by omega] at this
    rwa [show j + 1 + xs.length = j + (x :: xs).length by rw [List.length_cons]; omega] at this
/-- over a range: by the turn -/
theorem foldR_ok {f : Int → τ → Option τ} (Inv : Nat → τ → Prop) {n : Nat} {s : τ} (h0 : Inv 0 s) (hs : ∀ k s, k < n → Inv k s → Ok (f (k : Int) s) (Inv (k + 1))) : Ok (foldGo f (rl n) s) (Inv n) := by
  have := foldG_ok (Inv := Inv) (f := f) (rl n) 0 h0 fun k x s e h => by
    have hk : k < n := by
      have := (List.getElem?_eq_some_iff.mp e).1
      rwa [rl_len] at this
    rw [rl_get hk] at e
    rw [← Option.some.inj e]
    rw [Nat.zero_add] at h ⊢
    exact hs k s hk h
  rwa [Nat.zero_add, rl_len] at this
theorem mapGoE_ok {f : α → τ → Option (β × τ)} {Inv : Nat → τ → Prop} {P : Nat → β → Prop} : ∀ (xs : List α) (j : Nat) {s : τ}, Inv j s → (∀ k x s, xs[k]? = some x → Inv (j + k) s → Ok (f x s) fun r => P (j + k) r.1 ∧ Inv (j + k + 1) r.2) →
    Ok (mapGoE f xs s) fun r => r.1.length = xs.length ∧ (∀ k y, r.1[k]? = some y → P (j + k) y) ∧ Inv (j + xs.length) r.2
  | [], j, s, h, _ => .one ⟨rfl, fun k y e => by simp at e, h⟩
  | x :: xs, j, s, h, hs => by
    refine .bind (hs 0 x s rfl h) fun y hy => ?_
    refine .bind (mapGoE_ok (P := P) xs (j + 1) hy.2 fun k y s e hy => by
      have := hs (k + 1) y s (by simpa using e) (by rwa [show j + (k + 1) = j + 1 + k by omega])
      rwa [show j + (k + 1) = j + 1 + k by omega] at this) fun r hr => .one ⟨by rw [List.length_cons, List.length_cons, hr.1], fun k z e => ?_, ?_⟩
    · cases k with
      | zero =>
        have : y.1 = z := by simpa using e
        exact this ▸ hy.1
      | succ k =>
        have := hr.2.1 k z (by simpa using e)
        rwa [show j + 1 + k = j + (k + 1) by omega] at this
    · have := hr.2.2
      rwa [show j + 1 + xs.length = j + (x :: xs).length by rw [List.length_cons]; omega] at this
theorem mapRE_ok {f : Int → τ → Option (β × τ)} (Inv : Nat → τ → Prop) (P : Nat → β → Prop) {n : Nat} {s : τ} (hl : n ≤ 1000000) (h0 : Inv 0 s) (hs : ∀ k s, k < n → Inv k s → Ok (f (k : Int) s) fun r => P k r.1 ∧ Inv (k + 1) r.2) :
    Ok (mapME f (rl n) s) fun r => r.1.length = n ∧ (∀ k y, r.1[k]? = some y → P k y) ∧ Inv n r.2 := by
  unfold mapME
  rw [if_pos (show (rl n).length ≤ LIM by rw [rl_len]; exact hl)]
  have := mapGoE_ok (Inv := Inv) (P := P) (f := f) (rl n) 0 h0 fun k x s e h => by
    have hk : k < n := by
      have := (List.getElem?_eq_some_iff.mp e).1
      rwa [rl_len] at this
    rw [rl_get hk] at e
    rw [← Option.some.inj e]
    rw [Nat.zero_add] at h ⊢
    exact hs k s hk h
  simpa [rl_len] using this
/-- a loop that goes through -/
theorem loopGo_ok {f : α → τ → Option (Out τ ρ)} {Inv : Nat → τ → Prop} : ∀ (xs : List α) (j : Nat) {s : τ}, Inv j s → (∀ k x s, xs[k]? = some x → Inv (j + k) s → Ok (f x s) fun o => ∃ s', (o = .nx s' ∨ o = .ct s') ∧ Inv (j + k + 1) s') → Ok (loopGo f xs s) fun o => ∃ s', o = .nx s' ∧ Inv (j + xs.length) s'
  | [], j, s, h, _ => .one ⟨s, rfl, h⟩
  | x :: xs, j, s, h, hs => by
    refine .bind (hs 0 x s rfl h) fun o ho => ?_
    obtain ⟨s', ho, h'⟩ := ho
    have := loopGo_ok xs (j + 1) h' fun k y s e hy => by
      have := hs (k + 1) y s (by simpa using e) (by rwa [show j + (k + 1) = j + 1 + k by omega])
      rwa [show j + (k + 1) = j + 1 + k by omega] at this
    rw [show j + 1 + xs.length = j + (x :: xs).length by rw [List.length_cons]; omega] at this
    rcases ho with rfl | rfl
    · exact this
    · exact this
theorem loop_unit {f : α → Unit → Option (Out Unit ρ)} {xs : List α} (hs : ∀ x ∈ xs, f x () = some (.nx ())) : loopGo f xs () = some (.nx ()) := by
  induction xs with
  | nil => rfl
  | cons x xs ih =>
    show (f x ()).bind _ = _
    rw [hs x List.mem_cons_self]
    exact ih fun y hy => hs y (List.mem_cons_of_mem _ hy)
/-! ### tables -/
structure Sq (n : Nat) (t : List (List α)) : Prop where
  len : t.length = n
  row : ∀ r ∈ t, r.length = n
def gt (t : List (List Bool)) (x y : Nat) : Bool := ((t[x]?.getD [])[y]?).getD false
theorem Sq.rowk {n : Nat} {t : List (List α)} (h : Sq n t) {x : Nat} (hx : x < n) : ∃ r, t[x]? = some r ∧ r.length = n := by
  have hx' : x < t.length := by rw [h.len]; exact hx
  exact ⟨t[x], List.getElem?_eq_getElem hx', h.row _ (List.getElem_mem hx')⟩
theorem Sq.at2 {n : Nat} {t : List (List Bool)} (h : Sq n t) {x y : Nat} (hx : x < n) (hy : y < n) : ∃ r, atI t (x : Int) = some r ∧ atI r (y : Int) = some (gt t x y) := by
  obtain ⟨r, h1, h2⟩ := h.rowk hx
  refine ⟨r, atI_nat? h1, ?_⟩
  have hy' : y < r.length := by rw [h2]; exact hy
  rw [atI_nat hy']
  unfold gt
  rw [h1]
  show some r[y] = some ((r[y]?).getD false)
  rw [List.getElem?_eq_getElem hy']
  rfl
theorem Sq.set2 {n : Nat} {t : List (List Bool)} (h : Sq n t) {x y : Nat} (b : Bool) (hx : x < n) (hy : y < n) : ∃ t', setAt2 t (x : Int) (y : Int) b = some t' ∧ Sq n t' ∧ ∀ i j, gt t' i j = if i = x ∧ j = y then b else gt t i j := by
  obtain ⟨r, h1, h2⟩ := h.rowk hx
  have hx' : x < t.length := by rw [h.len]; exact hx
  have hy' : y < r.length := by rw [h2]; exact hy
  refine ⟨t.set x (r.set y b), ?_, ⟨by rw [List.length_set]; exact h.len, fun q hq => ?_⟩, fun i j => ?_⟩
  · unfold setAt2
    rw [atI_nat? h1, sb, setAt_nat hy', sb, setAt_nat hx']
  · rcases List.mem_or_eq_of_mem_set hq with z | rfl
    · exact h.row q z
    · rw [List.length_set]; exact h2
  · unfold gt
    by_cases e : i = x
    · subst e
      rw [List.getElem?_set_self hx', h1]
      show ((r.set y b)[j]?).getD false = _
      by_cases e2 : j = y
      · subst e2
        rw [List.getElem?_set_self hy', if_pos ⟨rfl, rfl⟩]
        rfl
      · rw [List.getElem?_set_ne (fun q => e2 q.symm), if_neg (fun q => e2 q.2)]
        rfl
    · rw [List.getElem?_set_ne (fun q => e q.symm), if_neg (fun q => e q.1)]
/-- a table made by its places -/
theorem tab_mk {n : Nat} (hn : n ≤ 1000000) {f : Int → Int → Option Bool} {g : Nat → Nat → Bool} (hf : ∀ x y : Nat, x < n → y < n → f (x : Int) (y : Int) = some (g x y)) :
    Ok (mapM (fun x => mapM (fun y => f x y) (rl n)) (rl n)) fun t => Sq n t ∧ ∀ x y, x < n → y < n → gt t x y = g x y := by
  refine (mapR_ok (P := fun x r => r.length = n ∧ ∀ (y : Nat) b, r[y]? = some b → b = g x y) hn fun x hx => mapR_ok (P := fun y b => b = g x y) hn fun y hy => .of_eq (hf x y hx hy) rfl).mono fun t ht => ?_
  refine ⟨⟨ht.1, fun r hr => ?_⟩, fun x y hx hy => ?_⟩
  · obtain ⟨k, hk⟩ := List.mem_iff_getElem?.mp hr
    exact (ht.2 k r hk).1
  · have hx' : x < t.length := by rw [ht.1]; exact hx
    have h1 := List.getElem?_eq_getElem hx'
    obtain ⟨h2, h3⟩ := ht.2 x _ h1
    have hy' : y < t[x].length := by rw [h2]; exact hy
    unfold gt
    rw [h1]
    show ((t[x])[y]?).getD false = _
    rw [List.getElem?_eq_getElem hy']
    exact h3 y _ (List.getElem?_eq_getElem hy')
theorem Sq.setRow {n : Nat} {t : List (List α)} (h : Sq n t) {x : Nat} {r : List α} (hx : x < n) (hr : r.length = n) : setAt t (x : Int) r = some (t.set x r) ∧ Sq n (t.set x r) :=
  ⟨setAt_nat (by rw [h.len]; exact hx), by rw [List.length_set]; exact h.len, fun q hq => by
    rcases List.mem_or_eq_of_mem_set hq with z | rfl
    · exact h.row q z
    · exact hr⟩
/-- a row of places below m -/
structure Rw (n m : Nat) (r : List Int) : Prop where
  len : r.length = n
  lo : ∀ x ∈ r, 0 ≤ x ∧ x < (m : Int)
def rwv (r : List Int) (x : Nat) : Nat := ((r[x]?).getD 0).toNat
theorem Rw.at {n m : Nat} {r : List Int} (h : Rw n m r) {x : Nat} (hx : x < n) : atI r (x : Int) = some (rwv r x : Int) ∧ rwv r x < m := by
  have hx' : x < r.length := by rw [h.len]; exact hx
  have h1 := List.getElem?_eq_getElem hx'
  have h2 := h.lo _ (List.getElem_mem hx')
  have e : (rwv r x : Int) = r[x] := by
    unfold rwv
    rw [h1]
    show ((r[x]).toNat : Int) = _
    omega
  refine ⟨by rw [atI_nat hx', e], by omega⟩
theorem Rw.of_get {n m : Nat} {r : List Int} (hl : r.length = n) (h : ∀ (k : Nat) (y : Int), r[k]? = some y → 0 ≤ y ∧ y < (m : Int)) : Rw n m r := ⟨hl, fun x hx => by
  obtain ⟨k, hk⟩ := List.mem_iff_getElem?.mp hx
  exact h k x hk⟩
theorem Rw.perm {n : Nat} {r : List Int} (h : r.Perm (rl n)) : Rw n n r := ⟨by rw [h.length_eq, rl_len], fun x hx => by
  obtain ⟨k, hk, rfl⟩ := rl_mem.mp (h.mem_iff.mp hx)
  omega⟩
theorem Sq.look {n : Nat} {t : List (List Bool)} (h : Sq n t) {x : Nat} (hx : x < n) : ∃ r, atI t (x : Int) = some r ∧ r.length = n ∧ ∀ y : Nat, y < n → atI r (y : Int) = some (gt t x y) := by
  obtain ⟨r, h1, h2⟩ := h.rowk hx
  refine ⟨r, atI_nat? h1, h2, fun y hy => ?_⟩
  obtain ⟨u, u1, u2⟩ := h.at2 hx hy
  rw [atI_nat? h1] at u1
  cases u1
  exact u2
end CC
set_option maxHeartbeats 1000000
/-! Plain laws, more. -/
namespace CC
open PySem PySem.Spec L2
open PyProof.Rows hiding St
variable {α β γ δ τ υ ω ρ : Type}
theorem nodup_perm : ∀ {l m : List α}, l.Nodup → (∀ x ∈ l, x ∈ m) → m.length ≤ l.length → l.Perm m
  | [], m, _, _, hl => by rw [List.eq_nil_of_length_eq_zero (Nat.le_zero.mp hl)]
  | a :: l, m, h, s, hl => by
    obtain ⟨u, v, rfl⟩ := List.append_of_mem (s a List.mem_cons_self)
    have h' := List.nodup_cons.mp h
    refine (List.Perm.cons a (nodup_perm (m := u ++ v) h'.2 (fun x hx => ?_) ?_)).trans List.perm_middle.symm
    · have := s x (List.mem_cons_of_mem _ hx)
      have ne : x ≠ a := fun e => h'.1 (e ▸ hx)
      simp only [List.mem_append, List.mem_cons] at this ⊢
      rcases this with q | q | q
      · exact .inl q
      · exact absurd q ne
      · exact .inr q
    · simp only [List.length_append, List.length_cons] at hl ⊢
      omega
theorem comp2Go_eq {t : α → Option Bool} {itM : α → Option (List β)} {t1 : α → β → Option Bool} {f : α → β → Option γ} {it : α → List β} {p : α → β → Bool} {g : α → β → γ} : ∀ {xs : List α}, (∀ x ∈ xs, t x = some true) → (∀ x ∈ xs, itM x = some (it x)) → (∀ x ∈ xs, ∀ y ∈ it x, t1 x y = some (p x y)) → (∀ x ∈ xs, ∀ y ∈ it x, p x y = true → f x y = some (g x y)) →
    comp2Go t itM t1 f xs = some (xs.flatMap fun x => ((it x).filter (p x)).map (g x))
  | [], _, _, _, _ => rfl
  | x :: xs, h0, h1, h2, h3 => by
    show (t x).bind _ = _
    rw [h0 x List.mem_cons_self]
    show (itM x).bind _ = _
    rw [h1 x List.mem_cons_self]
    show (compGo (t1 x) (f x) (it x)).bind _ = _
    rw [compGo_eq (h2 x List.mem_cons_self) (h3 x List.mem_cons_self)]
    show (comp2Go t itM t1 f xs).bind _ = _
    rw [comp2Go_eq (fun y hy => h0 y (List.mem_cons_of_mem _ hy)) (fun y hy => h1 y (List.mem_cons_of_mem _ hy)) (fun y hy => h2 y (List.mem_cons_of_mem _ hy)) fun y hy => h3 y (List.mem_cons_of_mem _ hy)]
    rfl
theorem comp2M_eq {t : α → Option Bool} {itM : α → Option (List β)} {t1 : α → β → Option Bool} {f : α → β → Option γ} {it : α → List β} {p : α → β → Bool} {g : α → β → γ} {xs : List α} (h0 : ∀ x ∈ xs, t x = some true) (h1 : ∀ x ∈ xs, itM x = some (it x)) (h2 : ∀ x ∈ xs, ∀ y ∈ it x, t1 x y = some (p x y)) (h3 : ∀ x ∈ xs, ∀ y ∈ it x, p x y = true → f x y = some (g x y))
    (hl : (xs.flatMap fun x => ((it x).filter (p x)).map (g x)).length ≤ 1000000) : comp2M t itM t1 f xs = some (xs.flatMap fun x => ((it x).filter (p x)).map (g x)) := by
  unfold comp2M
  rw [comp2Go_eq h0 h1 h2 h3]
  show (if _ then _ else _) = _
  rw [if_pos (show _ ≤ LIM from hl)]
theorem eqP_prs (a b c d : Int) : eqP (.tup [.int a, .int b]) (.tup [.int c, .int d]) = some (decide (a = c) && decide (b = d)) := by
  have sh : ∀ a b : Int, SeqAt.shaped (toD (.tup [.int a, .int b])) = true := fun a b => rfl
  unfold eqP
  rw [if_pos ⟨sh a b, sh c d⟩]
  simp only [toD, toDs, PyData.eqv, PyData.eqvAll, Bool.and_true]
  rfl
/-- a loop that only goes through, by what was seen -/
theorem loopR_ok {f : Int → τ → Option (Out τ ρ)} (Inv : Nat → τ → Prop) {n : Nat} {s : τ} (h0 : Inv 0 s) (hs : ∀ k s, k < n → Inv k s → Ok (f (k : Int) s) fun o => ∃ s', (o = .nx s' ∨ o = .ct s') ∧ Inv (k + 1) s') : Ok (loopGo f (rl n) s) fun o => ∃ s', o = .nx s' ∧ Inv n s' := by
  have := loopGo_ok (Inv := Inv) (f := f) (rl n) 0 h0 fun k x s e h => by
    have hk : k < n := by
      have := (List.getElem?_eq_some_iff.mp e).1
      rwa [rl_len] at this
    rw [rl_get hk] at e
    rw [← Option.some.inj e]
    rw [Nat.zero_add] at h ⊢
    exact hs k s hk h
  rwa [Nat.zero_add, rl_len] at this
/-- .. an equation -/
theorem loopGo_eq {f : α → τ → Option (Out τ ρ)} (g : τ → α → τ) (I : τ → Prop) : ∀ {xs : List α} {s : τ}, I s → (∀ x ∈ xs, ∀ s, I s → (f x s = some (.nx (g s x)) ∨ f x s = some (.ct (g s x))) ∧ I (g s x)) → loopGo f xs s = some (.nx (xs.foldl g s)) ∧ I (xs.foldl g s)
  | [], s, h, _ => ⟨rfl, h⟩
  | x :: xs, s, h, hs => by
    obtain ⟨h1, h2⟩ := hs x List.mem_cons_self s h
    have := loopGo_eq g I (xs := xs) h2 fun y hy => hs y (List.mem_cons_of_mem _ hy)
    show (f x s).bind _ = _ ∧ _
    rcases h1 with h1 | h1 <;> rw [h1] <;> exact this
theorem foldGo_eq {f : α → τ → Option τ} (g : τ → α → τ) (I : τ → Prop) : ∀ {xs : List α} {s : τ}, I s → (∀ x ∈ xs, ∀ s, I s → f x s = some (g s x) ∧ I (g s x)) → foldGo f xs s = some (xs.foldl g s) ∧ I (xs.foldl g s)
  | [], s, h, _ => ⟨rfl, h⟩
  | x :: xs, s, h, hs => by
    obtain ⟨h1, h2⟩ := hs x List.mem_cons_self s h
    have := foldGo_eq g I (xs := xs) h2 fun y hy => hs y (List.mem_cons_of_mem _ hy)
    show (f x s).bind _ = _ ∧ _
    rw [h1]
    exact this
theorem nodup_len : ∀ {l m : List α}, l.Nodup → (∀ x ∈ l, x ∈ m) → l.length ≤ m.length
  | [], m, _, _ => Nat.zero_le _
  | a :: l, m, h, s => by
    obtain ⟨u, v, rfl⟩ := List.append_of_mem (s a List.mem_cons_self)
    have h' := List.nodup_cons.mp h
    have := nodup_len (m := u ++ v) h'.2 (fun x hx => by
      have := s x (List.mem_cons_of_mem _ hx)
      have ne : x ≠ a := fun e => h'.1 (e ▸ hx)
      simp only [List.mem_append, List.mem_cons] at this ⊢
      rcases this with q | q | q
      · exact .inl q
      · exact absurd q ne
      · exact .inr q)
    simp only [List.length_append, List.length_cons] at this ⊢
    omega
/-- a range from lo on -/
def rlo (lo n : Nat) : List Int := (List.range n).map fun i : Nat => ((lo + i : Nat) : Int)
theorem rlo_len (lo n : Nat) : (rlo lo n).length = n := by unfold rlo; rw [List.length_map, List.length_range]
theorem rlo_get {lo n k : Nat} (h : k < n) : (rlo lo n)[k]? = some ((lo + k : Nat) : Int) := by
  unfold rlo
  rw [List.getElem?_map, List.getElem?_range h]
  rfl
theorem rlo_mem {lo n : Nat} {x : Int} : x ∈ rlo lo n ↔ ∃ k : Nat, k < n ∧ x = ((lo + k : Nat) : Int) := by
  unfold rlo
  rw [List.mem_map]
  constructor
  · rintro ⟨k, h, rfl⟩
    exact ⟨k, List.mem_range.mp h, rfl⟩
  · rintro ⟨k, h, rfl⟩
    exact ⟨k, List.mem_range.mpr h, rfl⟩
theorem rng_lo {lo hi : Nat} (h1 : lo ≤ 1000000) (h2 : hi ≤ 1000000) : rng (lo : Int) (hi : Int) = some (rlo lo (hi - lo)) := by
  have hl : (LIM : Int) = 1000000 := rfl
  unfold rng rlo
  rw [if_pos (by rw [hl]; omega)]
  rw [show ((hi : Int) - (lo : Int)).toNat = hi - lo by omega]
  congr 1
theorem foldRL_ok {f : Int → τ → Option τ} (Inv : Nat → τ → Prop) {lo n : Nat} {s : τ} (h0 : Inv lo s) (hs : ∀ k s, lo ≤ k → k < lo + n → Inv k s → Ok (f (k : Int) s) (Inv (k + 1))) : Ok (foldGo f (rlo lo n) s) (Inv (lo + n)) := by
  have := foldG_ok (Inv := fun j => Inv (lo + j)) (f := f) (rlo lo n) 0 h0 fun k x s e h => by
    have hk : k < n := by
      have := (List.getElem?_eq_some_iff.mp e).1
      rwa [rlo_len] at this
    rw [rlo_get hk] at e
    rw [← Option.some.inj e]
    rw [Nat.zero_add] at h ⊢
    exact hs (lo + k) s (by omega) (by omega) h
  rwa [Nat.zero_add, rlo_len] at this
end CC
set_option maxHeartbeats 1000000
/-! Plain laws: while, masks, rows by place. -/
namespace CC
open PySem PySem.Spec L2
open PyProof.Rows hiding St
variable {α β γ δ τ υ ω ρ : Type}
theorem whileF_ok {c : τ → Option Bool} {f : τ → Option τ} {P : τ → Prop} (Inv : τ → Prop) (μ : τ → Nat) (hs : ∀ s, Inv s → Ok (c s) fun b => (b = true → Ok (f s) fun s' => Inv s' ∧ μ s' < μ s) ∧ (b = false → P s)) : ∀ {n : Nat} {s : τ}, Inv s → μ s < n → Ok (whileF c f n s) P
  | 0, s, _, h => absurd h (Nat.not_lt_zero _)
  | n + 1, s, hi, h => by
    obtain ⟨b, e, h1, h2⟩ := hs s hi
    show Ok ((c s).bind _) P
    rw [e]
    cases b with
    | false => exact .one (h2 rfl)
    | true =>
      obtain ⟨s', e', h3, h4⟩ := h1 rfl
      show Ok ((f s).bind _) P
      rw [e']
      exact whileF_ok Inv μ hs h3 (by omega)
/-- one turn -/
theorem whileF_turn {c : τ → Option Bool} {f : τ → Option τ} {n : Nat} {s s' : τ} (h : c s = some true) (k : f s = some s') : whileF c f (n + 1) s = whileF c f n s' := by
  show (c s).bind _ = _
  rw [h]
  show (f s).bind _ = _
  rw [k]
  rfl
theorem whileF_end {c : τ → Option Bool} {f : τ → Option τ} {n : Nat} {s : τ} (h : c s = some false) : whileF c f (n + 1) s = some s := by
  show (c s).bind _ = _
  rw [h]
  rfl
/-! ### bits -/
theorem bOr_nat (a b : Nat) : bOr (a : Int) (b : Int) = ((a ||| b : Nat) : Int) := by
  have := L2.bitOr_nn (x := (a : Int)) (y := (b : Int)) (by omega) (by omega)
  rw [Int.toNat_natCast, Int.toNat_natCast] at this
  exact this
theorem bAnd_nat (a b : Nat) : bAnd (a : Int) (b : Int) = ((a &&& b : Nat) : Int) := by
  unfold bAnd Builtin.bitAnd
  simp
theorem shl_one {y : Nat} (h : y ≤ 1000000) : shlO 1 (y : Int) = some ((2 ^ y : Nat) : Int) := by
  unfold shlO
  rw [if_pos ⟨by omega, by omega, by decide⟩, Int.toNat_natCast, Int.one_mul, PySem.W.kbt_cast]
theorem shr_nat (a y : Nat) : shrO (a : Int) (y : Int) = some ((a / 2 ^ y : Nat) : Int) := by
  unfold shrO
  rw [if_pos (by omega), Int.toNat_natCast, ← PySem.W.kbt_cast]
  rfl
/-- the least bit -/
theorem low_form : ∀ (m : Nat), 0 < m → ∃ k a, m = 2 ^ k * (2 * a + 1) := by
  intro m
  induction m using Nat.strongRecOn with
  | _ m ih =>
    intro h
    by_cases e : m % 2 = 1
    · exact ⟨0, m / 2, by omega⟩
    · obtain ⟨k, a, q⟩ := ih (m / 2) (by omega) (by omega)
      refine ⟨k + 1, a, ?_⟩
      have : m = 2 * (m / 2) := by omega
      rw [Nat.pow_succ, Nat.mul_comm (2 ^ k) 2, Nat.mul_assoc, ← q]
      exact this
theorem low_bit (k a j : Nat) : (2 ^ k * (2 * a + 1)).testBit j = (decide (k ≤ j) && (decide (j = k) || a.testBit (j - k - 1))) := by
  rw [Nat.testBit_two_pow_mul]
  by_cases h : k ≤ j
  · simp only [h, decide_true, Bool.true_and]
    by_cases e : j = k
    · subst e
      simp
    · obtain ⟨d, hd⟩ : ∃ d, j - k = d + 1 := ⟨j - k - 1, by omega⟩
      rw [hd, Nat.testBit_succ, show (2 * a + 1) / 2 = a by omega]
      simp [e]
  · simp [h]
theorem low_rest (k a j : Nat) : (2 ^ k * (2 * a + 1) - 2 ^ k).testBit j = (decide (k < j) && a.testBit (j - k - 1)) := by
  have e : 2 ^ k * (2 * a + 1) - 2 ^ k = 2 ^ (k + 1) * a := by
    rw [Nat.mul_add, Nat.mul_one, Nat.add_sub_cancel, Nat.pow_succ, Nat.mul_assoc]
  rw [e, Nat.testBit_two_pow_mul]
  by_cases h : k < j
  · simp [h, show k + 1 ≤ j by omega, show j - (k + 1) = j - k - 1 by omega]
  · simp [h, show ¬ k + 1 ≤ j by omega]
theorem bAnd_low (k a : Nat) : bAnd ((2 ^ k * (2 * a + 1) : Nat) : Int) (-((2 ^ k * (2 * a + 1) : Nat) : Int)) = ((2 ^ k : Nat) : Int) := by
  have := PySem.W.kbt_low k (a : Int)
  have c : ((2 ^ k * (2 * a + 1) : Nat) : Int) = 2 ^ k * (2 * (a : Int) + 1) := by
    rw [Int.natCast_mul, PySem.W.kbt_cast]
    rfl
  rw [c, PySem.W.kbt_cast]
  exact this
theorem bitLen_pow (k : Nat) : bitLen ((2 ^ k : Nat) : Int) = (k : Int) + 1 := by
  unfold bitLen Builtin.Int.intBits
  have h : (((2 ^ k : Nat) : Int) == 0) = false := by
    rw [beq_eq_false_iff_ne]
    have := Nat.two_pow_pos k
    omega
  rw [h]
  simp only [Bool.false_eq_true, if_false, Int.natAbs_natCast, Nat.log2_two_pow]
  rfl
/-- the points of a mask, ascending -/
def bitsL (n : Nat) (m : Nat) : List Int := (rl n).filter fun x => m.testBit x.toNat
theorem bitsL_mem {n m : Nat} {x : Int} : x ∈ bitsL n m ↔ ∃ k : Nat, k < n ∧ m.testBit k = true ∧ x = (k : Int) := by
  unfold bitsL
  rw [List.mem_filter, rl_mem]
  constructor
  · rintro ⟨⟨k, h, rfl⟩, h2⟩
    rw [Int.toNat_natCast] at h2
    exact ⟨k, h, h2, rfl⟩
  · rintro ⟨k, h, h2, rfl⟩
    exact ⟨⟨k, h, rfl⟩, by rw [Int.toNat_natCast]; exact h2⟩
theorem bitsL_len (n m : Nat) : (bitsL n m).length ≤ n := by
  unfold bitsL
  refine Nat.le_trans (List.length_filter_le _ _) ?_
  rw [rl_len]
  exact Nat.le_refl _
theorem rl_split {n k : Nat} (h : k < n) : ∃ r, rl n = rl k ++ (k : Int) :: r ∧ ∀ x ∈ r, ∃ j : Nat, k < j ∧ j < n ∧ x = (j : Int) := by
  refine ⟨(List.range (n - k - 1)).map fun i : Nat => ((k + 1 + i : Nat) : Int), ?_, fun x hx => ?_⟩
  · refine List.ext_getElem? fun i => ?_
    by_cases h1 : i < k
    · rw [rl_get (by omega), List.getElem?_append_left (by rw [rl_len]; exact h1), rl_get h1]
    · rw [List.getElem?_append_right (by rw [rl_len]; omega), rl_len]
      by_cases h2 : i = k
      · subst h2
        rw [rl_get h, Nat.sub_self]
        rfl
      · obtain ⟨d, hd⟩ : ∃ d, i - k = d + 1 := ⟨i - k - 1, by omega⟩
        rw [hd, List.getElem?_cons_succ, List.getElem?_map]
        by_cases h3 : i < n
        · rw [rl_get h3, List.getElem?_range (by omega)]
          show some (i : Int) = some _
          congr 2
          omega
        · rw [List.getElem?_eq_none (by rw [rl_len]; omega), List.getElem?_eq_none (by rw [List.length_range]; omega)]
          rfl
  · obtain ⟨i, hi, rfl⟩ := List.mem_map.mp hx
    have := List.mem_range.mp hi
    exact ⟨k + 1 + i, by omega, by omega, rfl⟩
theorem bitsL_low {n k a : Nat} (h : k < n) : bitsL n (2 ^ k * (2 * a + 1)) = (k : Int) :: bitsL n (2 ^ k * (2 * a + 1) - 2 ^ k) := by
  obtain ⟨r, e, hr⟩ := rl_split h
  unfold bitsL
  rw [e, List.filter_append, List.filter_append, List.filter_cons, List.filter_cons]
  have z1 : (rl k).filter (fun x => (2 ^ k * (2 * a + 1)).testBit x.toNat) = [] := List.filter_eq_nil_iff.mpr fun x hx => by
    obtain ⟨j, hj, rfl⟩ := rl_mem.mp hx
    rw [Int.toNat_natCast, low_bit]
    simp [show ¬ k ≤ j by omega]
  have z2 : (rl k).filter (fun x => (2 ^ k * (2 * a + 1) - 2 ^ k).testBit x.toNat) = [] := List.filter_eq_nil_iff.mpr fun x hx => by
    obtain ⟨j, hj, rfl⟩ := rl_mem.mp hx
    rw [Int.toNat_natCast, low_rest]
    simp [show ¬ k < j by omega]
  have c1 : (2 ^ k * (2 * a + 1)).testBit ((k : Int)).toNat = true := by
    rw [Int.toNat_natCast, low_bit]
    simp
  have c2 : (2 ^ k * (2 * a + 1) - 2 ^ k).testBit ((k : Int)).toNat = false := by
    rw [Int.toNat_natCast, low_rest]
    simp
  rw [z1, z2, if_pos c1, if_neg (by rw [c2]; exact fun z => nomatch z)]
  simp only [List.nil_append]
  congr 1
  refine List.filter_congr fun x hx => ?_
  obtain ⟨j, h1, h2, rfl⟩ := hr x hx
  rw [Int.toNat_natCast, low_bit, low_rest]
  simp [show k ≤ j by omega, show j ≠ k by omega, h1]
theorem bitsL_zero (n : Nat) : bitsL n 0 = [] := List.filter_eq_nil_iff.mpr fun x _ => by simp
theorem bit_pos {m k : Nat} (h : m.testBit k = true) : 0 < m := by
  cases m with
  | zero => simp at h
  | succ m => exact Nat.succ_pos m
theorem and_zero_iff {a b : Nat} : a &&& b = 0 ↔ ∀ y, ¬ (a.testBit y = true ∧ b.testBit y = true) := by
  constructor
  · intro h y ⟨h1, h2⟩
    have : (a &&& b).testBit y = true := by rw [Nat.testBit_and, h1, h2]; rfl
    rw [h, Nat.zero_testBit] at this
    cases this
  · intro h
    refine Nat.eq_of_testBit_eq fun y => ?_
    rw [Nat.zero_testBit, Nat.testBit_and]
    cases h1 : a.testBit y with
    | false => rfl
    | true =>
      cases h2 : b.testBit y with
      | false => rfl
      | true => exact absurd ⟨h1, h2⟩ (h y)
/-- masks by place -/
structure Msk (n : Nat) (L : List Int) (f : Nat → Nat → Bool) : Prop where
  len : L.length = n
  look : ∀ x, x < n → ∃ m : Nat, atI L (x : Int) = some (m : Int) ∧ ∀ y, m.testBit y = f x y
theorem Msk.zero (n : Nat) : Msk n (List.replicate n (0 : Int)) fun _ _ => false := ⟨List.length_replicate, fun x hx => ⟨0, by
  rw [atI_nat (by rw [List.length_replicate]; exact hx), List.getElem_replicate]
  rfl, fun y => Nat.zero_testBit y⟩⟩
theorem Msk.set {n : Nat} {L : List Int} {f : Nat → Nat → Bool} (h : Msk n L f) {x m : Nat} (hx : x < n) : setAt L (x : Int) (m : Int) = some (L.set x (m : Int)) ∧ Msk n (L.set x (m : Int)) fun i y => if i = x then m.testBit y else f i y := by
  refine ⟨setAt_nat (by rw [h.len]; exact hx), by rw [List.length_set]; exact h.len, fun i hi => ?_⟩
  have hi' : i < (L.set x (m : Int)).length := by rw [List.length_set, h.len]; exact hi
  rw [atI_nat hi']
  by_cases e : i = x
  · subst e
    exact ⟨m, by rw [List.getElem_set_self], fun y => by rw [if_pos rfl]⟩
  · obtain ⟨k, h1, h2⟩ := h.look i hi
    rw [atI_nat (by rw [h.len]; exact hi)] at h1
    exact ⟨k, by rw [List.getElem_set_ne (fun q => e q.symm)]; exact h1, fun y => by rw [if_neg e]; exact h2 y⟩
theorem Msk.congr {n : Nat} {L : List Int} {f g : Nat → Nat → Bool} (h : Msk n L f) (e : ∀ x y, x < n → f x y = g x y) : Msk n L g := ⟨h.len, fun x hx => by
  obtain ⟨m, h1, h2⟩ := h.look x hx
  exact ⟨m, h1, fun y => (h2 y).trans (e x y hx)⟩⟩
theorem repM_one {x : α} {n : Nat} (h : n ≤ 1000000) : repM [x] (n : Int) = some (List.replicate n x) := by
  unfold repM
  rw [if_pos ⟨by rw [List.length_singleton, Nat.one_mul, Int.toNat_natCast]; exact h, by omega, by omega⟩, Int.toNat_natCast]
  congr 1
  induction n with
  | zero => rfl
  | succ n ih =>
    rw [List.replicate_succ, List.flatten_cons, ih (by omega), List.replicate_succ]
    rfl
/-! ### pairs in order -/
theorem ltPI_irr (x : Int × Int) : ltPI x x = false := by unfold ltPI; simp
theorem ltPI_trans {x y z : Int × Int} (h : ltPI x y = true) (k : ltPI y z = true) : ltPI x z = true := by
  unfold ltPI at *
  split at h <;> split at k <;> split <;> simp only [decide_eq_true_eq] at * <;> omega
theorem ltPI_tri {x y : Int × Int} (h : ltPI x y = false) (k : x ≠ y) : ltPI y x = true := by
  unfold ltPI at *
  obtain ⟨a, b⟩ := x
  obtain ⟨c, d⟩ := y
  simp only [ne_eq, Prod.mk.injEq] at *
  split at h <;> split <;> simp only [decide_eq_true_eq, decide_eq_false_iff_not] at * <;> omega
/-- pairs that ascend -/
def Asc (ps : List (Int × Int)) : Prop := ps.Pairwise fun x y => ltPI x y = true
theorem Asc.get {ps : List (Int × Int)} (h : Asc ps) {i j : Nat} (hij : i < j) (hj : j < ps.length) : ltPI (ps[i]'(by omega)) ps[j] = true := List.pairwise_iff_getElem.mp h i j (by omega) hj hij
/-! ### tuples of ints, alike -/
theorem ints_lay : ∀ xs : List Int, PyData.canLayAll0 (toDs (xs.map PV.int)) = true ∧ PyData.depthAll (toDs (xs.map PV.int)) = 0
  | [] => ⟨rfl, rfl⟩
  | x :: xs => by
    obtain ⟨h1, h2⟩ := ints_lay xs
    constructor
    · simp [toDs, toD, PyData.canLayAll0, PyData.canLay0, h1]
    · simp [toDs, toD, PyData.depthAll, PyData.depth, h2]
theorem ints_eqv : ∀ xs ys : List Int, PyData.eqvAll (toDs (xs.map PV.int)) (toDs (ys.map PV.int)) = decide (xs = ys)
  | [], [] => rfl
  | [], y :: ys => by simp [toDs, PyData.eqvAll]
  | x :: xs, [] => by simp [toDs, PyData.eqvAll]
  | x :: xs, y :: ys => by
    simp only [List.map_cons, toDs, toD, PyData.eqvAll, PyData.eqv, ints_eqv xs ys]
    by_cases e : x = y
    · subst e; simp
    · simp [e]
theorem eqP_ints (xs ys : List Int) : eqP (.tup (xs.map PV.int)) (.tup (ys.map PV.int)) = some (decide (xs = ys)) := by
  have sh : ∀ xs : List Int, SeqAt.shaped (toD (.tup (xs.map PV.int))) = true := fun xs => by
    obtain ⟨h1, h2⟩ := ints_lay xs
    unfold SeqAt.shaped
    simp [toD, PyData.canLay0, PyData.depth, h1, h2]
  unfold eqP
  rw [if_pos ⟨sh xs, sh ys⟩]
  congr 1
  simp only [toD, PyData.eqv]
  exact ints_eqv xs ys
end CC
set_option maxHeartbeats 4000000
namespace K59
open PySem PySem.Spec L2 CC
open PyProof.Rows hiding St
def topS (i : Nat) : Stmt := PySem.Challenge.pw_chaincore_k59_whole_lefschetz_of_led_map.main.body.getD i (.Pass ⟨0, 0, 0, 0⟩)
abbrev s__law_tape : Stmt := topS 9
abbrev s__law_load : Stmt := topS 10
abbrev s__law_draw : Stmt := topS 11
abbrev s__law_closed : Stmt := topS 14
abbrev s__law_drawn : Stmt := topS 15
abbrev s__law_covers : Stmt := topS 21
abbrev s__law_shuffled : Stmt := topS 13
abbrev s__law_told : Stmt := topS 16
abbrev s__law_fits : Stmt := topS 18
abbrev s__law_map : Stmt := topS 19
abbrev s__law_signs : Stmt := topS 17
abbrev s__law_number : Stmt := topS 22
abbrev s__law_named : Stmt := topS 20
abbrev s_fixed_points : Stmt := topS 6
abbrev s_induced : Stmt := topS 1
abbrev s_chain_counts : Stmt := topS 3
abbrev s_euler : Stmt := topS 4
abbrev s_lefschetz : Stmt := topS 7
abbrev s__law_same : Stmt := topS 12
abbrev s__law_walked : Stmt := topS 23
abbrev s_law : Stmt := topS 24
theorem sc__law_tape : FnScope ["script", "salt", "number"] ["script"] (defScope s__law_tape) := ⟨rfl, rfl, rfl, by decide +kernel, rfl, by decide +kernel, by decide +kernel⟩
theorem sc__law_load : FnScope ["tape", "number"] ["tape"] (defScope s__law_load) := ⟨rfl, rfl, rfl, by decide +kernel, rfl, by decide +kernel, by decide +kernel⟩
theorem sc__law_draw : FnScope ["tape", "many", "k", "digit"] ["tape", "many"] (defScope s__law_draw) := ⟨rfl, rfl, rfl, by decide +kernel, rfl, by decide +kernel, by decide +kernel⟩
theorem sc__law_closed : FnScope ["many", "links", "up", "mid", "x", "y", "row", "k"] ["many", "links"] (defScope s__law_closed) := ⟨rfl, rfl, rfl, by decide +kernel, rfl, by decide +kernel, by decide +kernel⟩
theorem sc__law_drawn : FnScope ["tape", "most", "many", "way", "links", "rare", "levels", "x", "half", "k", "y"] ["tape", "most"] (defScope s__law_drawn) := ⟨rfl, rfl, rfl, by decide +kernel, rfl, by decide +kernel, by decide +kernel⟩
theorem sc__law_covers : FnScope ["up", "many", "near", "x", "high", "low", "next_ones", "y", "z"] ["up"] (defScope s__law_covers) := ⟨rfl, rfl, rfl, by decide +kernel, rfl, by decide +kernel, by decide +kernel⟩
theorem sc__law_shuffled : FnScope ["tape", "many", "left", "k"] ["tape", "many"] (defScope s__law_shuffled) := ⟨rfl, rfl, rfl, by decide +kernel, rfl, by decide +kernel, by decide +kernel⟩
theorem sc__law_told : FnScope ["up", "names", "pairs", "x", "y"] ["up", "names"] (defScope s__law_told) := ⟨rfl, rfl, rfl, by decide +kernel, rfl, by decide +kernel, by decide +kernel⟩
theorem sc__law_fits : FnScope ["up", "row", "x", "value", "y"] ["up", "row", "x", "value"] (defScope s__law_fits) := ⟨rfl, rfl, rfl, by decide +kernel, rfl, by decide +kernel, by decide +kernel⟩
theorem sc__law_map : FnScope ["tape", "up", "many", "row", "k", "x", "value"] ["tape", "up"] (defScope s__law_map) := ⟨rfl, rfl, rfl, by decide +kernel, rfl, by decide +kernel, by decide +kernel⟩
theorem sc__law_signs : FnScope ["up", "many", "ranked", "signs", "rank", "x", "y"] ["up"] (defScope s__law_signs) := ⟨rfl, rfl, rfl, by decide +kernel, rfl, by decide +kernel, by decide +kernel⟩
theorem sc__law_number : FnScope ["up", "row", "left", "x", "y"] ["up", "row"] (defScope s__law_number) := ⟨rfl, rfl, rfl, by decide +kernel, rfl, by decide +kernel, by decide +kernel⟩
theorem sc__law_named : FnScope ["names", "row", "told", "x"] ["names", "row"] (defScope s__law_named) := ⟨rfl, rfl, rfl, by decide +kernel, rfl, by decide +kernel, by decide +kernel⟩
theorem sc_fixed_points : FnScope ["order", "row", "x"] ["order", "row"] (defScope s_fixed_points) := ⟨rfl, rfl, rfl, by decide +kernel, rfl, by decide +kernel, by decide +kernel⟩
theorem sc_induced : FnScope ["order", "points", "places", "pairs", "place", "point", "x", "y"] ["order", "points"] (defScope s_induced) := ⟨rfl, rfl, rfl, by decide +kernel, rfl, by decide +kernel, by decide +kernel⟩
theorem sc_chain_counts : FnScope ["order", "counts", "ending", "longer", "x", "y"] ["order"] (defScope s_chain_counts) := ⟨rfl, rfl, rfl, by decide +kernel, rfl, by decide +kernel, by decide +kernel⟩
theorem sc_euler : FnScope ["order", "counts"] ["order"] (defScope s_euler) := ⟨rfl, rfl, rfl, by decide +kernel, rfl, by decide +kernel, by decide +kernel⟩
theorem sc_lefschetz : FnScope ["order", "row"] ["order", "row"] (defScope s_lefschetz) := ⟨rfl, rfl, rfl, by decide +kernel, rfl, by decide +kernel, by decide +kernel⟩
theorem sc__law_same : FnScope ["actual", "due", "k"] ["actual", "due"] (defScope s__law_same) := ⟨rfl, rfl, rfl, by decide +kernel, rfl, by decide +kernel, by decide +kernel⟩
theorem sc__law_walked : FnScope ["tape", "up", "near", "row", "many", "k", "x", "values", "value"] ["tape", "up", "near", "row", "many"] (defScope s__law_walked) := ⟨rfl, rfl, rfl, by decide +kernel, rfl, by decide +kernel, by decide +kernel⟩
theorem sc_law : FnScope ["script", "tape", "up", "near", "names", "made", "k", "row", "due", "part", "told", "points", "x"] ["script"] (defScope s_law) := ⟨rfl, rfl, rfl, by decide +kernel, rfl, by decide +kernel, by decide +kernel⟩
def h0O (s : ((List Int) × Int × Int × Int × Int × Int)) : OP := recO ["cells", "at", "value", "digits", "mixed", "salt"] [sh ((lstS intS) s.1), sh (intS s.2.1), sh (intS s.2.2.1), sh (intS s.2.2.2.1), sh (intS s.2.2.2.2.1), sh (intS s.2.2.2.2.2)]
/-- what the top has left -/
structure Tx (K : PySem.W.Frag) (mg : Str → Option Value) where
  a__law_tape : Addr
  d__law_tape : FuncData
  F__law_tape : FnP K "_law_tape" s__law_tape a__law_tape d__law_tape
  b__law_tape : Binds K d__law_tape ["script"] []
  g__law_tape : mg "_law_tape" = some (.ref a__law_tape)
  a__law_load : Addr
  d__law_load : FuncData
  F__law_load : FnP K "_law_load" s__law_load a__law_load d__law_load
  b__law_load : Binds K d__law_load ["tape"] []
  g__law_load : mg "_law_load" = some (.ref a__law_load)
  a__law_draw : Addr
  d__law_draw : FuncData
  F__law_draw : FnP K "_law_draw" s__law_draw a__law_draw d__law_draw
  b__law_draw : Binds K d__law_draw ["tape", "many"] []
  g__law_draw : mg "_law_draw" = some (.ref a__law_draw)
  a__law_closed : Addr
  d__law_closed : FuncData
  F__law_closed : FnP K "_law_closed" s__law_closed a__law_closed d__law_closed
  b__law_closed : Binds K d__law_closed ["many", "links"] []
  g__law_closed : mg "_law_closed" = some (.ref a__law_closed)
  a__law_drawn : Addr
  d__law_drawn : FuncData
  F__law_drawn : FnP K "_law_drawn" s__law_drawn a__law_drawn d__law_drawn
  b__law_drawn : Binds K d__law_drawn ["tape", "most"] []
  g__law_drawn : mg "_law_drawn" = some (.ref a__law_drawn)
  a__law_covers : Addr
  d__law_covers : FuncData
  F__law_covers : FnP K "_law_covers" s__law_covers a__law_covers d__law_covers
  b__law_covers : Binds K d__law_covers ["up"] []
  g__law_covers : mg "_law_covers" = some (.ref a__law_covers)
  a__law_shuffled : Addr
  d__law_shuffled : FuncData
  F__law_shuffled : FnP K "_law_shuffled" s__law_shuffled a__law_shuffled d__law_shuffled
  b__law_shuffled : Binds K d__law_shuffled ["tape", "many"] []
  g__law_shuffled : mg "_law_shuffled" = some (.ref a__law_shuffled)
  a__law_told : Addr
  d__law_told : FuncData
  F__law_told : FnP K "_law_told" s__law_told a__law_told d__law_told
  b__law_told : Binds K d__law_told ["up", "names"] []
  g__law_told : mg "_law_told" = some (.ref a__law_told)
  a__law_fits : Addr
  d__law_fits : FuncData
  F__law_fits : FnP K "_law_fits" s__law_fits a__law_fits d__law_fits
  b__law_fits : Binds K d__law_fits ["up", "row", "x", "value"] []
  g__law_fits : mg "_law_fits" = some (.ref a__law_fits)
  a__law_map : Addr
  d__law_map : FuncData
  F__law_map : FnP K "_law_map" s__law_map a__law_map d__law_map
  b__law_map : Binds K d__law_map ["tape", "up"] []
  g__law_map : mg "_law_map" = some (.ref a__law_map)
  a__law_signs : Addr
  d__law_signs : FuncData
  F__law_signs : FnP K "_law_signs" s__law_signs a__law_signs d__law_signs
  b__law_signs : Binds K d__law_signs ["up"] []
  g__law_signs : mg "_law_signs" = some (.ref a__law_signs)
  a__law_number : Addr
  d__law_number : FuncData
  F__law_number : FnP K "_law_number" s__law_number a__law_number d__law_number
  b__law_number : Binds K d__law_number ["up", "row"] []
  g__law_number : mg "_law_number" = some (.ref a__law_number)
  a__law_named : Addr
  d__law_named : FuncData
  F__law_named : FnP K "_law_named" s__law_named a__law_named d__law_named
  b__law_named : Binds K d__law_named ["names", "row"] []
  g__law_named : mg "_law_named" = some (.ref a__law_named)
  a_fixed_points : Addr
  d_fixed_points : FuncData
  F_fixed_points : FnP K "fixed_points" s_fixed_points a_fixed_points d_fixed_points
  b_fixed_points : Binds K d_fixed_points ["order", "row"] []
  q0_fixed_points : KBn K d_fixed_points ["order", "row"] 0 ["row", "order"] (fun us ws => sel (us ++ ws) [1, 0]) (fun vs zs => sel (vs ++ zs) [1, 0])
  g_fixed_points : mg "fixed_points" = some (.ref a_fixed_points)
  a_induced : Addr
  d_induced : FuncData
  F_induced : FnP K "induced" s_induced a_induced d_induced
  b_induced : Binds K d_induced ["order", "points"] []
  g_induced : mg "induced" = some (.ref a_induced)
  a_chain_counts : Addr
  d_chain_counts : FuncData
  F_chain_counts : FnP K "chain_counts" s_chain_counts a_chain_counts d_chain_counts
  b_chain_counts : Binds K d_chain_counts ["order"] []
  g_chain_counts : mg "chain_counts" = some (.ref a_chain_counts)
  a_euler : Addr
  d_euler : FuncData
  F_euler : FnP K "euler" s_euler a_euler d_euler
  b_euler : Binds K d_euler ["order"] []
  g_euler : mg "euler" = some (.ref a_euler)
  a_lefschetz : Addr
  d_lefschetz : FuncData
  F_lefschetz : FnP K "lefschetz" s_lefschetz a_lefschetz d_lefschetz
  b_lefschetz : Binds K d_lefschetz ["order", "row"] []
  q0_lefschetz : KBn K d_lefschetz ["order", "row"] 0 ["row", "order"] (fun us ws => sel (us ++ ws) [1, 0]) (fun vs zs => sel (vs ++ zs) [1, 0])
  g_lefschetz : mg "lefschetz" = some (.ref a_lefschetz)
  a__law_same : Addr
  d__law_same : FuncData
  F__law_same : FnP K "_law_same" s__law_same a__law_same d__law_same
  b__law_same : Binds K d__law_same ["actual", "due"] []
  g__law_same : mg "_law_same" = some (.ref a__law_same)
  a__law_walked : Addr
  d__law_walked : FuncData
  F__law_walked : FnP K "_law_walked" s__law_walked a__law_walked d__law_walked
  b__law_walked : Binds K d__law_walked ["tape", "up", "near", "row", "many"] []
  g__law_walked : mg "_law_walked" = some (.ref a__law_walked)
  a_law : Addr
  d_law : FuncData
  F_law : FnP K "law" s_law a_law d_law
  b_law : Binds K d_law ["script"] []
  g_law : mg "law" = some (.ref a_law)
  m_len : mg "len" = none
  m_int : mg "int" = none
  m_abs : mg "abs" = none
  m_list : mg "list" = none
  m_range : mg "range" = none
  m_tuple : mg "tuple" = none
  m_sorted : mg "sorted" = none
  m_sum : mg "sum" = none
  m_enumerate : mg "enumerate" = none
  m_isinstance : mg "isinstance" = none
  m_bool : mg "bool" = none
section
variable {P : Program} {w : World} {K : PySem.W.Frag} {mg : Str → Option Value} {base : Heap}
def M_law_tape (a : (List Int) × Unit) : Option ((List Int) × Int × Int × Int × Int × Int) :=
 (foldGo (fun x3 s4 => (((((mulO s4 (69621 : Int)).bind fun x5 => some (x5 + (absI x3))).bind fun x6 => some (x6 + (3 : Int))).bind fun x7 => some x7).bind fun x8 => modO x8 (2147483647 : Int)).bind fun a9 => some a9) a.1 ((11 : Int) + (a.1.length : Int))).bind fun a10 => some (a.1, (0 : Int), (0 : Int), (0 : Int), (0 : Int), a10)
theorem ok_law_tape (T : Tx K mg) : FnOk P w K mg base CX0 1 T.a__law_tape T.d__law_tape ["script"] (spP (fun a : (List Int) × Unit => [(scrS K) a.1]) M_law_tape h0O) :=
 fnd_pure (Δ := nonC 3) T.F__law_tape sc__law_tape (fun _ => rfl) (by decide) fun a => JB.cong (
 jb_cons (js_set 1 sc__law_tape.nd (jn_bin oAdd ov_add jn_int (len_scr T.m_len (jn_var (E := (scrS K)) (a := a.1) 0)))) fun a1 =>
 jb_cons (js_forS (Γl := fun s2 : Int => [some (sh ((scrS K) a.1)), some (sh (intS s2)), none]) a1 (ji_scr (jn_var (E := (scrS K)) (a := a.1) 0)) (jg_name (E := intS) 2 sc__law_tape.nd) (weak_mask [true, true, false] _) (fun _ => all_lt rfl) fun x3 s4 =>
 jb_cons (js_set 1 sc__law_tape.nd (jn_bin oMod ov_mod (int_int T.m_int (jn_bin oAdd ov_add (jn_bin oAdd ov_add (jn_bin oMul ov_mul (jn_var (E := intS) (a := s4) 1) jn_int) (abs_int T.m_abs (jn_var (E := intS) (a := x3) 2))) jn_int)) jn_int)) fun a9 =>
 jb_nil (x := a9) rfl (weak_mask [true, true, false] _)) fun a10 =>
 jb_ret (weak_none _) (jn_rec (ks := ["cells", "at", "value", "digits", "mixed", "salt"]) (T := h0O) (g := fun z => (z.1, z.2.1, z.2.2.1, z.2.2.2.1, z.2.2.2.2.1, z.2.2.2.2.2.1)) (jp_cons (JN.frz (fz_lst (fun _ => fz_sh)) (list_scr T.m_list (jn_var (E := (scrS K)) (a := a.1) 0))) (jp_cons jn_int (jp_cons jn_int (jp_cons jn_int (jp_cons jn_int (jp_cons (jn_var (E := intS) (a := a10) 1) jp_nil)))))))) (by unfold M_law_tape; first | (dsimp only [CC.sb]; done) | (dsimp only [CC.sb]; rfl) | rfl)
def N_law_load (a : Unit) (s : ((List Int) × Int × Int × Int × Int × Int)) : Option ((List Int) × Int × Int × Int × Int × Int) :=
 (atI s.1 s.2.1).bind fun a21 => (((modO a21 (2 : Int)).bind fun x23 => some (decide (x23 = (0 : Int)))).bind fun x43 => bif x43 then (divO (absI a21) (2 : Int)).bind fun a34 => some (s.1, s.2.1 + (1 : Int), a34, (60 : Int), s.2.2.2.2.1, s.2.2.2.2.2) else (((((mulO s.2.2.2.2.2 (16807 : Int)).bind fun x36 => (divO (absI a21) (2 : Int)).bind fun x37 => some (x36 + x37)).bind fun x38 => some (x38 + (1 : Int))).bind fun x39 => some x39).bind fun x40 => modO x40 (2147483647 : Int)).bind fun a41 => some (s.1, s.2.1 + (1 : Int), s.2.2.1, s.2.2.2.1, (9 : Int), a41)).bind fun a44 => some a44
def M_law_load (a : Unit) (s : ((List Int) × Int × Int × Int × Int × Int)) : Option (Unit × ((List Int) × Int × Int × Int × Int × Int)) := (N_law_load a s).bind fun s' => some ((), s')
theorem ok_law_load (T : Tx K mg) : FnOk P w K mg base CX0 1 T.a__law_load T.d__law_load ["tape"] (spS h0O (fun a : Unit => []) M_law_load (fun _ => sh nonS)) :=
 fnd_stateN (fM := N_law_load) T.F__law_load sc__law_load (fun _ => rfl) (by decide) fun a s => JB.cong (
 jb_cons (js_set 1 sc__law_load.nd (jn_of (jr_ix oIxL iv_lst (jr_ixD (R := (fun x => sh ((lstS intS) x))) (g := fun z => z.1) 0 (jr_var (R := h0O) (a := s) 0)) (jn_of (jr_ixD (R := (fun x => sh (intS x))) (g := fun z => z.2.1) 1 (jr_var (R := h0O) (a := s) 0)))))) fun a21 =>
 jb_cons (js_setD (E := intS) 0 1 (jn_bin oAdd ov_add (jn_of (jr_ixD (R := (fun x => sh (intS x))) (g := fun z => z.2.1) 1 (jr_var (R := h0O) (a := s) 0))) jn_int)) fun a22 =>
 jb_cons (js_if (jt_cmp oEq ov_eqI (jn_bin oMod ov_mod (int_int T.m_int (jn_var (E := intS) (a := a21) 1)) jn_int) jn_int) (D := fun v => Kd.nx ((fun v33 : ((List Int) × Int × Int × Int × Int × Int) => [some (h0O v33), some (sh (intS a21))]) v)) (jb_cons (js_setD (E := intS) 0 2 (jn_bin oDiv ov_div (abs_int T.m_abs (jn_var (E := intS) (a := a21) 1)) jn_int)) fun a34 =>
 jb_cons (js_setD (E := intS) 0 3 jn_int) fun a35 =>
 jb_nil (x := (s.1, a22, a34, a35, s.2.2.2.2.1, s.2.2.2.2.2)) rfl (weak_mask [true, true] _)) (jb_cons (js_setD (E := intS) 0 5 (jn_bin oMod ov_mod (int_int T.m_int (jn_bin oAdd ov_add (jn_bin oAdd ov_add (jn_bin oMul ov_mul (jn_of (jr_ixD (R := (fun x => sh (intS x))) (g := fun z => z.2.2.2.2.2) 5 (jr_var (R := h0O) (a := (s.1, a22, s.2.2.1, s.2.2.2.1, s.2.2.2.2.1, s.2.2.2.2.2)) 0))) jn_int) (jn_bin oDiv ov_div (abs_int T.m_abs (jn_var (E := intS) (a := a21) 1)) jn_int)) jn_int)) jn_int)) fun a41 =>
 jb_cons (js_setD (E := intS) 0 4 jn_int) fun a42 =>
 jb_nil (x := (s.1, a22, s.2.2.1, s.2.2.2.1, a42, a41)) rfl (weak_mask [true, true] _))) fun a44 =>
 jb_nil (x := a44) rfl (weak_mask [true, false] _)) (by unfold N_law_load; first | (dsimp only [CC.sb]; done) | (dsimp only [CC.sb]; rfl) | rfl)
def M_law_draw (a : Int × Unit) (s : ((List Int) × Int × Int × Int × Int × Int)) : Option (Int × ((List Int) × Int × Int × Int × Int × Int)) :=
 bif decide (a.1 < (2 : Int)) then some ((0 : Int), s) else ((rng 0 (64 : Int)).bind fun x51 => loopGo (fun x15 s16 => (bif decide ((0 : Int) < s16.2.2.2.1) then some (decide ((1 : Int) < s16.2.2.1)) else some false).bind fun x50 => bif x50 then ((modO s16.2.2.1 a.1).bind fun a17 => (divO s16.2.2.1 a.1).bind fun a19 => some (a17, (s16.1, s16.2.1, a19, s16.2.2.2.1 - (1 : Int), s16.2.2.2.2.1, s16.2.2.2.2.2))).bind fun y49 => some (Out.rt y49) else (bif decide ((0 : Int) < s16.2.2.2.2.1) then some true else some (decide ((s16.1.length : Int) ≤ s16.2.1))).bind fun x48 => bif x48 then (some s16).bind fun y47 => some (Out.bk y47) else ((M_law_load () s16).bind fun r45 => some (r45.1, r45.2)).bind fun a46 => some (Out.nx a46.2)) x51 s).bind fun o67 => o67.k (fun a52 => (bif decide ((0 : Int) < a52.2.2.2.2.1) then some (a52.1, a52.2.1, a52.2.2.1, a52.2.2.2.1, a52.2.2.2.2.1 - (1 : Int), a52.2.2.2.2.2) else some a52).bind fun a56 => ((((mulO a56.2.2.2.2.2 (48271 : Int)).bind fun x57 => some (x57 + (7 : Int))).bind fun x58 => some x58).bind fun x59 => modO x59 (2147483647 : Int)).bind fun a60 => ((((((divO a60 (13 : Int)).bind fun x61 => mulO x61 (69621 : Int)).bind fun x62 => some (x62 + (5 : Int))).bind fun x63 => some x63).bind fun x64 => modO x64 (1000003 : Int)).bind fun x65 => modO x65 a.1).bind fun x66 => some (x66, (a56.1, a56.2.1, a56.2.2.1, a56.2.2.2.1, a56.2.2.2.2.1, a60))) fun r68 => some ((fun r => r) r68)
theorem ok_law_draw (T : Tx K mg) : FnOk P w K mg base CX0 2 T.a__law_draw T.d__law_draw ["tape", "many"] (spS h0O (fun a : Int × Unit => [intS a.1]) M_law_draw (fun x => sh (intS x))) :=
 fnd_state T.F__law_draw sc__law_draw (fun _ => rfl) (by decide) fun a s => JB.cong (
 jb_ifr (jt_cmp oLt ov_lt (jn_var (E := intS) (a := a.1) 1) jn_int) (jb_retS (R := (fun x => sh (intS x))) (Δ := fun s => some (h0O s) :: nonC 3) (s := s) (weak_mask [true, false, false, false] _) jn_int) (fun _ => trivial)
 (jb_consO (Γl := fun s14 : ((List Int) × Int × Int × Int × Int × Int) => [some (h0O s14), some (sh (intS a.1)), none, none]) (T := fun r : Int × ((List Int) × Int × Int × Int × Int × Int) => Kd.rt (some (h0O r.2) :: nonC 3) ((fun x => sh (intS x)) r.1)) (fun r => r) (js_for (Γl := fun s14 : ((List Int) × Int × Int × Int × Int × Int) => [some (h0O s14), some (sh (intS a.1)), none, none]) (T := fun r : Int × ((List Int) × Int × Int × Int × Int × Int) => Kd.rt (some (h0O r.2) :: nonC 3) ((fun x => sh (intS x)) r.1)) s (ji_rng1 T.m_range jn_int) (jg_name (E := intS) 2 sc__law_draw.nd) (weak_mask [true, true, false, false] _) (fun _ => all_lt rfl) (fun _ => ⟨trivial, nofun, nofun⟩) fun x15 s16 =>
 jb_ifx (D' := (fun r : Int × ((List Int) × Int × Int × Int × Int × Int) => Kd.rt (some (h0O r.2) :: nonC 3) ((fun x => sh (intS x)) r.1))) Out.rt (jt_w (jw_and (jt_cmp oGt ov_gt (jn_of (jr_ixD (R := (fun x => sh (intS x))) (g := fun z => z.2.2.2.1) 3 (jr_var (R := h0O) (a := s16) 0))) jn_int) (jw_and1 (jt_cmp oGt ov_gt (jn_of (jr_ixD (R := (fun x => sh (intS x))) (g := fun z => z.2.2.1) 2 (jr_var (R := h0O) (a := s16) 0))) jn_int)))) (jb_cons (js_set 3 sc__law_draw.nd (jn_bin oMod ov_mod (int_int T.m_int (jn_of (jr_ixD (R := (fun x => sh (intS x))) (g := fun z => z.2.2.1) 2 (jr_var (R := h0O) (a := s16) 0)))) (jn_var (E := intS) (a := a.1) 1))) fun a17 =>
 jb_cons (js_setD (E := intS) 0 3 (jn_bin oSub ov_sub (jn_of (jr_ixD (R := (fun x => sh (intS x))) (g := fun z => z.2.2.2.1) 3 (jr_var (R := h0O) (a := s16) 0))) jn_int)) fun a18 =>
 jb_cons (js_setD (E := intS) 0 2 (jn_bin oDiv ov_div (jn_of (jr_ixD (R := (fun x => sh (intS x))) (g := fun z => z.2.2.1) 2 (jr_var (R := h0O) (a := (s16.1, s16.2.1, s16.2.2.1, a18, s16.2.2.2.2.1, s16.2.2.2.2.2)) 0))) (jn_var (E := intS) (a := a.1) 1))) fun a19 =>
 jb_retS (R := (fun x => sh (intS x))) (Δ := fun s => some (h0O s) :: nonC 3) (s := (s16.1, s16.2.1, a19, a18, s16.2.2.2.2.1, s16.2.2.2.2.2)) (weak_mask [true, false, false, false] _) (jn_var (E := intS) (a := a17) 3)) (fun _ => rfl) (fun _ => trivial)
 (jb_ifx (D' := (fun s => Kd.bk ((fun s14 : ((List Int) × Int × Int × Int × Int × Int) => [some (h0O s14), some (sh (intS a.1)), none, none]) s))) Out.bk (jt_w (jw_or (jt_cmp oGt ov_gt (jn_of (jr_ixD (R := (fun x => sh (intS x))) (g := fun z => z.2.2.2.2.1) 4 (jr_var (R := h0O) (a := s16) 0))) jn_int) (jw_or1 (jt_cmp oGe ov_ge (jn_of (jr_ixD (R := (fun x => sh (intS x))) (g := fun z => z.2.1) 1 (jr_var (R := h0O) (a := s16) 0))) (len_lst T.m_len (jn_of (jr_ixD (R := (fun x => sh ((lstS intS) x))) (g := fun z => z.1) 0 (jr_var (R := h0O) (a := s16) 0)))))))) (jb_brk (x := s16) rfl (weak_mask [true, true, false, false] _)) (fun _ => rfl) (fun _ => trivial)
 (jb_cons (js_drop (Γ := fun s20 : ((List Int) × Int × Int × Int × Int × Int) => [some (h0O s20), some (sh (intS a.1)), some (sh (intS x15)), none]) (s := s16) (je_callS (O := h0O) 0 (fun s => s) (fun s u => u) (ok_law_load T) T.g__law_load T.F__law_load.kp T.b__law_load (Nat.le_of_ble_eq_true rfl) jea_nil)) fun a46 =>
 jb_nil (x := Out.nx a46.2) rfl (weak_mask [true, true, false, false] _)))) (fun _ => rfl) (fun _ => trivial) fun a52 =>
 jb_cons (js_if (jt_cmp oGt ov_gt (jn_of (jr_ixD (R := (fun x => sh (intS x))) (g := fun z => z.2.2.2.2.1) 4 (jr_var (R := h0O) (a := a52) 0))) jn_int) (D := fun v => Kd.nx ((fun v54 : ((List Int) × Int × Int × Int × Int × Int) => [some (h0O v54), some (sh (intS a.1)), none, none]) v)) (jb_cons (js_setD (E := intS) 0 4 (jn_bin oSub ov_sub (jn_of (jr_ixD (R := (fun x => sh (intS x))) (g := fun z => z.2.2.2.2.1) 4 (jr_var (R := h0O) (a := a52) 0))) jn_int)) fun a55 =>
 jb_nil (x := (a52.1, a52.2.1, a52.2.2.1, a52.2.2.2.1, a55, a52.2.2.2.2.2)) rfl (weak_mask [true, true, false, false] _)) (jb_nil (x := a52) rfl (weak_mask [true, true, false, false] _))) fun a56 =>
 jb_cons (js_setD (E := intS) 0 5 (jn_bin oMod ov_mod (int_int T.m_int (jn_bin oAdd ov_add (jn_bin oMul ov_mul (jn_of (jr_ixD (R := (fun x => sh (intS x))) (g := fun z => z.2.2.2.2.2) 5 (jr_var (R := h0O) (a := a56) 0))) jn_int) jn_int)) jn_int)) fun a60 =>
 jb_retS (R := (fun x => sh (intS x))) (Δ := fun s => some (h0O s) :: nonC 3) (s := (a56.1, a56.2.1, a56.2.2.1, a56.2.2.2.1, a56.2.2.2.2.1, a60)) (weak_mask [true, false, false, false] _) (jn_bin oMod ov_mod (jn_bin oMod ov_mod (int_int T.m_int (jn_bin oAdd ov_add (jn_bin oMul ov_mul (jn_bin oDiv ov_div (jn_of (jr_ixD (R := (fun x => sh (intS x))) (g := fun z => z.2.2.2.2.2) 5 (jr_var (R := h0O) (a := (a56.1, a56.2.1, a56.2.2.1, a56.2.2.2.1, a56.2.2.2.2.1, a60)) 0))) jn_int) jn_int) jn_int)) jn_int) (jn_var (E := intS) (a := a.1) 1)))) (by unfold M_law_draw; first | (dsimp only [CC.sb]; done) | (dsimp only [CC.sb]; rfl) | rfl)
def M_law_closed (a : Int × ((List (Int × Int)) × Unit)) : Option (List (List Bool)) :=
 ((rng 0 a.1).bind fun x110 => mapM (fun x108 => repM [false] a.1) x110).bind fun a111 => (foldGo (fun x113 s114 => (ixN s114.length x113.1).bind fun k115 => (s114[k115]?).bind fun x117 => (setAt x117 x113.2 true).bind fun a118 => some (s114.set k115 a118)) a.2.1 a111).bind fun a119 => ((rng 0 a.1).bind fun x146 => foldGo (fun x121 s122 => ((rng 0 a.1).bind fun x144 => foldGo (fun x124 s125 => (((atI s125 x124).bind fun x126 => atI x126 x121).bind fun x142 => bif x142 then (((rng 0 a.1).bind fun x139 => mapM (fun x135 => ((atI s125 x124).bind fun x136 => atI x136 x135).bind fun x138 => bif x138 then some true else (atI s125 x121).bind fun x137 => atI x137 x135) x139).bind fun x140 => setAt s125 x124 x140).bind fun a141 => some a141 else some s125).bind fun a143 => some a143) x144 s122).bind fun a145 => some a145) x146 a119).bind fun a147 => some a147
theorem ok_law_closed (T : Tx K mg) : FnOk P w K mg base CX0 1 T.a__law_closed T.d__law_closed ["many", "links"] (spP (fun a : Int × ((List (Int × Int)) × Unit) => [intS a.1, (lstS (prS intS intS)) a.2.1]) M_law_closed (lstO (lstO (fun x => sh (boolS x))))) :=
 fnd_pure (Δ := nonC 8) T.F__law_closed sc__law_closed (fun _ => rfl) (by decide) fun a => JB.cong (
 jb_cons (js_setLcC 2 sc__law_closed.nd (jn_lc sc__law_closed.nd (jc_map [("k", 7)] (jic_of (ji_rng1 T.m_range (jn_var (E := intS) (a := a.1) 0))) (show blkC ["many", "links", "up", "mid", "x", "y", "row", "k"] (defScope s__law_closed) _ [("k", 7)] = true by decide +kernel) (jg_name (E := intS) 7 sc__law_closed.nd) (by decide) (all_lt rfl) fun x108 => (jn_bin oRep ov_rep (JN.frz (fz_lst (fun _ => fz_sh)) (jn_dispL (E := boolS) (g := fun z => [z.1]) (ja_cons jn_bl ja_nil))) (jn_var (E := intS) (a := a.1) 0))))) fun a111 =>
 jb_cons (js_forS (Γl := fun s112 : (List (List Bool)) => [some (sh (intS a.1)), some (sh ((lstS (prS intS intS)) a.2.1)), some ((lstO (lstO (fun x => sh (boolS x)))) s112), none, none, none, none, none]) a111 (ji_lst (jn_var (E := (lstS (prS intS intS))) (a := a.2.1) 1)) (jg_pair (E := intS) (G := intS) 4 5 sc__law_closed.nd) (weak_mask [true, true, true, false, false, false, false, false] _) (fun _ => all_lt rfl) fun x113 s114 =>
 jb_borrow (E := (lstO (fun x => sh (boolS x)))) (xss := s114) 2 6 sc__law_closed.nd (jn_var (E := intS) (a := x113.1) 4) (hr := fun k115 v116 x117 =>
 jb_cons (js_al 6 rfl (js_setI (E := (fun x => sh (boolS x))) 6 jn_bl (jn_var (E := intS) (a := x113.2) 5))) fun a118 =>
 jb_back (E := (lstO (fun x => sh (boolS x)))) (v := v116) (xss := s114) (x := a118) 2 6 rfl rfl (jb_nil (x := (s114.set k115 a118)) rfl (weak_mask [true, true, true, false, false, false, false, false] _)))) fun a119 =>
 jb_cons (js_forS (Γl := fun s120 : (List (List Bool)) => [some (sh (intS a.1)), some (sh ((lstS (prS intS intS)) a.2.1)), some ((lstO (lstO (fun x => sh (boolS x)))) s120), none, none, none, none, none]) a119 (ji_rng1 T.m_range (jn_var (E := intS) (a := a.1) 0)) (jg_name (E := intS) 3 sc__law_closed.nd) (weak_mask [true, true, true, false, false, false, false, false] _) (fun _ => all_lt rfl) fun x121 s122 =>
 jb_cons (js_forS (Γl := fun s123 : (List (List Bool)) => [some (sh (intS a.1)), some (sh ((lstS (prS intS intS)) a.2.1)), some ((lstO (lstO (fun x => sh (boolS x)))) s123), some (sh (intS x121)), none, none, none, none]) s122 (ji_rng1 T.m_range (jn_var (E := intS) (a := a.1) 0)) (jg_name (E := intS) 4 sc__law_closed.nd) (weak_mask [true, true, true, true, false, false, false, false] _) (fun _ => all_lt rfl) fun x124 s125 =>
 jb_cons (js_if (jt_val (jn_of (jr_ix oIxL iv_lstO (jr_ix oIxL iv_lstO (jr_var (R := (lstO (lstO (fun x => sh (boolS x))))) (a := s125) 2) (jn_var (E := intS) (a := x124) 4)) (jn_var (E := intS) (a := x121) 3)))) (D := fun v => Kd.nx ((fun v134 : (List (List Bool)) => [some (sh (intS a.1)), some (sh ((lstS (prS intS intS)) a.2.1)), some ((lstO (lstO (fun x => sh (boolS x)))) v134), some (sh (intS x121)), some (sh (intS x124)), none, none, none]) v)) (jb_cons (js_setI (E := (lstO (fun x => sh (boolS x)))) 2 (jn_lc sc__law_closed.nd (jc_map [("y", 5)] (jic_of (ji_rng1 T.m_range (jn_var (E := intS) (a := a.1) 0))) (show blkC ["many", "links", "up", "mid", "x", "y", "row", "k"] (defScope s__law_closed) _ [("y", 5)] = true by decide +kernel) (jg_name (E := intS) 5 sc__law_closed.nd) (by decide) (all_lt rfl) fun x135 => (jn_or (jn_of (jr_ix oIxL iv_lstO (jr_ix oIxL iv_lstO (jr_var (R := (lstO (lstO (fun x => sh (boolS x))))) (a := s125) 2) (jn_var (E := intS) (a := x124) 4)) (jn_var (E := intS) (a := x135) 5))) (jn_one (jn_of (jr_ix oIxL iv_lstO (jr_ix oIxL iv_lstO (jr_var (R := (lstO (lstO (fun x => sh (boolS x))))) (a := s125) 2) (jn_var (E := intS) (a := x121) 3)) (jn_var (E := intS) (a := x135) 5))))))) (jn_var (E := intS) (a := x124) 4)) fun a141 =>
 jb_nil (x := a141) rfl (weak_mask [true, true, true, true, true, false, false, false] _)) (jb_nil (x := s125) rfl (weak_mask [true, true, true, true, true, false, false, false] _))) fun a143 =>
 jb_nil (x := a143) rfl (weak_mask [true, true, true, true, false, false, false, false] _)) fun a145 =>
 jb_nil (x := a145) rfl (weak_mask [true, true, true, false, false, false, false, false] _)) fun a147 =>
 jb_retO (R := (lstO (lstO (fun x => sh (boolS x))))) 2 (weak_none _)) (by unfold M_law_closed; first | (dsimp only [CC.sb]; done) | (dsimp only [CC.sb]; rfl) | rfl)
def M_law_drawn (a : Int × Unit) (s : ((List Int) × Int × Int × Int × Int × Int)) : Option ((List (List Bool)) × ((List Int) × Int × Int × Int × Int × Int)) :=
 ((M_law_draw (a.1 + (1 : Int), ()) s).bind fun r69 => some (r69.1, r69.2)).bind fun a70 => ((M_law_draw ((4 : Int), ()) a70.2).bind fun r72 => some (r72.1, r72.2)).bind fun a73 => bif decide (a73.1 = (3 : Int)) then (divO a70.1 (2 : Int)).bind fun a75 => ((rng 0 a75).bind fun x106 => foldGo (fun x95 s96 => (((((((modO (x95 + (1 : Int)) a75).bind fun x97 => some (x97, (a75 + x95, ()))).bind fun z98 => some (z98.1, z98.2.1)).bind fun x101 => some (x101, ())).bind fun y102 => some ((x95, a75 + x95), y102)).bind fun z103 => some [z103.1, z103.2.1]).bind fun x104 => catM s96 x104).bind fun a105 => some a105) x106 []).bind fun a107 => (M_law_closed (a70.1, (a107, ()))).bind fun x148 => some (x148, a73.2) else (((M_law_draw ((4 : Int), ()) a73.2).bind fun r151 => some (r151.1, r151.2)).bind fun q152 => some ((2 : Int) + q152.1, q152.2)).bind fun a153 => (repM [(0 : Int)] a70.1).bind fun a155 => (bif decide (a73.1 = (2 : Int)) then (((rng 0 a70.1).bind fun x166 => some (x166, a153.2)).bind fun q171 => mapME (fun x167 s168 => (M_law_draw ((4 : Int), ()) s168).bind fun r170 => some (r170.1, r170.2)) q171.1 q171.2).bind fun a172 => some (a172.2, a172.1) else some (a153.2, a155)).bind fun a173 => ((rng 0 a70.1).bind fun x209 => foldGo (fun x175 s176 => ((rng (x175 + (1 : Int)) a70.1).bind fun x207 => foldGo (fun x178 s179 => ((bif decide (a73.1 = (2 : Int)) then (((atI a173.2 x175).bind fun x182 => (atI a173.2 x178).bind fun x183 => some (decide (x182 < x183))).bind fun x184 => some (x184, s179.1)).bind fun q189 => bif q189.1 then ((M_law_draw ((4 : Int), ()) q189.2).bind fun r186 => some (r186.1, r186.2)).bind fun q188 => some (decide ((0 : Int) < q188.1), q188.2) else some (false, q189.2) else some (false, s179.1)).bind fun q194 => bif q194.1 then (appM s179.2 (x175, x178)).bind fun a193 => some (q194.2, a193) else some (q194.2, s179.2)).bind fun a195 => ((bif decide (a73.1 < (2 : Int)) then ((M_law_draw (a153.1, ()) a195.1).bind fun r198 => some (r198.1, r198.2)).bind fun q200 => some (decide (q200.1 = (0 : Int)), q200.2) else some (false, a195.1)).bind fun q205 => bif q205.1 then (appM a195.2 (x175, x178)).bind fun a204 => some (q205.2, a204) else some (q205.2, a195.2)).bind fun a206 => some (a206.1, a206.2)) x207 (s176.1, s176.2)).bind fun a208 => some (a208.1, a208.2)) x209 (a173.1, [])).bind fun a210 => (M_law_closed (a70.1, (a210.2, ()))).bind fun x211 => some (x211, a210.1)
theorem ok_law_drawn (T : Tx K mg) : FnOk P w K mg base CX0 3 T.a__law_drawn T.d__law_drawn ["tape", "most"] (spS h0O (fun a : Int × Unit => [intS a.1]) M_law_drawn (lstO (lstO (fun x => sh (boolS x))))) :=
 fnd_state T.F__law_drawn sc__law_drawn (fun _ => rfl) (by decide) fun a s => JB.cong (
 jb_cons (js_setE (Γ := fun s13 : ((List Int) × Int × Int × Int × Int × Int) => [some (h0O s13), some (sh (intS a.1)), none, none, none, none, none, none, none, none, none]) (s := s) 2 sc__law_drawn.nd (je_callS (O := h0O) 0 (fun s => s) (fun s u => u) (ok_law_draw T) T.g__law_draw T.F__law_draw.kp T.b__law_draw (Nat.le_of_ble_eq_true rfl) (jea_of (ja_cons (jn_bin oAdd ov_add (jn_var (E := intS) (a := a.1) 1) jn_int) ja_nil)))) fun a70 =>
 jb_cons (js_setE (Γ := fun s71 : ((List Int) × Int × Int × Int × Int × Int) => [some (h0O s71), some (sh (intS a.1)), some (sh (intS a70.1)), none, none, none, none, none, none, none, none]) (s := a70.2) 3 sc__law_drawn.nd (je_callS (O := h0O) 0 (fun s => s) (fun s u => u) (ok_law_draw T) T.g__law_draw T.F__law_draw.kp T.b__law_draw (Nat.le_of_ble_eq_true rfl) (jea_of (ja_cons jn_int ja_nil)))) fun a73 =>
 jb_cons (js_set 4 sc__law_drawn.nd (jn_nilLO (E := (fun x => sh ((prS intS intS) x))))) fun a74 =>
 jb_ifr (jt_cmp oEq ov_eqI (jn_var (E := intS) (a := a73.1) 3) jn_int) (jb_cons (js_set 8 sc__law_drawn.nd (jn_bin oDiv ov_div (jn_var (E := intS) (a := a70.1) 2) jn_int)) fun a75 =>
 JB.frz (i := 4) (o := (lstO (fun x => sh ((prS intS intS) x))) a74) (p := (lstS (prS intS intS)) a74) rfl ((fz_lst (fun _ => fz_sh)) _) (jb_cons (js_forS (Γl := fun s94 : (List (Int × Int)) => [some (h0O a73.2), some (sh (intS a.1)), some (sh (intS a70.1)), some (sh (intS a73.1)), some (sh ((lstS (prS intS intS)) s94)), none, none, none, some (sh (intS a75)), none, none]) a74 (ji_rng1 T.m_range (jn_var (E := intS) (a := a75) 8)) (jg_name (E := intS) 9 sc__law_drawn.nd) (weak_mask [true, true, true, true, true, false, false, false, true, false, false] _) (fun _ => all_lt rfl) fun x95 s96 =>
 jb_cons (js_set 4 sc__law_drawn.nd (jn_bin oCat ov_cat (jn_var (E := (lstS (prS intS intS))) (a := s96) 4) (JN.frz (fz_lst (fun _ => fz_sh)) (jn_dispL (E := (prS intS intS)) (g := fun z => [z.1, z.2.1]) (ja_cons (jn_tupG (P := (prS intS intS)) (g := fun z => (z.1, z.2.1)) (ja_cons (jn_var (E := intS) (a := x95) 9) (ja_cons (jn_bin oAdd ov_add (jn_var (E := intS) (a := a75) 8) (jn_var (E := intS) (a := x95) 9)) ja_nil))) (ja_cons (jn_tupG (P := (prS intS intS)) (g := fun z => (z.1, z.2.1)) (ja_cons (jn_bin oMod ov_mod (int_int T.m_int (jn_bin oAdd ov_add (jn_var (E := intS) (a := x95) 9) jn_int)) (jn_var (E := intS) (a := a75) 8)) (ja_cons (jn_bin oAdd ov_add (jn_var (E := intS) (a := a75) 8) (jn_var (E := intS) (a := x95) 9)) ja_nil))) ja_nil)))))) fun a105 =>
 JB.frz (i := 4) (o := (lstO (fun x => sh ((prS intS intS) x))) a105) (p := (lstS (prS intS intS)) a105) rfl ((fz_lst (fun _ => fz_sh)) _) (jb_nil (x := a105) rfl (weak_mask [true, true, true, true, true, false, false, false, true, false, false] _))) fun a107 =>
 jb_retS (R := (lstO (lstO (fun x => sh (boolS x))))) (Δ := fun s => some (h0O s) :: nonC 10) (s := a73.2) (weak_mask [true, false, false, false, false, false, false, false, false, false, false] _) (jn_call (ok_law_closed T) T.g__law_closed T.F__law_closed.kp T.b__law_closed (Nat.le_of_ble_eq_true rfl) (ja_cons (jn_var (E := intS) (a := a70.1) 2) (ja_cons (jn_var (E := (lstS (prS intS intS))) (a := a107) 4) ja_nil))))) (fun _ => trivial)
 (jb_cons (js_setE (Γ := fun s149 : ((List Int) × Int × Int × Int × Int × Int) => [some (h0O s149), some (sh (intS a.1)), some (sh (intS a70.1)), some (sh (intS a73.1)), some ((lstO (fun x => sh ((prS intS intS) x))) a74), none, none, none, none, none, none]) (s := a73.2) 5 sc__law_drawn.nd (je_bin oAdd ov_add (je_of jn_int) fun s150 => (je_callS (O := h0O) 0 (fun s => s) (fun s u => u) (ok_law_draw T) T.g__law_draw T.F__law_draw.kp T.b__law_draw (Nat.le_of_ble_eq_true rfl) (jea_of (ja_cons jn_int ja_nil))))) fun a153 =>
 jb_cons (js_set 6 sc__law_drawn.nd (jn_bin oRep ov_rep (JN.frz (fz_lst (fun _ => fz_sh)) (jn_dispL (E := intS) (g := fun z => [z.1]) (ja_cons jn_int ja_nil))) (jn_var (E := intS) (a := a70.1) 2))) fun a155 =>
 jb_cons (js_if (jt_cmp oEq ov_eqI (jn_var (E := intS) (a := a73.1) 3) jn_int) (D := fun v => Kd.nx ((fun v164 : ((List Int) × Int × Int × Int × Int × Int) × (List Int) => [some (h0O v164.1), some (sh (intS a.1)), some (sh (intS a70.1)), some (sh (intS a73.1)), some ((lstO (fun x => sh ((prS intS intS) x))) a74), some (sh (intS a153.1)), some ((lstO (fun x => sh (intS x))) v164.2), none, none, none, none]) v)) (jb_cons (js_setLcE (Γ := fun s165 : ((List Int) × Int × Int × Int × Int × Int) => [some (h0O s165), some (sh (intS a.1)), some (sh (intS a70.1)), some (sh (intS a73.1)), some ((lstO (fun x => sh ((prS intS intS) x))) a74), some (sh (intS a153.1)), some ((lstO (fun x => sh (intS x))) a155), none, none, none, none]) (s := a153.2) 6 sc__law_drawn.nd (jce_map [("k", 9)] (jie_of (ji_rng1 T.m_range (jn_var (E := intS) (a := a70.1) 2))) (show blkC ["tape", "most", "many", "way", "links", "rare", "levels", "x", "half", "k", "y"] (defScope s__law_drawn) _ [("k", 9)] = true by decide +kernel) (jg_name (E := intS) 9 sc__law_drawn.nd) (by decide) (fun _ => all_lt rfl) (up1 9) (up1l 9) (fun _ => all_non rfl) fun x167 s168 => (je_callS (O := h0O) 0 (fun s => s) (fun s u => u) (ok_law_draw T) T.g__law_draw T.F__law_draw.kp T.b__law_draw (Nat.le_of_ble_eq_true rfl) (jea_of (ja_cons jn_int ja_nil))))) fun a172 =>
 jb_nil (x := (a172.2, a172.1)) rfl (weak_mask [true, true, true, true, true, true, true, false, false, false, false] _)) (jb_nil (x := (a153.2, a155)) rfl (weak_mask [true, true, true, true, true, true, true, false, false, false, false] _))) fun a173 =>
 jb_cons (js_forS (Γl := fun s174 : ((List Int) × Int × Int × Int × Int × Int) × (List (Int × Int)) => [some (h0O s174.1), some (sh (intS a.1)), some (sh (intS a70.1)), some (sh (intS a73.1)), some ((lstO (fun x => sh ((prS intS intS) x))) s174.2), some (sh (intS a153.1)), some ((lstO (fun x => sh (intS x))) a173.2), none, none, none, none]) (a173.1, a74) (ji_rng1 T.m_range (jn_var (E := intS) (a := a70.1) 2)) (jg_name (E := intS) 7 sc__law_drawn.nd) (weak_mask [true, true, true, true, true, true, true, false, false, false, false] _) (fun _ => all_lt rfl) fun x175 s176 =>
 jb_cons (js_forS (Γl := fun s177 : ((List Int) × Int × Int × Int × Int × Int) × (List (Int × Int)) => [some (h0O s177.1), some (sh (intS a.1)), some (sh (intS a70.1)), some (sh (intS a73.1)), some ((lstO (fun x => sh ((prS intS intS) x))) s177.2), some (sh (intS a153.1)), some ((lstO (fun x => sh (intS x))) a173.2), some (sh (intS x175)), none, none, none]) (s176.1, s176.2) (ji_rng2 T.m_range (jn_bin oAdd ov_add (jn_var (E := intS) (a := x175) 7) jn_int) (jn_var (E := intS) (a := a70.1) 2)) (jg_name (E := intS) 10 sc__law_drawn.nd) (weak_mask [true, true, true, true, true, true, true, true, false, false, false] _) (fun _ => all_lt rfl) fun x178 s179 =>
 jb_cons (js_ifE (Γ := fun s180 : ((List Int) × Int × Int × Int × Int × Int) => [some (h0O s180), some (sh (intS a.1)), some (sh (intS a70.1)), some (sh (intS a73.1)), some ((lstO (fun x => sh ((prS intS intS) x))) s179.2), some (sh (intS a153.1)), some ((lstO (fun x => sh (intS x))) a173.2), some (sh (intS x175)), none, none, some (sh (intS x178))]) (s := s179.1) (jte_w (jwe_and (jte_of (jt_cmp oEq ov_eqI (jn_var (E := intS) (a := a73.1) 3) jn_int)) fun s181 => (jwe_and (jte_of (jt_cmp oLt ov_lt (jn_of (jr_ix oIxL iv_lstO (jr_var (R := (lstO (fun x => sh (intS x)))) (a := a173.2) 6) (jn_var (E := intS) (a := x175) 7))) (jn_of (jr_ix oIxL iv_lstO (jr_var (R := (lstO (fun x => sh (intS x)))) (a := a173.2) 6) (jn_var (E := intS) (a := x178) 10))))) fun s185 => (jwe_and1 (jte_cmp oGt ov_gt (je_callS (O := h0O) 0 (fun s => s) (fun s u => u) (ok_law_draw T) T.g__law_draw T.F__law_draw.kp T.b__law_draw (Nat.le_of_ble_eq_true rfl) (jea_of (ja_cons jn_int ja_nil))) fun s187 => (je_of jn_int)))))) (D := fun v => Kd.nx ((fun v192 : ((List Int) × Int × Int × Int × Int × Int) × (List (Int × Int)) => [some (h0O v192.1), some (sh (intS a.1)), some (sh (intS a70.1)), some (sh (intS a73.1)), some ((lstO (fun x => sh ((prS intS intS) x))) v192.2), some (sh (intS a153.1)), some ((lstO (fun x => sh (intS x))) a173.2), some (sh (intS x175)), none, none, some (sh (intS x178))]) v)) (fun s190 => jb_cons (js_app (E := (fun x => sh ((prS intS intS) x))) 4 (jn_tupG (P := (prS intS intS)) (g := fun z => (z.1, z.2.1)) (ja_cons (jn_var (E := intS) (a := x175) 7) (ja_cons (jn_var (E := intS) (a := x178) 10) ja_nil)))) fun a193 =>
 jb_nil (x := (s190, a193)) rfl (weak_mask [true, true, true, true, true, true, true, true, false, false, true] _)) fun s190 => jb_nil (x := (s190, s179.2)) rfl (weak_mask [true, true, true, true, true, true, true, true, false, false, true] _)) fun a195 =>
 jb_cons (js_ifE (Γ := fun s196 : ((List Int) × Int × Int × Int × Int × Int) => [some (h0O s196), some (sh (intS a.1)), some (sh (intS a70.1)), some (sh (intS a73.1)), some ((lstO (fun x => sh ((prS intS intS) x))) a195.2), some (sh (intS a153.1)), some ((lstO (fun x => sh (intS x))) a173.2), some (sh (intS x175)), none, none, some (sh (intS x178))]) (s := a195.1) (jte_w (jwe_and (jte_of (jt_cmp oLt ov_lt (jn_var (E := intS) (a := a73.1) 3) jn_int)) fun s197 => (jwe_and1 (jte_cmp oEq ov_eqI (je_callS (O := h0O) 0 (fun s => s) (fun s u => u) (ok_law_draw T) T.g__law_draw T.F__law_draw.kp T.b__law_draw (Nat.le_of_ble_eq_true rfl) (jea_of (ja_cons (jn_var (E := intS) (a := a153.1) 5) ja_nil))) fun s199 => (je_of jn_int))))) (D := fun v => Kd.nx ((fun v203 : ((List Int) × Int × Int × Int × Int × Int) × (List (Int × Int)) => [some (h0O v203.1), some (sh (intS a.1)), some (sh (intS a70.1)), some (sh (intS a73.1)), some ((lstO (fun x => sh ((prS intS intS) x))) v203.2), some (sh (intS a153.1)), some ((lstO (fun x => sh (intS x))) a173.2), some (sh (intS x175)), none, none, some (sh (intS x178))]) v)) (fun s201 => jb_cons (js_app (E := (fun x => sh ((prS intS intS) x))) 4 (jn_tupG (P := (prS intS intS)) (g := fun z => (z.1, z.2.1)) (ja_cons (jn_var (E := intS) (a := x175) 7) (ja_cons (jn_var (E := intS) (a := x178) 10) ja_nil)))) fun a204 =>
 jb_nil (x := (s201, a204)) rfl (weak_mask [true, true, true, true, true, true, true, true, false, false, true] _)) fun s201 => jb_nil (x := (s201, a195.2)) rfl (weak_mask [true, true, true, true, true, true, true, true, false, false, true] _)) fun a206 =>
 jb_nil (x := (a206.1, a206.2)) rfl (weak_mask [true, true, true, true, true, true, true, true, false, false, false] _)) fun a208 =>
 jb_nil (x := (a208.1, a208.2)) rfl (weak_mask [true, true, true, true, true, true, true, false, false, false, false] _)) fun a210 =>
 JB.frz (i := 4) (o := (lstO (fun x => sh ((prS intS intS) x))) a210.2) (p := (lstS (prS intS intS)) a210.2) rfl ((fz_lst (fun _ => fz_sh)) _) (jb_retS (R := (lstO (lstO (fun x => sh (boolS x))))) (Δ := fun s => some (h0O s) :: nonC 10) (s := a210.1) (weak_mask [true, false, false, false, false, false, false, false, false, false, false] _) (jn_call (ok_law_closed T) T.g__law_closed T.F__law_closed.kp T.b__law_closed (Nat.le_of_ble_eq_true rfl) (ja_cons (jn_var (E := intS) (a := a70.1) 2) (ja_cons (jn_var (E := (lstS (prS intS intS))) (a := a210.2) 4) ja_nil)))))) (by unfold M_law_drawn; first | (dsimp only [CC.sb]; done) | (dsimp only [CC.sb]; rfl) | rfl)
def M_law_covers (a : (List (List Bool)) × Unit) : Option (List (List Int)) :=
 ((rng 0 (a.1.length : Int)).bind fun x260 => foldGo (fun x225 s226 => ((rng 0 (a.1.length : Int)).bind fun x229 => compM (fun x227 => (atI a.1 x225).bind fun x228 => atI x228 x227) (fun x227 => some x227) x229).bind fun a230 => ((rng 0 (a.1.length : Int)).bind fun x233 => compM (fun x231 => (atI a.1 x231).bind fun x232 => atI x232 x225) (fun x231 => some x231) x233).bind fun a234 => (compM (fun x235 => ((compM (fun x236 => (atI a.1 x236).bind fun x237 => atI x237 x235) (fun x236 => some x236) a230).bind fun x238 => some (x238.length : Int)).bind fun x239 => some (decide (x239 = (0 : Int)))) (fun x235 => some x235) a230).bind fun a240 => (((compM (fun x252 => ((compM (fun x253 => (atI a.1 x252).bind fun x254 => atI x254 x253) (fun x253 => some x253) a234).bind fun x255 => some (x255.length : Int)).bind fun x256 => some (decide (x256 = (0 : Int)))) (fun x252 => some x252) a234).bind fun x257 => catM a240 x257).bind fun x258 => appM s226 x258).bind fun a259 => some a259) x260 []).bind fun a261 => some a261
theorem ok_law_covers (T : Tx K mg) : FnOk P w K mg base CX0 1 T.a__law_covers T.d__law_covers ["up"] (spP (fun a : (List (List Bool)) × Unit => [(lstS (lstS boolS)) a.1]) M_law_covers (lstO (fun x => sh ((lstS intS) x)))) :=
 fnd_pure (Δ := nonC 9) T.F__law_covers sc__law_covers (fun _ => rfl) (by decide) fun a => JB.cong (
 jb_cons (js_set 1 sc__law_covers.nd (len_lst T.m_len (jn_var (E := (lstS (lstS boolS))) (a := a.1) 0))) fun a222 =>
 jb_cons (js_set 2 sc__law_covers.nd (jn_nilLO (E := (fun x => sh ((lstS intS) x))))) fun a223 =>
 jb_cons (js_forS (Γl := fun s224 : (List (List Int)) => [some (sh ((lstS (lstS boolS)) a.1)), some (sh (intS a222)), some ((lstO (fun x => sh ((lstS intS) x))) s224), none, none, none, none, none, none]) a223 (ji_rng1 T.m_range (jn_var (E := intS) (a := a222) 1)) (jg_name (E := intS) 3 sc__law_covers.nd) (weak_mask [true, true, true, false, false, false, false, false, false] _) (fun _ => all_lt rfl) fun x225 s226 =>
 jb_cons (js_setLcC 4 sc__law_covers.nd (jn_lc sc__law_covers.nd (jc_of [("y", 7)] (jic_of (ji_rng1 T.m_range (jn_var (E := intS) (a := a222) 1))) (show blkC ["up", "many", "near", "x", "high", "low", "next_ones", "y", "z"] (defScope s__law_covers) _ [("y", 7)] = true by decide +kernel) (jg_name (E := intS) 7 sc__law_covers.nd) (by decide) (all_lt rfl) (fun x227 => jts_one (jt_val (jn_of (jr_ix oIxL iv_lst (jr_of (jn_of (jr_ix oIxL iv_lst (jr_of (jn_var (E := (lstS (lstS boolS))) (a := a.1) 0)) (jn_var (E := intS) (a := x225) 3)))) (jn_var (E := intS) (a := x227) 7))))) fun x227 => (jn_var (E := intS) (a := x227) 7)))) fun a230 =>
 jb_cons (js_setLcC 5 sc__law_covers.nd (jn_lc sc__law_covers.nd (jc_of [("y", 7)] (jic_of (ji_rng1 T.m_range (jn_var (E := intS) (a := a222) 1))) (show blkC ["up", "many", "near", "x", "high", "low", "next_ones", "y", "z"] (defScope s__law_covers) _ [("y", 7)] = true by decide +kernel) (jg_name (E := intS) 7 sc__law_covers.nd) (by decide) (all_lt rfl) (fun x231 => jts_one (jt_val (jn_of (jr_ix oIxL iv_lst (jr_of (jn_of (jr_ix oIxL iv_lst (jr_of (jn_var (E := (lstS (lstS boolS))) (a := a.1) 0)) (jn_var (E := intS) (a := x231) 7)))) (jn_var (E := intS) (a := x225) 3))))) fun x231 => (jn_var (E := intS) (a := x231) 7)))) fun a234 =>
 jb_cons (js_setLc 6 sc__law_covers.nd (jc_of [("y", 7)] (jic_own (jr_var (R := (lstO (fun x => sh (intS x)))) (a := a230) 4)) (show blkC ["up", "many", "near", "x", "high", "low", "next_ones", "y", "z"] (defScope s__law_covers) _ [("y", 7)] = true by decide +kernel) (jg_name (E := intS) 7 sc__law_covers.nd) (by decide) (all_lt rfl) (fun x235 => jts_one (jt_cmp oEq ov_eqI (len_lstO T.m_len (jr_of (jn_lc sc__law_covers.nd (jc_of [("z", 8)] (jic_own (jr_var (R := (lstO (fun x => sh (intS x)))) (a := a230) 4)) (show blkC ["up", "many", "near", "x", "high", "low", "next_ones", "y", "z"] (relS _ (defScope s__law_covers)) _ [("z", 8)] = true by decide +kernel) (jg_name (E := intS) 8 sc__law_covers.nd) (by decide) (all_lt rfl) (fun x236 => jts_one (jt_val (jn_of (jr_ix oIxL iv_lst (jr_of (jn_of (jr_ix oIxL iv_lst (jr_of (jn_var (E := (lstS (lstS boolS))) (a := a.1) 0)) (jn_var (E := intS) (a := x236) 8)))) (jn_var (E := intS) (a := x235) 7))))) fun x236 => (jn_var (E := intS) (a := x236) 8))))) jn_int)) fun x235 => (jn_var (E := intS) (a := x235) 7))) fun a240 =>
 JB.frz (i := 6) (o := (lstO (fun x => sh (intS x))) a240) (p := (lstS intS) a240) rfl ((fz_lst (fun _ => fz_sh)) _) (jb_cons (js_app (E := (fun x => sh ((lstS intS) x))) 2 (JN.frz (fz_lst (fun _ => fz_sh)) (jn_bin oCat ov_cat (jn_var (E := (lstS intS)) (a := a240) 6) (JN.frz (fz_lst (fun _ => fz_sh)) (jn_lc sc__law_covers.nd (jc_of [("y", 7)] (jic_own (jr_var (R := (lstO (fun x => sh (intS x)))) (a := a234) 5)) (show blkC ["up", "many", "near", "x", "high", "low", "next_ones", "y", "z"] (defScope s__law_covers) _ [("y", 7)] = true by decide +kernel) (jg_name (E := intS) 7 sc__law_covers.nd) (by decide) (all_lt rfl) (fun x252 => jts_one (jt_cmp oEq ov_eqI (len_lstO T.m_len (jr_of (jn_lc sc__law_covers.nd (jc_of [("z", 8)] (jic_own (jr_var (R := (lstO (fun x => sh (intS x)))) (a := a234) 5)) (show blkC ["up", "many", "near", "x", "high", "low", "next_ones", "y", "z"] (relS _ (defScope s__law_covers)) _ [("z", 8)] = true by decide +kernel) (jg_name (E := intS) 8 sc__law_covers.nd) (by decide) (all_lt rfl) (fun x253 => jts_one (jt_val (jn_of (jr_ix oIxL iv_lst (jr_of (jn_of (jr_ix oIxL iv_lst (jr_of (jn_var (E := (lstS (lstS boolS))) (a := a.1) 0)) (jn_var (E := intS) (a := x252) 7)))) (jn_var (E := intS) (a := x253) 8))))) fun x253 => (jn_var (E := intS) (a := x253) 8))))) jn_int)) fun x252 => (jn_var (E := intS) (a := x252) 7))))))) fun a259 =>
 jb_nil (x := a259) rfl (weak_mask [true, true, true, false, false, false, false, false, false] _))) fun a261 =>
 jb_retO (R := (lstO (fun x => sh ((lstS intS) x)))) 2 (weak_none _)) (by unfold M_law_covers; first | (dsimp only [CC.sb]; done) | (dsimp only [CC.sb]; rfl) | rfl)
def M_law_shuffled (a : Int × Unit) (s : ((List Int) × Int × Int × Int × Int × Int)) : Option ((List Int) × ((List Int) × Int × Int × Int × Int × Int)) :=
 (rng 0 a.1).bind fun a264 => (((rng 0 (((a264, s).1).length : Int)).bind fun x266 => some (x266, (a264, s))).bind fun q273 => mapME (fun x267 s268 => ((M_law_draw ((s268.1.length : Int), ()) s268.2).bind fun r270 => some (r270.1, (s268.1, r270.2))).bind fun q271 => (popAt q271.2.1 q271.1).bind fun r272 => some (r272.1, (r272.2, q271.2.2))) q273.1 q273.2).bind fun q274 => some (q274.1, q274.2.2)
theorem ok_law_shuffled (T : Tx K mg) : FnOk P w K mg base CX0 3 T.a__law_shuffled T.d__law_shuffled ["tape", "many"] (spS h0O (fun a : Int × Unit => [intS a.1]) M_law_shuffled (lstO (fun x => sh (intS x)))) :=
 fnd_state T.F__law_shuffled sc__law_shuffled (fun _ => rfl) (by decide) fun a s => JB.cong (
 jb_cons (js_set 2 sc__law_shuffled.nd (list_rng T.m_list T.m_range (jn_var (E := intS) (a := a.1) 1))) fun a264 =>
 JB.map (g := fun q => (q.1, q.2.2)) (jb_retE (R := (lstO (fun x => sh (intS x)))) (Γ := fun s265 : (List Int) × ((List Int) × Int × Int × Int × Int × Int) => [some (h0O s265.2), some (sh (intS a.1)), some ((lstO (fun x => sh (intS x))) s265.1), none]) (s := (a264, s)) (Δ := fun s => some (h0O s.2) :: nonC 3) (fun _ => (weak_mask [true, false, false, false] _)) (je_lc sc__law_shuffled.nd (jce_map [("k", 3)] (jie_of (ji_rng1 T.m_range (len_lstO T.m_len (jr_var (R := (lstO (fun x => sh (intS x)))) (a := (a264, s).1) 2)))) (show blkC ["tape", "many", "left", "k"] (defScope s__law_shuffled) _ [("k", 3)] = true by decide +kernel) (jg_name (E := intS) 3 sc__law_shuffled.nd) (by decide) (fun _ => all_lt rfl) (up1 3) (up1l 3) (fun _ => all_non rfl) fun x267 s268 => (je_popAt (E := (fun x => sh (intS x))) 2 (fun s => s.1) (fun s u => (u, s.2)) (je_callS (O := h0O) 0 (fun s => s.2) (fun s u => (s.1, u)) (ok_law_draw T) T.g__law_draw T.F__law_draw.kp T.b__law_draw (Nat.le_of_ble_eq_true rfl) (jea_of (ja_cons (len_lstO T.m_len (jr_var (R := (lstO (fun x => sh (intS x)))) (a := s268.1) 2)) ja_nil))))))) (fun _ => rfl)) (by unfold M_law_shuffled; first | (dsimp only [CC.sb]; done) | (dsimp only [CC.sb]; rfl) | rfl)
def M_law_told (a : (List (List Bool)) × ((List Int) × Unit)) : Option (Int × (List (Int × Int))) :=
 ((rng 0 (a.1.length : Int)).bind fun x308 => foldGo (fun x297 s298 => (((rng 0 (a.1.length : Int)).bind fun x305 => compM (fun x299 => (atI a.1 x297).bind fun x304 => atI x304 x299) (fun x299 => ((atI a.2.1 x297).bind fun x300 => ((atI a.2.1 x299).bind fun x301 => some (x301, ())).bind fun y302 => some (x300, y302)).bind fun z303 => some (z303.1, z303.2.1)) x305).bind fun x306 => catM s298 x306).bind fun a307 => some a307) x308 []).bind fun a309 => some ((a.1.length : Int), sortP a309)
theorem ok_law_told (T : Tx K mg) : FnOk P w K mg base CX0 1 T.a__law_told T.d__law_told ["up", "names"] (spP (fun a : (List (List Bool)) × ((List Int) × Unit) => [(lstS (lstS boolS)) a.1, (lstS intS) a.2.1]) M_law_told (fun x => sh ((prS intS (tupS (prS intS intS))) x))) :=
 fnd_pure (Δ := nonC 5) T.F__law_told sc__law_told (fun _ => rfl) (by decide) fun a => JB.cong (
 jb_cons (js_set 2 sc__law_told.nd (jn_nilLO (E := (fun x => sh ((prS intS intS) x))))) fun a277 =>
 JB.frz (i := 2) (o := (lstO (fun x => sh ((prS intS intS) x))) a277) (p := (lstS (prS intS intS)) a277) rfl ((fz_lst (fun _ => fz_sh)) _) (jb_cons (js_forS (Γl := fun s296 : (List (Int × Int)) => [some (sh ((lstS (lstS boolS)) a.1)), some (sh ((lstS intS) a.2.1)), some (sh ((lstS (prS intS intS)) s296)), none, none]) a277 (ji_rng1 T.m_range (len_lst T.m_len (jn_var (E := (lstS (lstS boolS))) (a := a.1) 0))) (jg_name (E := intS) 3 sc__law_told.nd) (weak_mask [true, true, true, false, false] _) (fun _ => all_lt rfl) fun x297 s298 =>
 jb_cons (js_set 2 sc__law_told.nd (jn_bin oCat ov_cat (jn_var (E := (lstS (prS intS intS))) (a := s298) 2) (JN.frz (fz_lst (fun _ => fz_sh)) (jn_lc sc__law_told.nd (jc_of [("y", 4)] (jic_of (ji_rng1 T.m_range (len_lst T.m_len (jn_var (E := (lstS (lstS boolS))) (a := a.1) 0)))) (show blkC ["up", "names", "pairs", "x", "y"] (defScope s__law_told) _ [("y", 4)] = true by decide +kernel) (jg_name (E := intS) 4 sc__law_told.nd) (by decide) (all_lt rfl) (fun x299 => jts_one (jt_val (jn_of (jr_ix oIxL iv_lst (jr_of (jn_of (jr_ix oIxL iv_lst (jr_of (jn_var (E := (lstS (lstS boolS))) (a := a.1) 0)) (jn_var (E := intS) (a := x297) 3)))) (jn_var (E := intS) (a := x299) 4))))) fun x299 => (jn_tupG (P := (prS intS intS)) (g := fun z => (z.1, z.2.1)) (ja_cons (jn_of (jr_ix oIxL iv_lst (jr_of (jn_var (E := (lstS intS)) (a := a.2.1) 1)) (jn_var (E := intS) (a := x297) 3))) (ja_cons (jn_of (jr_ix oIxL iv_lst (jr_of (jn_var (E := (lstS intS)) (a := a.2.1) 1)) (jn_var (E := intS) (a := x299) 4))) ja_nil)))))))) fun a307 =>
 JB.frz (i := 2) (o := (lstO (fun x => sh ((prS intS intS) x))) a307) (p := (lstS (prS intS intS)) a307) rfl ((fz_lst (fun _ => fz_sh)) _) (jb_nil (x := a307) rfl (weak_mask [true, true, true, false, false] _))) fun a309 =>
 jb_ret (weak_none _) (jn_tupG (P := (prS intS (tupS (prS intS intS)))) (g := fun z => (z.1, z.2.1)) (ja_cons (len_lst T.m_len (jn_var (E := (lstS (lstS boolS))) (a := a.1) 0)) (ja_cons (tup_lst T.m_tuple (JN.frz (fz_lst (fun _ => fz_sh)) (sorted_prs T.m_sorted (jn_var (E := (lstS (prS intS intS))) (a := a309) 2)))) ja_nil))))) (by unfold M_law_told; first | (dsimp only [CC.sb]; done) | (dsimp only [CC.sb]; rfl) | rfl)
def M_law_fits (a : (List (List Bool)) × ((List Int) × (Int × (Int × Unit)))) : Option Bool :=
 ((rng 0 (a.1.length : Int)).bind fun x383 => loopGo (fun x363 s364 => (((atI a.1 x363).bind fun x365 => atI x365 a.2.2.1).bind fun x371 => bif x371 then ((atI a.2.1 x363).bind fun x366 => some (!decide (x366 = a.2.2.2.1))).bind fun x370 => bif x370 then (((atI a.2.1 x363).bind fun x367 => atI a.1 x367).bind fun x368 => atI x368 a.2.2.2.1).bind fun x369 => some (!x369) else some false else some false).bind fun x382 => bif x382 then (some false).bind fun y381 => some (Out.rt y381) else (((atI a.1 a.2.2.1).bind fun x372 => atI x372 x363).bind fun x378 => bif x378 then ((atI a.2.1 x363).bind fun x373 => some (!decide (x373 = a.2.2.2.1))).bind fun x377 => bif x377 then ((atI a.1 a.2.2.2.1).bind fun x374 => (atI a.2.1 x363).bind fun x375 => atI x374 x375).bind fun x376 => some (!x376) else some false else some false).bind fun x380 => bif x380 then (some false).bind fun y379 => some (Out.rt y379) else some (Out.nx ())) x383 ()).bind fun o385 => o385.k (fun a384 => some true) fun r386 => some ((fun r => r) r386)
theorem ok_law_fits (T : Tx K mg) : FnOk P w K mg base CX0 1 T.a__law_fits T.d__law_fits ["up", "row", "x", "value"] (spP (fun a : (List (List Bool)) × ((List Int) × (Int × (Int × Unit))) => [(lstS (lstS boolS)) a.1, (lstS intS) a.2.1, intS a.2.2.1, intS a.2.2.2.1]) M_law_fits (fun x => sh (boolS x))) :=
 fnd_pure (Δ := nonC 5) T.F__law_fits sc__law_fits (fun _ => rfl) (by decide) fun a => JB.cong (
 jb_consO (Γl := fun s362 : Unit => [some (sh ((lstS (lstS boolS)) a.1)), some (sh ((lstS intS) a.2.1)), some (sh (intS a.2.2.1)), some (sh (intS a.2.2.2.1)), none]) (T := fun r : Bool => Kd.rt (nonC 5) ((fun x => sh (boolS x)) r)) (fun r => r) (js_for (Γl := fun s362 : Unit => [some (sh ((lstS (lstS boolS)) a.1)), some (sh ((lstS intS) a.2.1)), some (sh (intS a.2.2.1)), some (sh (intS a.2.2.2.1)), none]) (T := fun r : Bool => Kd.rt (nonC 5) ((fun x => sh (boolS x)) r)) () (ji_rng1 T.m_range (len_lst T.m_len (jn_var (E := (lstS (lstS boolS))) (a := a.1) 0))) (jg_name (E := intS) 4 sc__law_fits.nd) (weak_mask [true, true, true, true, false] _) (fun _ => all_lt rfl) (fun _ => ⟨trivial, nofun, nofun⟩) fun x363 s364 =>
 jb_ifx (D' := (fun r : Bool => Kd.rt (nonC 5) ((fun x => sh (boolS x)) r))) Out.rt (jt_w (jw_and (jt_val (jn_of (jr_ix oIxL iv_lst (jr_of (jn_of (jr_ix oIxL iv_lst (jr_of (jn_var (E := (lstS (lstS boolS))) (a := a.1) 0)) (jn_var (E := intS) (a := x363) 4)))) (jn_var (E := intS) (a := a.2.2.1) 2)))) (jw_and (jt_cmp oNe ov_neI (jn_of (jr_ix oIxL iv_lst (jr_of (jn_var (E := (lstS intS)) (a := a.2.1) 1)) (jn_var (E := intS) (a := x363) 4))) (jn_var (E := intS) (a := a.2.2.2.1) 3)) (jw_and1 (jt_not (jt_val (jn_of (jr_ix oIxL iv_lst (jr_of (jn_of (jr_ix oIxL iv_lst (jr_of (jn_var (E := (lstS (lstS boolS))) (a := a.1) 0)) (jn_of (jr_ix oIxL iv_lst (jr_of (jn_var (E := (lstS intS)) (a := a.2.1) 1)) (jn_var (E := intS) (a := x363) 4)))))) (jn_var (E := intS) (a := a.2.2.2.1) 3))))))))) (jb_ret (weak_none _) jn_bl) (fun _ => rfl) (fun _ => trivial)
 (jb_ifx (D' := (fun r : Bool => Kd.rt (nonC 5) ((fun x => sh (boolS x)) r))) Out.rt (jt_w (jw_and (jt_val (jn_of (jr_ix oIxL iv_lst (jr_of (jn_of (jr_ix oIxL iv_lst (jr_of (jn_var (E := (lstS (lstS boolS))) (a := a.1) 0)) (jn_var (E := intS) (a := a.2.2.1) 2)))) (jn_var (E := intS) (a := x363) 4)))) (jw_and (jt_cmp oNe ov_neI (jn_of (jr_ix oIxL iv_lst (jr_of (jn_var (E := (lstS intS)) (a := a.2.1) 1)) (jn_var (E := intS) (a := x363) 4))) (jn_var (E := intS) (a := a.2.2.2.1) 3)) (jw_and1 (jt_not (jt_val (jn_of (jr_ix oIxL iv_lst (jr_of (jn_of (jr_ix oIxL iv_lst (jr_of (jn_var (E := (lstS (lstS boolS))) (a := a.1) 0)) (jn_var (E := intS) (a := a.2.2.2.1) 3)))) (jn_of (jr_ix oIxL iv_lst (jr_of (jn_var (E := (lstS intS)) (a := a.2.1) 1)) (jn_var (E := intS) (a := x363) 4))))))))))) (jb_ret (weak_none _) jn_bl) (fun _ => rfl) (fun _ => trivial)
 (jb_nil (x := Out.nx ()) rfl (weak_mask [true, true, true, true, false] _)))) (fun _ => rfl) (fun _ => trivial) fun a384 =>
 jb_ret (weak_none _) jn_bl) (by unfold M_law_fits; first | (dsimp only [CC.sb]; done) | (dsimp only [CC.sb]; rfl) | rfl)
def M_law_map (a : (List (List Bool)) × Unit) (s : ((List Int) × Int × Int × Int × Int × Int)) : Option ((List Int) × ((List Int) × Int × Int × Int × Int × Int)) :=
 (rng 0 (a.1.length : Int)).bind fun a316 => ((bif decide ((0 : Int) < (a.1.length : Int)) then ((M_law_draw ((3 : Int), ()) s).bind fun r319 => some (r319.1, r319.2)).bind fun q321 => some (decide (q321.1 = (0 : Int)), q321.2) else some (false, s)).bind fun q342 => bif q342.1 then (((((M_law_draw ((a.1.length : Int), ()) q342.2).bind fun r334 => some (r334.1, r334.2)).bind fun q336 => some ((q336.1, ()), q336.2)).bind fun q337 => some ([q337.1.1], q337.2)).bind fun q339 => (repM q339.1 (a.1.length : Int)).bind fun z340 => some (z340, q339.2)).bind fun a341 => some (a341.2, a341.1) else some (q342.2, a316)).bind fun a343 => (((((((mulO (4 : Int) (a.1.length : Int)).bind fun x345 => some (x345 + (1 : Int))).bind fun x346 => some (x346, ())).bind fun x348 => some (x348, a343.1)).bind fun q349 => (M_law_draw q349.1 q349.2).bind fun r350 => some (r350.1, r350.2)).bind fun q351 => (rng 0 q351.1).bind fun r352 => some (r352, q351.2)).bind fun q392 => foldGo (fun x354 s355 => ((M_law_draw ((a.1.length : Int), ()) s355.1).bind fun r357 => some (r357.1, r357.2)).bind fun a358 => ((M_law_draw ((a.1.length : Int), ()) a358.2).bind fun r360 => some (r360.1, r360.2)).bind fun a361 => ((M_law_fits (a.1, (s355.2, (a358.1, (a361.1, ()))))).bind fun x390 => bif x390 then (setAt s355.2 a358.1 a361.1).bind fun a389 => some a389 else some s355.2).bind fun a391 => some (a361.2, a391)) q392.1 (q392.2, a343.2)).bind fun a393 => some (a393.2, a393.1)
theorem ok_law_map (T : Tx K mg) : FnOk P w K mg base CX0 3 T.a__law_map T.d__law_map ["tape", "up"] (spS h0O (fun a : (List (List Bool)) × Unit => [(lstS (lstS boolS)) a.1]) M_law_map (lstO (fun x => sh (intS x)))) :=
 fnd_state T.F__law_map sc__law_map (fun _ => rfl) (by decide) fun a s => JB.cong (
 jb_cons (js_set 2 sc__law_map.nd (len_lst T.m_len (jn_var (E := (lstS (lstS boolS))) (a := a.1) 1))) fun a315 =>
 jb_cons (js_set 3 sc__law_map.nd (list_rng T.m_list T.m_range (jn_var (E := intS) (a := a315) 2))) fun a316 =>
 jb_cons (js_ifE (Γ := fun s317 : ((List Int) × Int × Int × Int × Int × Int) => [some (h0O s317), some (sh ((lstS (lstS boolS)) a.1)), some (sh (intS a315)), some ((lstO (fun x => sh (intS x))) a316), none, none, none]) (s := s) (jte_w (jwe_and (jte_of (jt_cmp oGt ov_gt (jn_var (E := intS) (a := a315) 2) jn_int)) fun s318 => (jwe_and1 (jte_cmp oEq ov_eqI (je_callS (O := h0O) 0 (fun s => s) (fun s u => u) (ok_law_draw T) T.g__law_draw T.F__law_draw.kp T.b__law_draw (Nat.le_of_ble_eq_true rfl) (jea_of (ja_cons jn_int ja_nil))) fun s320 => (je_of jn_int))))) (D := fun v => Kd.nx ((fun v332 : ((List Int) × Int × Int × Int × Int × Int) × (List Int) => [some (h0O v332.1), some (sh ((lstS (lstS boolS)) a.1)), some (sh (intS a315)), some ((lstO (fun x => sh (intS x))) v332.2), none, none, none]) v)) (fun s322 => jb_cons (js_setE (Γ := fun s333 : ((List Int) × Int × Int × Int × Int × Int) => [some (h0O s333), some (sh ((lstS (lstS boolS)) a.1)), some (sh (intS a315)), some ((lstO (fun x => sh (intS x))) a316), none, none, none]) (s := s322) 3 sc__law_map.nd (je_bin oRep ov_rep (JE.frz (fz_lst (fun _ => fz_sh)) (je_dispL (E := intS) (g := fun z => [z.1]) (jea_cons (je_callS (O := h0O) 0 (fun s => s) (fun s u => u) (ok_law_draw T) T.g__law_draw T.F__law_draw.kp T.b__law_draw (Nat.le_of_ble_eq_true rfl) (jea_of (ja_cons (jn_var (E := intS) (a := a315) 2) ja_nil))) fun s335 => jea_nil))) fun s338 => (je_of (jn_var (E := intS) (a := a315) 2)))) fun a341 =>
 jb_nil (x := (a341.2, a341.1)) rfl (weak_mask [true, true, true, true, false, false, false] _)) fun s322 => jb_nil (x := (s322, a316)) rfl (weak_mask [true, true, true, true, false, false, false] _)) fun a343 =>
 jb_cons (js_forSE (Γ := fun s344 : ((List Int) × Int × Int × Int × Int × Int) => [some (h0O s344), some (sh ((lstS (lstS boolS)) a.1)), some (sh (intS a315)), some ((lstO (fun x => sh (intS x))) a343.2), none, none, none]) (s := a343.1) (Γl := fun s353 : ((List Int) × Int × Int × Int × Int × Int) × (List Int) => [some (h0O s353.1), some (sh ((lstS (lstS boolS)) a.1)), some (sh (intS a315)), some ((lstO (fun x => sh (intS x))) s353.2), none, none, none]) (fun t => (t, a343.2)) (jie_rng1 T.m_range (je_callS (O := h0O) 0 (fun s => s) (fun s u => u) (ok_law_draw T) T.g__law_draw T.F__law_draw.kp T.b__law_draw (Nat.le_of_ble_eq_true rfl) (jea_of (ja_cons (jn_bin oAdd ov_add (jn_bin oMul ov_mul jn_int (jn_var (E := intS) (a := a315) 2)) jn_int) ja_nil)))) (jg_name (E := intS) 4 sc__law_map.nd) (fun _ => (weak_mask [true, true, true, true, false, false, false] _)) (fun _ => all_lt rfl) fun x354 s355 =>
 jb_cons (js_setE (Γ := fun s356 : ((List Int) × Int × Int × Int × Int × Int) => [some (h0O s356), some (sh ((lstS (lstS boolS)) a.1)), some (sh (intS a315)), some ((lstO (fun x => sh (intS x))) s355.2), some (sh (intS x354)), none, none]) (s := s355.1) 5 sc__law_map.nd (je_callS (O := h0O) 0 (fun s => s) (fun s u => u) (ok_law_draw T) T.g__law_draw T.F__law_draw.kp T.b__law_draw (Nat.le_of_ble_eq_true rfl) (jea_of (ja_cons (jn_var (E := intS) (a := a315) 2) ja_nil)))) fun a358 =>
 jb_cons (js_setE (Γ := fun s359 : ((List Int) × Int × Int × Int × Int × Int) => [some (h0O s359), some (sh ((lstS (lstS boolS)) a.1)), some (sh (intS a315)), some ((lstO (fun x => sh (intS x))) s355.2), some (sh (intS x354)), some (sh (intS a358.1)), none]) (s := a358.2) 6 sc__law_map.nd (je_callS (O := h0O) 0 (fun s => s) (fun s u => u) (ok_law_draw T) T.g__law_draw T.F__law_draw.kp T.b__law_draw (Nat.le_of_ble_eq_true rfl) (jea_of (ja_cons (jn_var (E := intS) (a := a315) 2) ja_nil)))) fun a361 =>
 jb_cons (js_if (jt_val (jn_thaw (i := 3) (o := (lstO (fun x => sh (intS x))) s355.2) (p := (lstS intS) s355.2) flat_bool rfl ((fz_lst (fun _ => fz_sh)) _) (jn_call (ok_law_fits T) T.g__law_fits T.F__law_fits.kp T.b__law_fits (Nat.le_of_ble_eq_true rfl) (ja_cons (jn_var (E := (lstS (lstS boolS))) (a := a.1) 1) (ja_cons (jn_var (E := (lstS intS)) (a := s355.2) 3) (ja_cons (jn_var (E := intS) (a := a358.1) 5) (ja_cons (jn_var (E := intS) (a := a361.1) 6) ja_nil))))))) (D := fun v => Kd.nx ((fun v388 : (List Int) => [some (h0O a361.2), some (sh ((lstS (lstS boolS)) a.1)), some (sh (intS a315)), some ((lstO (fun x => sh (intS x))) v388), some (sh (intS x354)), some (sh (intS a358.1)), some (sh (intS a361.1))]) v)) (jb_cons (js_setI (E := (fun x => sh (intS x))) 3 (jn_var (E := intS) (a := a361.1) 6) (jn_var (E := intS) (a := a358.1) 5)) fun a389 =>
 jb_nil (x := a389) rfl (weak_mask [true, true, true, true, true, true, true] _)) (jb_nil (x := s355.2) rfl (weak_mask [true, true, true, true, true, true, true] _))) fun a391 =>
 jb_nil (x := (a361.2, a391)) rfl (weak_mask [true, true, true, true, false, false, false] _)) fun a393 =>
 jb_retOS (R := (lstO (fun x => sh (intS x)))) (Δ := fun s => some (h0O s) :: nonC 6) 3 (weak_mask [true, false, false, false, false, false, false] _)) (by unfold M_law_map; first | (dsimp only [CC.sb]; done) | (dsimp only [CC.sb]; rfl) | rfl)
def M_law_signs (a : (List (List Bool)) × Unit) : Option (List Int) :=
 (((rng 0 (a.1.length : Int)).bind fun x411 => mapM (fun x404 => ((((rng 0 (a.1.length : Int)).bind fun x407 => compM (fun x405 => (atI a.1 x405).bind fun x406 => atI x406 x404) (fun x405 => some x405) x407).bind fun x408 => some (x408.length : Int)).bind fun x409 => some (x409, (x404, ()))).bind fun z410 => some (z410.1, z410.2.1)) x411).bind fun x412 => some (sortP x412)).bind fun a413 => (repM [(0 : Int)] (a.1.length : Int)).bind fun a415 => (foldGo (fun x417 s418 => (((((rng 0 (a.1.length : Int)).bind fun x421 => compM (fun x419 => (atI a.1 x419).bind fun x420 => atI x420 x417.2) (fun x419 => atI s418 x419) x421).bind fun x422 => some x422.sum).bind fun x423 => some ((1 : Int) - x423)).bind fun x424 => setAt s418 x417.2 x424).bind fun a425 => some a425) a413 a415).bind fun a426 => some a426
theorem ok_law_signs (T : Tx K mg) : FnOk P w K mg base CX0 1 T.a__law_signs T.d__law_signs ["up"] (spP (fun a : (List (List Bool)) × Unit => [(lstS (lstS boolS)) a.1]) M_law_signs (lstO (fun x => sh (intS x)))) :=
 fnd_pure (Δ := nonC 7) T.F__law_signs sc__law_signs (fun _ => rfl) (by decide) fun a => JB.cong (
 jb_cons (js_set 1 sc__law_signs.nd (len_lst T.m_len (jn_var (E := (lstS (lstS boolS))) (a := a.1) 0))) fun a403 =>
 jb_cons (js_set 2 sc__law_signs.nd (sorted_prs T.m_sorted (JN.frz (fz_lst (fun _ => fz_sh)) (jn_lc sc__law_signs.nd (jc_map [("x", 5)] (jic_of (ji_rng1 T.m_range (jn_var (E := intS) (a := a403) 1))) (show blkC ["up", "many", "ranked", "signs", "rank", "x", "y"] (defScope s__law_signs) _ [("x", 5)] = true by decide +kernel) (jg_name (E := intS) 5 sc__law_signs.nd) (by decide) (all_lt rfl) fun x404 => (jn_tupG (P := (prS intS intS)) (g := fun z => (z.1, z.2.1)) (ja_cons (len_lstO T.m_len (jr_of (jn_lc sc__law_signs.nd (jc_of [("y", 6)] (jic_of (ji_rng1 T.m_range (jn_var (E := intS) (a := a403) 1))) (show blkC ["up", "many", "ranked", "signs", "rank", "x", "y"] (relS _ (defScope s__law_signs)) _ [("y", 6)] = true by decide +kernel) (jg_name (E := intS) 6 sc__law_signs.nd) (by decide) (all_lt rfl) (fun x405 => jts_one (jt_val (jn_of (jr_ix oIxL iv_lst (jr_of (jn_of (jr_ix oIxL iv_lst (jr_of (jn_var (E := (lstS (lstS boolS))) (a := a.1) 0)) (jn_var (E := intS) (a := x405) 6)))) (jn_var (E := intS) (a := x404) 5))))) fun x405 => (jn_var (E := intS) (a := x405) 6))))) (ja_cons (jn_var (E := intS) (a := x404) 5) ja_nil)))))))) fun a413 =>
 jb_cons (js_set 3 sc__law_signs.nd (jn_bin oRep ov_rep (JN.frz (fz_lst (fun _ => fz_sh)) (jn_dispL (E := intS) (g := fun z => [z.1]) (ja_cons jn_int ja_nil))) (jn_var (E := intS) (a := a403) 1))) fun a415 =>
 JB.frz (i := 2) (o := (lstO (fun x => sh ((prS intS intS) x))) a413) (p := (lstS (prS intS intS)) a413) rfl ((fz_lst (fun _ => fz_sh)) _) (jb_cons (js_forS (Γl := fun s416 : (List Int) => [some (sh ((lstS (lstS boolS)) a.1)), some (sh (intS a403)), some (sh ((lstS (prS intS intS)) a413)), some ((lstO (fun x => sh (intS x))) s416), none, none, none]) a415 (ji_lst (jn_var (E := (lstS (prS intS intS))) (a := a413) 2)) (jg_pair (E := intS) (G := intS) 4 5 sc__law_signs.nd) (weak_mask [true, true, true, true, false, false, false] _) (fun _ => all_lt rfl) fun x417 s418 =>
 jb_cons (js_setI (E := (fun x => sh (intS x))) 3 (jn_bin oSub ov_sub jn_int (sum_lst T.m_sum (JN.frz (fz_lst (fun _ => fz_sh)) (jn_lc sc__law_signs.nd (jc_of [("y", 6)] (jic_of (ji_rng1 T.m_range (jn_var (E := intS) (a := a403) 1))) (show blkC ["up", "many", "ranked", "signs", "rank", "x", "y"] (defScope s__law_signs) _ [("y", 6)] = true by decide +kernel) (jg_name (E := intS) 6 sc__law_signs.nd) (by decide) (all_lt rfl) (fun x419 => jts_one (jt_val (jn_of (jr_ix oIxL iv_lst (jr_of (jn_of (jr_ix oIxL iv_lst (jr_of (jn_var (E := (lstS (lstS boolS))) (a := a.1) 0)) (jn_var (E := intS) (a := x419) 6)))) (jn_var (E := intS) (a := x417.2) 5))))) fun x419 => (jn_of (jr_ix oIxL iv_lstO (jr_var (R := (lstO (fun x => sh (intS x)))) (a := s418) 3) (jn_var (E := intS) (a := x419) 6)))))))) (jn_var (E := intS) (a := x417.2) 5)) fun a425 =>
 jb_nil (x := a425) rfl (weak_mask [true, true, true, true, false, false, false] _)) fun a426 =>
 jb_retO (R := (lstO (fun x => sh (intS x)))) 3 (weak_none _))) (by unfold M_law_signs; first | (dsimp only [CC.sb]; done) | (dsimp only [CC.sb]; rfl) | rfl)
def M_law_number (a : (List (List Bool)) × ((List Int) × Unit)) : Option Int :=
 ((rng 0 (a.1.length : Int)).bind fun x398 => compM (fun x396 => (atI a.2.1 x396).bind fun x397 => some (decide (x397 = x396))) (fun x396 => some x396) x398).bind fun a399 => (((mapM (fun x400 => mapM (fun x401 => (atI a.1 x400).bind fun x402 => atI x402 x401) a399) a399).bind fun x427 => some (x427, ())).bind fun z428 => M_law_signs z428).bind fun x429 => some x429.sum
theorem ok_law_number (T : Tx K mg) : FnOk P w K mg base CX0 2 T.a__law_number T.d__law_number ["up", "row"] (spP (fun a : (List (List Bool)) × ((List Int) × Unit) => [(lstS (lstS boolS)) a.1, (lstS intS) a.2.1]) M_law_number (fun x => sh (intS x))) :=
 fnd_pure (Δ := nonC 5) T.F__law_number sc__law_number (fun _ => rfl) (by decide) fun a => JB.cong (
 jb_cons (js_setLcC 2 sc__law_number.nd (jn_lc sc__law_number.nd (jc_of [("x", 3)] (jic_of (ji_rng1 T.m_range (len_lst T.m_len (jn_var (E := (lstS (lstS boolS))) (a := a.1) 0)))) (show blkC ["up", "row", "left", "x", "y"] (defScope s__law_number) _ [("x", 3)] = true by decide +kernel) (jg_name (E := intS) 3 sc__law_number.nd) (by decide) (all_lt rfl) (fun x396 => jts_one (jt_cmp oEq ov_eqI (jn_of (jr_ix oIxL iv_lst (jr_of (jn_var (E := (lstS intS)) (a := a.2.1) 1)) (jn_var (E := intS) (a := x396) 3))) (jn_var (E := intS) (a := x396) 3))) fun x396 => (jn_var (E := intS) (a := x396) 3)))) fun a399 =>
 jb_ret (weak_none _) (sum_lst T.m_sum (JN.frz (fz_lst (fun _ => fz_sh)) (jn_call (ok_law_signs T) T.g__law_signs T.F__law_signs.kp T.b__law_signs (Nat.le_of_ble_eq_true rfl) (ja_cons (JN.frz (fz_lst (fz_lst (fun _ => fz_sh))) (jn_lc sc__law_number.nd (jc_map [("x", 3)] (jic_own (jr_var (R := (lstO (fun x => sh (intS x)))) (a := a399) 2)) (show blkC ["up", "row", "left", "x", "y"] (defScope s__law_number) _ [("x", 3)] = true by decide +kernel) (jg_name (E := intS) 3 sc__law_number.nd) (by decide) (all_lt rfl) fun x400 => (jn_lc sc__law_number.nd (jc_map [("y", 4)] (jic_own (jr_var (R := (lstO (fun x => sh (intS x)))) (a := a399) 2)) (show blkC ["up", "row", "left", "x", "y"] (relS _ (defScope s__law_number)) _ [("y", 4)] = true by decide +kernel) (jg_name (E := intS) 4 sc__law_number.nd) (by decide) (all_lt rfl) fun x401 => (jn_of (jr_ix oIxL iv_lst (jr_of (jn_of (jr_ix oIxL iv_lst (jr_of (jn_var (E := (lstS (lstS boolS))) (a := a.1) 0)) (jn_var (E := intS) (a := x400) 3)))) (jn_var (E := intS) (a := x401) 4)))))))) ja_nil))))) (by unfold M_law_number; first | (dsimp only [CC.sb]; done) | (dsimp only [CC.sb]; rfl) | rfl)
def M_law_named (a : (List Int) × ((List Int) × Unit)) : Option (List Int) :=
 (repM [(0 : Int)] (a.2.1.length : Int)).bind fun a435 => ((rng 0 (a.2.1.length : Int)).bind fun x443 => foldGo (fun x437 s438 => (((atI a.2.1 x437).bind fun x439 => atI a.1 x439).bind fun x440 => (atI a.1 x437).bind fun x441 => setAt s438 x441 x440).bind fun a442 => some a442) x443 a435).bind fun a444 => some a444
theorem ok_law_named (T : Tx K mg) : FnOk P w K mg base CX0 1 T.a__law_named T.d__law_named ["names", "row"] (spP (fun a : (List Int) × ((List Int) × Unit) => [(lstS intS) a.1, (lstS intS) a.2.1]) M_law_named (fun x => sh ((tupS intS) x))) :=
 fnd_pure (Δ := nonC 4) T.F__law_named sc__law_named (fun _ => rfl) (by decide) fun a => JB.cong (
 jb_cons (js_set 2 sc__law_named.nd (jn_bin oRep ov_rep (JN.frz (fz_lst (fun _ => fz_sh)) (jn_dispL (E := intS) (g := fun z => [z.1]) (ja_cons jn_int ja_nil))) (len_lst T.m_len (jn_var (E := (lstS intS)) (a := a.2.1) 1)))) fun a435 =>
 jb_cons (js_forS (Γl := fun s436 : (List Int) => [some (sh ((lstS intS) a.1)), some (sh ((lstS intS) a.2.1)), some ((lstO (fun x => sh (intS x))) s436), none]) a435 (ji_rng1 T.m_range (len_lst T.m_len (jn_var (E := (lstS intS)) (a := a.2.1) 1))) (jg_name (E := intS) 3 sc__law_named.nd) (weak_mask [true, true, true, false] _) (fun _ => all_lt rfl) fun x437 s438 =>
 jb_cons (js_setI (E := (fun x => sh (intS x))) 2 (jn_of (jr_ix oIxL iv_lst (jr_of (jn_var (E := (lstS intS)) (a := a.1) 0)) (jn_of (jr_ix oIxL iv_lst (jr_of (jn_var (E := (lstS intS)) (a := a.2.1) 1)) (jn_var (E := intS) (a := x437) 3))))) (jn_of (jr_ix oIxL iv_lst (jr_of (jn_var (E := (lstS intS)) (a := a.1) 0)) (jn_var (E := intS) (a := x437) 3)))) fun a442 =>
 jb_nil (x := a442) rfl (weak_mask [true, true, true, false] _)) fun a444 =>
 jb_ret (weak_none _) (tup_own T.m_tuple (jr_var (R := (lstO (fun x => sh (intS x)))) (a := a444) 2))) (by unfold M_law_named; first | (dsimp only [CC.sb]; done) | (dsimp only [CC.sb]; rfl) | rfl)
def M_fixed_points (a : (Int × (List (Int × Int))) × ((List Int) × Unit)) : Option (List Int) :=
 ((rng 0 a.1.1).bind fun x456 => compM (fun x454 => (atI a.2.1 x454).bind fun x455 => some (decide (x455 = x454))) (fun x454 => some x454) x456).bind fun x => some x
theorem ok_fixed_points (T : Tx K mg) : FnOk P w K mg base CX0 1 T.a_fixed_points T.d_fixed_points ["order", "row"] (spP (fun a : (Int × (List (Int × Int))) × ((List Int) × Unit) => [(prS intS (tupS (prS intS intS))) a.1, (tupS intS) a.2.1]) M_fixed_points (fun x => sh ((tupS intS) x))) :=
 fnd_pure (Δ := nonC 3) T.F_fixed_points sc_fixed_points (fun _ => rfl) (by decide) fun a => JB.cong (
 jb_ret (weak_none _) (tup_lst T.m_tuple (JN.frz (fz_lst (fun _ => fz_sh)) (jn_lc sc_fixed_points.nd (jc_of [("x", 2)] (jic_of (ji_rng1 T.m_range (jn_ixT (E := intS) (g := fun z => z.1) 0 (jn_var (E := (prS intS (tupS (prS intS intS)))) (a := a.1) 0)))) (show blkC ["order", "row", "x"] (defScope s_fixed_points) _ [("x", 2)] = true by decide +kernel) (jg_name (E := intS) 2 sc_fixed_points.nd) (by decide) (all_lt rfl) (fun x454 => jts_one (jt_cmp oEq ov_eqI (jn_of (jr_ix oIxT iv_tup (jr_of (jn_var (E := (tupS intS)) (a := a.2.1) 1)) (jn_var (E := intS) (a := x454) 2))) (jn_var (E := intS) (a := x454) 2))) fun x454 => (jn_var (E := intS) (a := x454) 2)))))) (by unfold M_fixed_points; first | (dsimp only [CC.sb]; done) | (dsimp only [CC.sb]; rfl) | rfl)
def M_induced (a : (Int × (List (Int × Int))) × ((List Int) × Unit)) : Option (Int × (List (Int × Int))) :=
 (dcM (fun x457 => some true) (fun x457 => some x457.2) (fun x457 => some x457.1) (enumL 0 a.2.1)).bind fun a458 => (compM (fun x459 => bif (getM a458 x459.1).isSome then some ((getM a458 x459.2).isSome) else some false) (fun x459 => ((getM a458 x459.1).bind fun x460 => ((getM a458 x459.2).bind fun x461 => some (x461, ())).bind fun y462 => some (x460, y462)).bind fun z463 => some (z463.1, z463.2.1)) a.1.2).bind fun a464 => some ((a.2.1.length : Int), a464)
theorem ok_induced (T : Tx K mg) : FnOk P w K mg base CX0 1 T.a_induced T.d_induced ["order", "points"] (spP (fun a : (Int × (List (Int × Int))) × ((List Int) × Unit) => [(prS intS (tupS (prS intS intS))) a.1, (tupS intS) a.2.1]) M_induced (fun x => sh ((prS intS (tupS (prS intS intS))) x))) :=
 fnd_pure (Δ := nonC 8) T.F_induced sc_induced (fun _ => rfl) (by decide) fun a => JB.cong (
 jb_cons (js_setDcC 2 sc_induced.nd (jn_dc ke_int [("place", 4), ("point", 5)] sc_induced.nd (jic_of (ji_enumT T.m_enumerate (jn_var (E := (tupS intS)) (a := a.2.1) 1))) (show blkC ["order", "points", "places", "pairs", "place", "point", "x", "y"] (defScope s_induced) _ [("place", 4), ("point", 5)] = true by decide +kernel) (jg_pair (E := intS) (G := intS) 4 5 sc_induced.nd) (by decide) (all_lt rfl) (fun x457 => jts_nil) (fun x457 => (jn_var (E := intS) (a := x457.2) 5)) fun x457 => (jn_var (E := intS) (a := x457.1) 4))) fun a458 =>
 jb_cons (js_setLc 3 sc_induced.nd (jc_of [("x", 6), ("y", 7)] (jic_of (ji_tup (jn_ixT (E := (tupS (prS intS intS))) (g := fun z => z.2) 1 (jn_var (E := (prS intS (tupS (prS intS intS)))) (a := a.1) 0)))) (show blkC ["order", "points", "places", "pairs", "place", "point", "x", "y"] (defScope s_induced) _ [("x", 6), ("y", 7)] = true by decide +kernel) (jg_pair (E := intS) (G := intS) 6 7 sc_induced.nd) (by decide) (all_lt rfl) (fun x459 => jts_one (jt_w (jw_and (jt_din ke_int rd_dkO (jn_var (E := intS) (a := x459.1) 6) (jr_var (R := (dkO Sum.inl intS)) (a := a458) 2)) (jw_and1 (jt_din ke_int rd_dkO (jn_var (E := intS) (a := x459.2) 7) (jr_var (R := (dkO Sum.inl intS)) (a := a458) 2)))))) fun x459 => (jn_tupG (P := (prS intS intS)) (g := fun z => (z.1, z.2.1)) (ja_cons (jn_dget ke_int rd_dkO (jr_var (R := (dkO Sum.inl intS)) (a := a458) 2) (jn_var (E := intS) (a := x459.1) 6)) (ja_cons (jn_dget ke_int rd_dkO (jr_var (R := (dkO Sum.inl intS)) (a := a458) 2) (jn_var (E := intS) (a := x459.2) 7)) ja_nil))))) fun a464 =>
 jb_ret (weak_none _) (jn_tupG (P := (prS intS (tupS (prS intS intS)))) (g := fun z => (z.1, z.2.1)) (ja_cons (len_tup T.m_len (jn_var (E := (tupS intS)) (a := a.2.1) 1)) (ja_cons (tup_own T.m_tuple (jr_var (R := (lstO (fun x => sh ((prS intS intS) x)))) (a := a464) 3)) ja_nil)))) (by unfold M_induced; first | (dsimp only [CC.sb]; done) | (dsimp only [CC.sb]; rfl) | rfl)
def M_chain_counts (a : (Int × (List (Int × Int))) × Unit) : Option (List Int) :=
 (repM [(1 : Int)] a.1.1).bind fun a470 => (whileF (fun s472 => some (decide ((0 : Int) < s472.2.sum))) (fun s472 => (appM s472.1 s472.2.sum).bind fun a473 => (repM [(0 : Int)] a.1.1).bind fun a475 => (foldGo (fun x477 s478 => (((atI s478 x477.2).bind fun x479 => (atI s472.2 x477.1).bind fun x480 => some (x479 + x480)).bind fun x481 => setAt s478 x477.2 x481).bind fun a482 => some a482) a.1.2 a475).bind fun a483 => some (a473, a483)) 100000 ([], a470)).bind fun a485 => some a485.1
theorem ok_chain_counts (T : Tx K mg) : FnOk P w K mg base CX0 1 T.a_chain_counts T.d_chain_counts ["order"] (spP (fun a : (Int × (List (Int × Int))) × Unit => [(prS intS (tupS (prS intS intS))) a.1]) M_chain_counts (fun x => sh ((tupS intS) x))) :=
 fnd_pure (Δ := nonC 6) T.F_chain_counts sc_chain_counts (fun _ => rfl) (by decide) fun a => JB.cong (
 jb_cons (js_set 1 sc_chain_counts.nd (jn_nilLO (E := (fun x => sh (intS x))))) fun a468 =>
 jb_cons (js_set 2 sc_chain_counts.nd (jn_bin oRep ov_rep (JN.frz (fz_lst (fun _ => fz_sh)) (jn_dispL (E := intS) (g := fun z => [z.1]) (ja_cons jn_int ja_nil))) (jn_ixT (E := intS) (g := fun z => z.1) 0 (jn_var (E := (prS intS (tupS (prS intS intS)))) (a := a.1) 0)))) fun a470 =>
 jb_cons (js_whileS (Γl := fun s471 : (List Int) × (List Int) => [some (sh ((prS intS (tupS (prS intS intS))) a.1)), some ((lstO (fun x => sh (intS x))) s471.1), some ((lstO (fun x => sh (intS x))) s471.2), none, none, none]) 100000 (a468, a470) (weak_mask [true, true, true, false, false, false] _) (fun s472 => (jt_cmp oGt ov_gt (jn_thaw (i := 2) (o := (lstO (fun x => sh (intS x))) s472.2) (p := (lstS intS) s472.2) flat_int rfl ((fz_lst (fun _ => fz_sh)) _) (sum_lst T.m_sum (jn_var (E := (lstS intS)) (a := s472.2) 2))) jn_int)) fun s472 =>
 jb_cons (js_app (E := (fun x => sh (intS x))) 1 (jn_thaw (i := 2) (o := (lstO (fun x => sh (intS x))) s472.2) (p := (lstS intS) s472.2) flat_int rfl ((fz_lst (fun _ => fz_sh)) _) (sum_lst T.m_sum (jn_var (E := (lstS intS)) (a := s472.2) 2)))) fun a473 =>
 jb_cons (js_set 3 sc_chain_counts.nd (jn_bin oRep ov_rep (JN.frz (fz_lst (fun _ => fz_sh)) (jn_dispL (E := intS) (g := fun z => [z.1]) (ja_cons jn_int ja_nil))) (jn_ixT (E := intS) (g := fun z => z.1) 0 (jn_var (E := (prS intS (tupS (prS intS intS)))) (a := a.1) 0)))) fun a475 =>
 jb_cons (js_forS (Γl := fun s476 : (List Int) => [some (sh ((prS intS (tupS (prS intS intS))) a.1)), some ((lstO (fun x => sh (intS x))) a473), some ((lstO (fun x => sh (intS x))) s472.2), some ((lstO (fun x => sh (intS x))) s476), none, none]) a475 (ji_tup (jn_ixT (E := (tupS (prS intS intS))) (g := fun z => z.2) 1 (jn_var (E := (prS intS (tupS (prS intS intS)))) (a := a.1) 0))) (jg_pair (E := intS) (G := intS) 4 5 sc_chain_counts.nd) (weak_mask [true, true, true, true, false, false] _) (fun _ => all_lt rfl) fun x477 s478 =>
 jb_cons (js_setI (E := (fun x => sh (intS x))) 3 (jn_bin oAdd ov_add (jn_of (jr_ix oIxL iv_lstO (jr_var (R := (lstO (fun x => sh (intS x)))) (a := s478) 3) (jn_var (E := intS) (a := x477.2) 5))) (jn_of (jr_ix oIxL iv_lstO (jr_var (R := (lstO (fun x => sh (intS x)))) (a := s472.2) 2) (jn_var (E := intS) (a := x477.1) 4)))) (jn_var (E := intS) (a := x477.2) 5)) fun a482 =>
 jb_nil (x := a482) rfl (weak_mask [true, true, true, true, false, false] _)) fun a483 =>
 jb_cons (js_move 2 3 sc_chain_counts.nd) fun a484 =>
 jb_nil (x := (a473, a483)) rfl (weak_mask [true, true, true, false, false, false] _)) fun a485 =>
 jb_ret (weak_none _) (tup_own T.m_tuple (jr_var (R := (lstO (fun x => sh (intS x)))) (a := a485.1) 1))) (by unfold M_chain_counts; first | (dsimp only [CC.sb]; done) | (dsimp only [CC.sb]; rfl) | rfl)
def M_euler (a : (Int × (List (Int × Int))) × Unit) : Option Int :=
 (M_chain_counts (a.1, ())).bind fun a486 => some (((evL a486).sum) - ((evL (a486.drop 1)).sum))
theorem ok_euler (T : Tx K mg) : FnOk P w K mg base CX0 2 T.a_euler T.d_euler ["order"] (spP (fun a : (Int × (List (Int × Int))) × Unit => [(prS intS (tupS (prS intS intS))) a.1]) M_euler (fun x => sh (intS x))) :=
 fnd_pure (Δ := nonC 2) T.F_euler sc_euler (fun _ => rfl) (by decide) fun a => JB.cong (
 jb_cons (js_set 1 sc_euler.nd (jn_call (ok_chain_counts T) T.g_chain_counts T.F_chain_counts.kp T.b_chain_counts (Nat.le_of_ble_eq_true rfl) (ja_cons (jn_var (E := (prS intS (tupS (prS intS intS)))) (a := a.1) 0) ja_nil))) fun a486 =>
 jb_ret (weak_none _) (jn_bin oSub ov_sub (sum_tup T.m_sum (jn_ev0 (jn_var (E := (tupS intS)) (a := a486) 1))) (sum_tup T.m_sum (jn_ev1 (jn_var (E := (tupS intS)) (a := a486) 1))))) (by unfold M_euler; first | (dsimp only [CC.sb]; done) | (dsimp only [CC.sb]; rfl) | rfl)
def M_lefschetz (a : (Int × (List (Int × Int))) × ((List Int) × Unit)) : Option Int :=
 (((((M_fixed_points (a.1, (a.2.1, ()))).bind fun x465 => some (x465, ())).bind fun y466 => some (a.1, y466)).bind fun z467 => M_induced z467).bind fun x487 => some (x487, ())).bind fun z488 => M_euler z488
theorem ok_lefschetz (T : Tx K mg) : FnOk P w K mg base CX0 3 T.a_lefschetz T.d_lefschetz ["order", "row"] (spP (fun a : (Int × (List (Int × Int))) × ((List Int) × Unit) => [(prS intS (tupS (prS intS intS))) a.1, (tupS intS) a.2.1]) M_lefschetz (fun x => sh (intS x))) :=
 fnd_pure (Δ := nonC 2) T.F_lefschetz sc_lefschetz (fun _ => rfl) (by decide) fun a => JB.cong (
 jb_ret (weak_none _) (jn_call (ok_euler T) T.g_euler T.F_euler.kp T.b_euler (Nat.le_of_ble_eq_true rfl) (ja_cons (jn_call (ok_induced T) T.g_induced T.F_induced.kp T.b_induced (Nat.le_of_ble_eq_true rfl) (ja_cons (jn_var (E := (prS intS (tupS (prS intS intS)))) (a := a.1) 0) (ja_cons (jn_call (ok_fixed_points T) T.g_fixed_points T.F_fixed_points.kp T.b_fixed_points (Nat.le_of_ble_eq_true rfl) (ja_cons (jn_var (E := (prS intS (tupS (prS intS intS)))) (a := a.1) 0) (ja_cons (jn_var (E := (tupS intS)) (a := a.2.1) 1) ja_nil))) ja_nil))) ja_nil))) (by unfold M_lefschetz; first | (dsimp only [CC.sb]; done) | (dsimp only [CC.sb]; rfl) | rfl)
def N_law_same (rec : (PV × (PV × Unit)) → Option Bool) (a : PV × (PV × Unit)) : Option Bool :=
 bif pT a.2.1 then (bif !(pT a.1) then some true else (lenA a.1).bind fun x490 => (lenA a.2.1).bind fun x491 => some (!decide (x490 = x491))).bind fun x507 => bif x507 then some false else (((lenA a.2.1).bind fun x492 => rng 0 x492).bind fun x503 => loopGo (fun x494 s495 => ((((ixA a.1 x494).bind fun x496 => ((ixA a.2.1 x494).bind fun x497 => some (x497, ())).bind fun y498 => some (x496, y498)).bind fun z499 => rec z499).bind fun x500 => some (!x500)).bind fun x502 => bif x502 then (some false).bind fun y501 => some (Out.rt y501) else some (Out.nx ())) x503 ()).bind fun o505 => o505.k (fun a504 => some true) fun r506 => some ((fun r => r) r506) else bif pI a.1 then bif !(pB a.1) then eqA a.1 a.2.1 else some false else some false
def M_law_same : Nat → (PV × (PV × Unit)) → Option Bool
  | 0 => fun _ => none
  | d + 1 => N_law_same (M_law_same d)
theorem ok_law_same (T : Tx K mg) : ∀ d : Nat, FnOk P w K mg base CX0 (d + 1) T.a__law_same T.d__law_same ["actual", "due"] (spP (fun a : PV × (PV × Unit) => [anyS a.1, anyS a.2.1]) (M_law_same d) (fun x => sh (boolS x)))
  | 0 => fn_zero (k := 0 + 0) T.F__law_same sc__law_same
  | d + 1 => fnd_pure (k := d + 1) (Δ := nonC 3) T.F__law_same sc__law_same (fun _ => rfl) (by decide) fun a => JB.cong (
 jb_ifr (jt_val (jn_isiA (cn := "tuple") pT T.m_isinstance T.m_tuple (jn_var (E := anyS) (a := a.2.1) 1))) (jb_ifr (jt_w (jw_or (jt_not (jt_val (jn_isiA (cn := "tuple") pT T.m_isinstance T.m_tuple (jn_var (E := anyS) (a := a.1) 0)))) (jw_or1 (jt_cmp oNe ov_neI (len_any T.m_len (jn_var (E := anyS) (a := a.1) 0)) (len_any T.m_len (jn_var (E := anyS) (a := a.2.1) 1)))))) (jb_ret (weak_none _) jn_bl) (fun _ => trivial)
 (jb_consO (Γl := fun s493 : Unit => [some (sh (anyS a.1)), some (sh (anyS a.2.1)), none]) (T := fun r : Bool => Kd.rt (nonC 3) ((fun x => sh (boolS x)) r)) (fun r => r) (js_for (Γl := fun s493 : Unit => [some (sh (anyS a.1)), some (sh (anyS a.2.1)), none]) (T := fun r : Bool => Kd.rt (nonC 3) ((fun x => sh (boolS x)) r)) () (ji_rng1 T.m_range (len_any T.m_len (jn_var (E := anyS) (a := a.2.1) 1))) (jg_name (E := intS) 2 sc__law_same.nd) (weak_mask [true, true, false] _) (fun _ => all_lt rfl) (fun _ => ⟨trivial, nofun, nofun⟩) fun x494 s495 =>
 jb_ifx (D' := (fun r : Bool => Kd.rt (nonC 3) ((fun x => sh (boolS x)) r))) Out.rt (jt_not (jt_val (jn_call (ok_law_same T d) T.g__law_same T.F__law_same.kp T.b__law_same (Nat.le_refl _) (ja_cons (jn_of (jr_ix oIxA iv_any (jr_of (jn_var (E := anyS) (a := a.1) 0)) (jn_var (E := intS) (a := x494) 2))) (ja_cons (jn_of (jr_ix oIxA iv_any (jr_of (jn_var (E := anyS) (a := a.2.1) 1)) (jn_var (E := intS) (a := x494) 2))) ja_nil))))) (jb_ret (weak_none _) jn_bl) (fun _ => rfl) (fun _ => trivial)
 (jb_nil (x := Out.nx ()) rfl (weak_mask [true, true, false] _))) (fun _ => rfl) (fun _ => trivial) fun a504 =>
 jb_ret (weak_none _) jn_bl)) (fun _ => trivial)
 (jb_ret (weak_none _) (jn_and (jn_isiA (cn := "int") pI T.m_isinstance T.m_int (jn_var (E := anyS) (a := a.1) 0)) (jn_and (jn_notV (jn_isiA (cn := "bool") pB T.m_isinstance T.m_bool (jn_var (E := anyS) (a := a.1) 0))) (jn_one (jn_cmp oEq ov_eqA (jn_var (E := anyS) (a := a.1) 0) (jn_var (E := anyS) (a := a.2.1) 1))))))) (by show _ = N_law_same (M_law_same d) a; unfold N_law_same; first | (dsimp only [CC.sb]; done) | (dsimp only [CC.sb]; rfl) | rfl)
def M_law_walked (a : (List (List Bool)) × ((List (List Int)) × ((List Int) × (Int × Unit)))) (s : ((List Int) × Int × Int × Int × Int × Int)) : Option ((List Int) × ((List Int) × Int × Int × Int × Int × Int)) :=
 ((rng 0 a.2.2.2.1).bind fun x595 => foldGo (fun x564 s565 => ((M_law_draw ((a.1.length : Int), ()) s565.1).bind fun r567 => some (r567.1, r567.2)).bind fun a568 => ((atI s565.2 a568.1).bind fun x569 => atI a.2.1 x569).bind fun a570 => (bif decide ((0 : Int) < (a570.length : Int)) then (((M_law_draw ((a570.length : Int), ()) a568.2).bind fun r585 => some (r585.1, r585.2)).bind fun q586 => (atI a570 q586.1).bind fun z587 => some (z587, q586.2)).bind fun a588 => ((M_law_fits (a.1, (s565.2, (a568.1, (a588.1, ()))))).bind fun x592 => bif x592 then (setAt s565.2 a568.1 a588.1).bind fun a591 => some a591 else some s565.2).bind fun a593 => some (a588.2, a593) else some (a568.2, s565.2)).bind fun a594 => some (a594.1, a594.2)) x595 (s, a.2.2.1)).bind fun a596 => some (a596.2, a596.1)
theorem ok_law_walked (T : Tx K mg) : FnOk P w K mg base CX0 3 T.a__law_walked T.d__law_walked ["tape", "up", "near", "row", "many"] (spS h0O (fun a : (List (List Bool)) × ((List (List Int)) × ((List Int) × (Int × Unit))) => [(lstS (lstS boolS)) a.1, (lstS (lstS intS)) a.2.1, (lstS intS) a.2.2.1, intS a.2.2.2.1]) M_law_walked (lstO (fun x => sh (intS x)))) :=
 fnd_state T.F__law_walked sc__law_walked (fun _ => rfl) (by decide) fun a s => JB.cong (
 jb_cons (js_set 3 sc__law_walked.nd (list_lst T.m_list (jn_var (E := (lstS intS)) (a := a.2.2.1) 3))) fun a562 =>
 jb_cons (js_forS (Γl := fun s563 : ((List Int) × Int × Int × Int × Int × Int) × (List Int) => [some (h0O s563.1), some (sh ((lstS (lstS boolS)) a.1)), some (sh ((lstS (lstS intS)) a.2.1)), some ((lstO (fun x => sh (intS x))) s563.2), some (sh (intS a.2.2.2.1)), none, none, none, none]) (s, a562) (ji_rng1 T.m_range (jn_var (E := intS) (a := a.2.2.2.1) 4)) (jg_name (E := intS) 5 sc__law_walked.nd) (weak_mask [true, true, true, true, true, false, false, false, false] _) (fun _ => all_lt rfl) fun x564 s565 =>
 jb_cons (js_setE (Γ := fun s566 : ((List Int) × Int × Int × Int × Int × Int) => [some (h0O s566), some (sh ((lstS (lstS boolS)) a.1)), some (sh ((lstS (lstS intS)) a.2.1)), some ((lstO (fun x => sh (intS x))) s565.2), some (sh (intS a.2.2.2.1)), some (sh (intS x564)), none, none, none]) (s := s565.1) 6 sc__law_walked.nd (je_callS (O := h0O) 0 (fun s => s) (fun s u => u) (ok_law_draw T) T.g__law_draw T.F__law_draw.kp T.b__law_draw (Nat.le_of_ble_eq_true rfl) (jea_of (ja_cons (len_lst T.m_len (jn_var (E := (lstS (lstS boolS))) (a := a.1) 1)) ja_nil)))) fun a568 =>
 jb_cons (js_set 7 sc__law_walked.nd (jn_of (jr_ix oIxL iv_lst (jr_of (jn_var (E := (lstS (lstS intS))) (a := a.2.1) 2)) (jn_of (jr_ix oIxL iv_lstO (jr_var (R := (lstO (fun x => sh (intS x)))) (a := s565.2) 3) (jn_var (E := intS) (a := a568.1) 6)))))) fun a570 =>
 jb_cons (js_if (jt_cmp oGt ov_gt (len_lst T.m_len (jn_var (E := (lstS intS)) (a := a570) 7)) jn_int) (D := fun v => Kd.nx ((fun v582 : ((List Int) × Int × Int × Int × Int × Int) × (List Int) => [some (h0O v582.1), some (sh ((lstS (lstS boolS)) a.1)), some (sh ((lstS (lstS intS)) a.2.1)), some ((lstO (fun x => sh (intS x))) v582.2), some (sh (intS a.2.2.2.1)), some (sh (intS x564)), some (sh (intS a568.1)), some (sh ((lstS intS) a570)), none]) v)) (jb_cons (js_setE (Γ := fun s583 : ((List Int) × Int × Int × Int × Int × Int) => [some (h0O s583), some (sh ((lstS (lstS boolS)) a.1)), some (sh ((lstS (lstS intS)) a.2.1)), some ((lstO (fun x => sh (intS x))) s565.2), some (sh (intS a.2.2.2.1)), some (sh (intS x564)), some (sh (intS a568.1)), some (sh ((lstS intS) a570)), none]) (s := a568.2) 8 sc__law_walked.nd (je_ix oIxL iv_lst (je_of (jn_var (E := (lstS intS)) (a := a570) 7)) fun s584 => (je_callS (O := h0O) 0 (fun s => s) (fun s u => u) (ok_law_draw T) T.g__law_draw T.F__law_draw.kp T.b__law_draw (Nat.le_of_ble_eq_true rfl) (jea_of (ja_cons (len_lst T.m_len (jn_var (E := (lstS intS)) (a := a570) 7)) ja_nil))))) fun a588 =>
 jb_cons (js_if (jt_val (jn_thaw (i := 3) (o := (lstO (fun x => sh (intS x))) s565.2) (p := (lstS intS) s565.2) flat_bool rfl ((fz_lst (fun _ => fz_sh)) _) (jn_call (ok_law_fits T) T.g__law_fits T.F__law_fits.kp T.b__law_fits (Nat.le_of_ble_eq_true rfl) (ja_cons (jn_var (E := (lstS (lstS boolS))) (a := a.1) 1) (ja_cons (jn_var (E := (lstS intS)) (a := s565.2) 3) (ja_cons (jn_var (E := intS) (a := a568.1) 6) (ja_cons (jn_var (E := intS) (a := a588.1) 8) ja_nil))))))) (D := fun v => Kd.nx ((fun v590 : (List Int) => [some (h0O a588.2), some (sh ((lstS (lstS boolS)) a.1)), some (sh ((lstS (lstS intS)) a.2.1)), some ((lstO (fun x => sh (intS x))) v590), some (sh (intS a.2.2.2.1)), some (sh (intS x564)), some (sh (intS a568.1)), some (sh ((lstS intS) a570)), some (sh (intS a588.1))]) v)) (jb_cons (js_setI (E := (fun x => sh (intS x))) 3 (jn_var (E := intS) (a := a588.1) 8) (jn_var (E := intS) (a := a568.1) 6)) fun a591 =>
 jb_nil (x := a591) rfl (weak_mask [true, true, true, true, true, true, true, true, true] _)) (jb_nil (x := s565.2) rfl (weak_mask [true, true, true, true, true, true, true, true, true] _))) fun a593 =>
 jb_nil (x := (a588.2, a593)) rfl (weak_mask [true, true, true, true, true, true, true, true, false] _)) (jb_nil (x := (a568.2, s565.2)) rfl (weak_mask [true, true, true, true, true, true, true, true, false] _))) fun a594 =>
 jb_nil (x := (a594.1, a594.2)) rfl (weak_mask [true, true, true, true, true, false, false, false, false] _)) fun a596 =>
 jb_retOS (R := (lstO (fun x => sh (intS x)))) (Δ := fun s => some (h0O s) :: nonC 8) 3 (weak_mask [true, false, false, false, false, false, false, false, false] _)) (by unfold M_law_walked; first | (dsimp only [CC.sb]; done) | (dsimp only [CC.sb]; rfl) | rfl)
def M_law (a : (List Int) × Unit) : Option Bool :=
 (M_law_tape (a.1, ())).bind fun a11 => ((M_law_drawn ((8 : Int), ()) a11).bind fun r212 => some (r212.1, r212.2)).bind fun a213 => (bif decide ((a213.1.length : Int) = (0 : Int)) then some [[false]] else some a213.1).bind fun a221 => (M_law_covers (a221, ())).bind fun a262 => ((M_law_shuffled ((a221.length : Int), ()) a213.2).bind fun r275 => some (r275.1, r275.2)).bind fun a276 => (M_law_told (a221, (a276.1, ()))).bind fun a310 => ((rng 0 (2 : Int)).bind fun x626 => loopGo (fun x521 s522 => ((M_law_map (a221, ()) s522).bind fun r524 => some (r524.1, r524.2)).bind fun a525 => (M_law_number (a221, (a525.1, ()))).bind fun a526 => ((rng 0 (4 : Int)).bind fun x602 => loopGo (fun x531 s532 => (M_law_named (a276.1, (s532.2, ()))).bind fun a533 => ((((rng 0 (a221.length : Int)).bind fun x536 => compM (fun x534 => (atI s532.2 x534).bind fun x535 => some (decide (x535 = x534))) (fun x534 => atI a276.1 x534) x536).bind fun x537 => some (sortI x537)).bind fun x => some x).bind fun a538 => ((((((M_lefschetz (a310, (a533, ()))).bind fun x539 => some (PV.int x539)).bind fun x540 => some (x540, (PV.int a526, ()))).bind fun z541 => M_law_same 6 z541).bind fun x542 => some (!x542)).bind fun x549 => bif x549 then some true else ((((M_fixed_points (a310, (a533, ()))).bind fun x543 => some (PV.tup (x543.map PV.int))).bind fun x546 => some (x546, (PV.tup (a538.map PV.int), ()))).bind fun z547 => M_law_same 6 z547).bind fun x548 => some (!x548)).bind fun x601 => bif x601 then (some false).bind fun y600 => some (Out.rt y600) else ((((((((M_law_draw ((10 : Int), ()) s532.1).bind fun r555 => some (r555.1, r555.2)).bind fun q556 => some ((1 : Int) + q556.1, q556.2)).bind fun q558 => some ((q558.1, ()), q558.2)).bind fun q559 => some ((s532.2, q559.1), q559.2)).bind fun q560 => some ((a262, q560.1), q560.2)).bind fun q561 => some ((a221, q561.1), q561.2)).bind fun q597 => (M_law_walked q597.1 q597.2).bind fun r598 => some (r598.1, r598.2)).bind fun a599 => some (Out.nx (a599.2, a599.1))) x602 (a525.2, a525.1)).bind fun o624 => o624.k (fun a603 => (M_law_named (a276.1, (a603.2, ()))).bind fun a604 => ((((rng 0 (a221.length : Int)).bind fun x607 => compM (fun x605 => (atI a603.2 x605).bind fun x606 => some (decide (x606 = x605))) (fun x605 => atI a276.1 x605) x607).bind fun x608 => some (sortI x608)).bind fun x => some x).bind fun a609 => (((((M_lefschetz (a310, a604, ())).bind fun x610 => some (PV.int x610)).bind fun x611 => some (x611, (PV.int a526, ()))).bind fun z612 => M_law_same 6 z612).bind fun x613 => some (!x613)).bind fun x623 => bif x623 then (some false).bind fun y622 => some (Out.rt y622) else (((((M_fixed_points (a310, a604, ())).bind fun x614 => some (PV.tup (x614.map PV.int))).bind fun x617 => some (x617, (PV.tup (a609.map PV.int), ()))).bind fun z618 => M_law_same 6 z618).bind fun x619 => some (!x619)).bind fun x621 => bif x621 then (some false).bind fun y620 => some (Out.rt y620) else some (Out.nx a603.1)) fun r625 => some (Out.rt r625)) x626 a276.2).bind fun o628 => o628.k (fun a627 => some true) fun r629 => some ((fun r => r) r629)
theorem ok_law (T : Tx K mg) : FnOk P w K mg base CX0 8 T.a_law T.d_law ["script"] (spP (fun a : (List Int) × Unit => [(scrS K) a.1]) M_law (fun x => sh (boolS x))) :=
 fnd_pure (Δ := nonC 13) T.F_law sc_law (fun _ => rfl) (by decide) fun a => JB.cong (
 jb_cons (js_set 1 sc_law.nd (jn_call (ok_law_tape T) T.g__law_tape T.F__law_tape.kp T.b__law_tape (Nat.le_of_ble_eq_true rfl) (ja_cons (jn_var (E := (scrS K)) (a := a.1) 0) ja_nil))) fun a11 =>
 jb_cons (js_setE (Γ := fun s12 : ((List Int) × Int × Int × Int × Int × Int) => [some (sh ((scrS K) a.1)), some (h0O s12), none, none, none, none, none, none, none, none, none, none, none]) (s := a11) 2 sc_law.nd (je_callS (O := h0O) 1 (fun s => s) (fun s u => u) (ok_law_drawn T) T.g__law_drawn T.F__law_drawn.kp T.b__law_drawn (Nat.le_of_ble_eq_true rfl) (jea_of (ja_cons jn_int ja_nil)))) fun a213 =>
 jb_cons (js_if (jt_cmp oEq ov_eqI (len_lstO T.m_len (jr_var (R := (lstO (lstO (fun x => sh (boolS x))))) (a := a213.1) 2)) jn_int) (D := fun v => Kd.nx ((fun v217 : (List (List Bool)) => [some (sh ((scrS K) a.1)), some (h0O a213.2), some (sh ((lstS (lstS boolS)) v217)), none, none, none, none, none, none, none, none, none, none]) v)) (jb_cons (js_set 2 sc_law.nd (jn_dispL (E := (lstS boolS)) (g := fun z => [z.1]) (ja_cons (JN.frz (fz_lst (fun _ => fz_sh)) (jn_dispL (E := boolS) (g := fun z => [z.1]) (ja_cons jn_bl ja_nil))) ja_nil))) fun a220 =>
 JB.frz (i := 2) (o := (lstO (fun x => sh ((lstS boolS) x))) a220) (p := (lstS (lstS boolS)) a220) rfl ((fz_lst (fun _ => fz_sh)) _) (jb_nil (x := a220) rfl (weak_mask [true, true, true, false, false, false, false, false, false, false, false, false, false] _))) (JB.frz (i := 2) (o := (lstO (lstO (fun x => sh (boolS x)))) a213.1) (p := (lstS (lstS boolS)) a213.1) rfl ((fz_lst (fz_lst (fun _ => fz_sh))) _) (jb_nil (x := a213.1) rfl (weak_mask [true, true, true, false, false, false, false, false, false, false, false, false, false] _)))) fun a221 =>
 jb_cons (js_set 3 sc_law.nd (jn_call (ok_law_covers T) T.g__law_covers T.F__law_covers.kp T.b__law_covers (Nat.le_of_ble_eq_true rfl) (ja_cons (jn_var (E := (lstS (lstS boolS))) (a := a221) 2) ja_nil))) fun a262 =>
 jb_cons (js_setE (Γ := fun s263 : ((List Int) × Int × Int × Int × Int × Int) => [some (sh ((scrS K) a.1)), some (h0O s263), some (sh ((lstS (lstS boolS)) a221)), some ((lstO (fun x => sh ((lstS intS) x))) a262), none, none, none, none, none, none, none, none, none]) (s := a213.2) 4 sc_law.nd (je_callS (O := h0O) 1 (fun s => s) (fun s u => u) (ok_law_shuffled T) T.g__law_shuffled T.F__law_shuffled.kp T.b__law_shuffled (Nat.le_of_ble_eq_true rfl) (jea_of (ja_cons (len_lst T.m_len (jn_var (E := (lstS (lstS boolS))) (a := a221) 2)) ja_nil)))) fun a276 =>
 JB.frz (i := 4) (o := (lstO (fun x => sh (intS x))) a276.1) (p := (lstS intS) a276.1) rfl ((fz_lst (fun _ => fz_sh)) _) (jb_cons (js_set 5 sc_law.nd (jn_call (ok_law_told T) T.g__law_told T.F__law_told.kp T.b__law_told (Nat.le_of_ble_eq_true rfl) (ja_cons (jn_var (E := (lstS (lstS boolS))) (a := a221) 2) (ja_cons (jn_var (E := (lstS intS)) (a := a276.1) 4) ja_nil)))) fun a310 =>
 JB.frz (i := 3) (o := (lstO (fun x => sh ((lstS intS) x))) a262) (p := (lstS (lstS intS)) a262) rfl ((fz_lst (fun _ => fz_sh)) _) (jb_consO (Γl := fun s520 : ((List Int) × Int × Int × Int × Int × Int) => [some (sh ((scrS K) a.1)), some (h0O s520), some (sh ((lstS (lstS boolS)) a221)), some (sh ((lstS (lstS intS)) a262)), some (sh ((lstS intS) a276.1)), some (sh ((prS intS (tupS (prS intS intS))) a310)), none, none, none, none, none, none, none]) (T := fun r : Bool => Kd.rt (nonC 13) ((fun x => sh (boolS x)) r)) (fun r => r) (js_for (Γl := fun s520 : ((List Int) × Int × Int × Int × Int × Int) => [some (sh ((scrS K) a.1)), some (h0O s520), some (sh ((lstS (lstS boolS)) a221)), some (sh ((lstS (lstS intS)) a262)), some (sh ((lstS intS) a276.1)), some (sh ((prS intS (tupS (prS intS intS))) a310)), none, none, none, none, none, none, none]) (T := fun r : Bool => Kd.rt (nonC 13) ((fun x => sh (boolS x)) r)) a276.2 (ji_rng1 T.m_range jn_int) (jg_name (E := intS) 6 sc_law.nd) (weak_mask [true, true, true, true, true, true, false, false, false, false, false, false, false] _) (fun _ => all_lt rfl) (fun _ => ⟨trivial, nofun, nofun⟩) fun x521 s522 =>
 jb_cons (js_setE (Γ := fun s523 : ((List Int) × Int × Int × Int × Int × Int) => [some (sh ((scrS K) a.1)), some (h0O s523), some (sh ((lstS (lstS boolS)) a221)), some (sh ((lstS (lstS intS)) a262)), some (sh ((lstS intS) a276.1)), some (sh ((prS intS (tupS (prS intS intS))) a310)), some (sh (intS x521)), none, none, none, none, none, none]) (s := s522) 7 sc_law.nd (je_callS (O := h0O) 1 (fun s => s) (fun s u => u) (ok_law_map T) T.g__law_map T.F__law_map.kp T.b__law_map (Nat.le_of_ble_eq_true rfl) (jea_of (ja_cons (jn_var (E := (lstS (lstS boolS))) (a := a221) 2) ja_nil)))) fun a525 =>
 jb_cons (js_set 8 sc_law.nd (jn_thaw (i := 7) (o := (lstO (fun x => sh (intS x))) a525.1) (p := (lstS intS) a525.1) flat_int rfl ((fz_lst (fun _ => fz_sh)) _) (jn_call (ok_law_number T) T.g__law_number T.F__law_number.kp T.b__law_number (Nat.le_of_ble_eq_true rfl) (ja_cons (jn_var (E := (lstS (lstS boolS))) (a := a221) 2) (ja_cons (jn_var (E := (lstS intS)) (a := a525.1) 7) ja_nil))))) fun a526 =>
 JB.frz (i := 7) (o := (lstO (fun x => sh (intS x))) a525.1) (p := (lstS intS) a525.1) rfl ((fz_lst (fun _ => fz_sh)) _) (jb_consO (Γl := fun s530 : ((List Int) × Int × Int × Int × Int × Int) × (List Int) => [some (sh ((scrS K) a.1)), some (h0O s530.1), some (sh ((lstS (lstS boolS)) a221)), some (sh ((lstS (lstS intS)) a262)), some (sh ((lstS intS) a276.1)), some (sh ((prS intS (tupS (prS intS intS))) a310)), some (sh (intS x521)), some (sh ((lstS intS) s530.2)), some (sh (intS a526)), none, none, none, none]) (T := fun r : Bool => Kd.rt (nonC 13) ((fun x => sh (boolS x)) r)) Out.rt (js_for (Γl := fun s530 : ((List Int) × Int × Int × Int × Int × Int) × (List Int) => [some (sh ((scrS K) a.1)), some (h0O s530.1), some (sh ((lstS (lstS boolS)) a221)), some (sh ((lstS (lstS intS)) a262)), some (sh ((lstS intS) a276.1)), some (sh ((prS intS (tupS (prS intS intS))) a310)), some (sh (intS x521)), some (sh ((lstS intS) s530.2)), some (sh (intS a526)), none, none, none, none]) (T := fun r : Bool => Kd.rt (nonC 13) ((fun x => sh (boolS x)) r)) (a525.2, a525.1) (ji_rng1 T.m_range jn_int) (jg_name (E := intS) 9 sc_law.nd) (weak_mask [true, true, true, true, true, true, true, true, true, false, false, false, false] _) (fun _ => all_lt rfl) (fun _ => ⟨trivial, nofun, nofun⟩) fun x531 s532 =>
 jb_cons (js_set 10 sc_law.nd (jn_call (ok_law_named T) T.g__law_named T.F__law_named.kp T.b__law_named (Nat.le_of_ble_eq_true rfl) (ja_cons (jn_var (E := (lstS intS)) (a := a276.1) 4) (ja_cons (jn_var (E := (lstS intS)) (a := s532.2) 7) ja_nil)))) fun a533 =>
 jb_cons (js_set 11 sc_law.nd (tup_lst T.m_tuple (JN.frz (fz_lst (fun _ => fz_sh)) (sorted_ints T.m_sorted (JN.frz (fz_lst (fun _ => fz_sh)) (jn_lc sc_law.nd (jc_of [("x", 12)] (jic_of (ji_rng1 T.m_range (len_lst T.m_len (jn_var (E := (lstS (lstS boolS))) (a := a221) 2)))) (show blkC ["script", "tape", "up", "near", "names", "made", "k", "row", "due", "part", "told", "points", "x"] (defScope s_law) _ [("x", 12)] = true by decide +kernel) (jg_name (E := intS) 12 sc_law.nd) (by decide) (all_lt rfl) (fun x534 => jts_one (jt_cmp oEq ov_eqI (jn_of (jr_ix oIxL iv_lst (jr_of (jn_var (E := (lstS intS)) (a := s532.2) 7)) (jn_var (E := intS) (a := x534) 12))) (jn_var (E := intS) (a := x534) 12))) fun x534 => (jn_of (jr_ix oIxL iv_lst (jr_of (jn_var (E := (lstS intS)) (a := a276.1) 4)) (jn_var (E := intS) (a := x534) 12)))))))))) fun a538 =>
 jb_ifx (D' := (fun r : Bool => Kd.rt (nonC 13) ((fun x => sh (boolS x)) r))) Out.rt (jt_w (jw_or (jt_not (jt_val (jn_call (ok_law_same T 6) T.g__law_same T.F__law_same.kp T.b__law_same (Nat.le_of_ble_eq_true rfl) (ja_cons (jn_any ao_int (jn_call (ok_lefschetz T) T.g_lefschetz T.F_lefschetz.kp T.b_lefschetz (Nat.le_of_ble_eq_true rfl) (ja_cons (jn_var (E := (prS intS (tupS (prS intS intS)))) (a := a310) 5) (ja_cons (jn_var (E := (tupS intS)) (a := a533) 10) ja_nil)))) (ja_cons (jn_any ao_int (jn_var (E := intS) (a := a526) 8)) ja_nil))))) (jw_or1 (jt_not (jt_val (jn_call (ok_law_same T 6) T.g__law_same T.F__law_same.kp T.b__law_same (Nat.le_of_ble_eq_true rfl) (ja_cons (jn_any (ao_tup ao_int) (jn_call (ok_fixed_points T) T.g_fixed_points T.F_fixed_points.kp T.b_fixed_points (Nat.le_of_ble_eq_true rfl) (ja_cons (jn_var (E := (prS intS (tupS (prS intS intS)))) (a := a310) 5) (ja_cons (jn_var (E := (tupS intS)) (a := a533) 10) ja_nil)))) (ja_cons (jn_any (ao_tup ao_int) (jn_var (E := (tupS intS)) (a := a538) 11)) ja_nil)))))))) (jb_ret (weak_none _) jn_bl) (fun _ => rfl) (fun _ => trivial)
 (jb_cons (js_setE (Γ := fun s550 : ((List Int) × Int × Int × Int × Int × Int) => [some (sh ((scrS K) a.1)), some (h0O s550), some (sh ((lstS (lstS boolS)) a221)), some (sh ((lstS (lstS intS)) a262)), some (sh ((lstS intS) a276.1)), some (sh ((prS intS (tupS (prS intS intS))) a310)), some (sh (intS x521)), some (sh ((lstS intS) s532.2)), some (sh (intS a526)), some (sh (intS x531)), some (sh ((tupS intS) a533)), some (sh ((tupS intS) a538)), none]) (s := s532.1) 7 sc_law.nd (je_callS (O := h0O) 1 (fun s => s) (fun s u => u) (ok_law_walked T) T.g__law_walked T.F__law_walked.kp T.b__law_walked (Nat.le_of_ble_eq_true rfl) (jea_cons (je_of (jn_var (E := (lstS (lstS boolS))) (a := a221) 2)) fun s551 => (jea_cons (je_of (jn_var (E := (lstS (lstS intS))) (a := a262) 3)) fun s552 => (jea_cons (je_of (jn_var (E := (lstS intS)) (a := s532.2) 7)) fun s553 => (jea_cons (je_bin oAdd ov_add (je_of jn_int) fun s554 => (je_callS (O := h0O) 1 (fun s => s) (fun s u => u) (ok_law_draw T) T.g__law_draw T.F__law_draw.kp T.b__law_draw (Nat.le_of_ble_eq_true rfl) (jea_of (ja_cons jn_int ja_nil)))) fun s557 => jea_nil)))))) fun a599 =>
 JB.frz (i := 7) (o := (lstO (fun x => sh (intS x))) a599.1) (p := (lstS intS) a599.1) rfl ((fz_lst (fun _ => fz_sh)) _) (jb_nil (x := Out.nx (a599.2, a599.1)) rfl (weak_mask [true, true, true, true, true, true, true, true, true, false, false, false, false] _)))) (fun _ => rfl) (fun _ => trivial) fun a603 =>
 jb_cons (js_set 10 sc_law.nd (jn_call (ok_law_named T) T.g__law_named T.F__law_named.kp T.b__law_named (Nat.le_of_ble_eq_true rfl) (ja_cons (jn_var (E := (lstS intS)) (a := a276.1) 4) (ja_cons (jn_var (E := (lstS intS)) (a := a603.2) 7) ja_nil)))) fun a604 =>
 jb_cons (js_set 11 sc_law.nd (tup_lst T.m_tuple (JN.frz (fz_lst (fun _ => fz_sh)) (sorted_ints T.m_sorted (JN.frz (fz_lst (fun _ => fz_sh)) (jn_lc sc_law.nd (jc_of [("x", 12)] (jic_of (ji_rng1 T.m_range (len_lst T.m_len (jn_var (E := (lstS (lstS boolS))) (a := a221) 2)))) (show blkC ["script", "tape", "up", "near", "names", "made", "k", "row", "due", "part", "told", "points", "x"] (defScope s_law) _ [("x", 12)] = true by decide +kernel) (jg_name (E := intS) 12 sc_law.nd) (by decide) (all_lt rfl) (fun x605 => jts_one (jt_cmp oEq ov_eqI (jn_of (jr_ix oIxL iv_lst (jr_of (jn_var (E := (lstS intS)) (a := a603.2) 7)) (jn_var (E := intS) (a := x605) 12))) (jn_var (E := intS) (a := x605) 12))) fun x605 => (jn_of (jr_ix oIxL iv_lst (jr_of (jn_var (E := (lstS intS)) (a := a276.1) 4)) (jn_var (E := intS) (a := x605) 12)))))))))) fun a609 =>
 jb_ifx (D' := (fun r : Bool => Kd.rt (nonC 13) ((fun x => sh (boolS x)) r))) Out.rt (jt_not (jt_val (jn_call (ok_law_same T 6) T.g__law_same T.F__law_same.kp T.b__law_same (Nat.le_of_ble_eq_true rfl) (ja_cons (jn_any ao_int (jn_call0N (fun z => (z.2.1, z.1, ())) (ok_lefschetz T) T.g_lefschetz T.F_lefschetz.kp T.q0_lefschetz (by intro z B zs h; exact hets_s (vs := []) (ps := []) trivial h rfl) (by intro _; rfl) (Nat.le_of_ble_eq_true rfl) (jk_cons (jn_var (E := (tupS intS)) (a := a604) 10) (jk_cons (jn_var (E := (prS intS (tupS (prS intS intS)))) (a := a310) 5) jk_nil)))) (ja_cons (jn_any ao_int (jn_var (E := intS) (a := a526) 8)) ja_nil))))) (jb_ret (weak_none _) jn_bl) (fun _ => rfl) (fun _ => trivial)
 (jb_ifx (D' := (fun r : Bool => Kd.rt (nonC 13) ((fun x => sh (boolS x)) r))) Out.rt (jt_not (jt_val (jn_call (ok_law_same T 6) T.g__law_same T.F__law_same.kp T.b__law_same (Nat.le_of_ble_eq_true rfl) (ja_cons (jn_any (ao_tup ao_int) (jn_call0N (fun z => (z.2.1, z.1, ())) (ok_fixed_points T) T.g_fixed_points T.F_fixed_points.kp T.q0_fixed_points (by intro z B zs h; exact hets_s (vs := []) (ps := []) trivial h rfl) (by intro _; rfl) (Nat.le_of_ble_eq_true rfl) (jk_cons (jn_var (E := (tupS intS)) (a := a604) 10) (jk_cons (jn_var (E := (prS intS (tupS (prS intS intS)))) (a := a310) 5) jk_nil)))) (ja_cons (jn_any (ao_tup ao_int) (jn_var (E := (tupS intS)) (a := a609) 11)) ja_nil))))) (jb_ret (weak_none _) jn_bl) (fun _ => rfl) (fun _ => trivial)
 (jb_nil (x := Out.nx a603.1) rfl (weak_mask [true, true, true, true, true, true, false, false, false, false, false, false, false] _))))) (fun _ => rfl) (fun _ => trivial) fun a627 =>
 jb_ret (weak_none _) jn_bl))) (by unfold M_law; first | (dsimp only [CC.sb]; done) | (dsimp only [CC.sb]; rfl) | rfl)
end
def dd__law_tape : He.DefD := ⟨("_law_tape", none), "_law_tape", "_law_tape", defArgs s__law_tape, defBody s__law_tape, defScope s__law_tape, [], []⟩
def dd__law_load : He.DefD := ⟨("_law_load", none), "_law_load", "_law_load", defArgs s__law_load, defBody s__law_load, defScope s__law_load, [], []⟩
def dd__law_draw : He.DefD := ⟨("_law_draw", none), "_law_draw", "_law_draw", defArgs s__law_draw, defBody s__law_draw, defScope s__law_draw, [], []⟩
def dd__law_closed : He.DefD := ⟨("_law_closed", none), "_law_closed", "_law_closed", defArgs s__law_closed, defBody s__law_closed, defScope s__law_closed, [], []⟩
def dd__law_drawn : He.DefD := ⟨("_law_drawn", none), "_law_drawn", "_law_drawn", defArgs s__law_drawn, defBody s__law_drawn, defScope s__law_drawn, [], []⟩
def dd__law_covers : He.DefD := ⟨("_law_covers", none), "_law_covers", "_law_covers", defArgs s__law_covers, defBody s__law_covers, defScope s__law_covers, [], []⟩
def dd__law_shuffled : He.DefD := ⟨("_law_shuffled", none), "_law_shuffled", "_law_shuffled", defArgs s__law_shuffled, defBody s__law_shuffled, defScope s__law_shuffled, [], []⟩
def dd__law_told : He.DefD := ⟨("_law_told", none), "_law_told", "_law_told", defArgs s__law_told, defBody s__law_told, defScope s__law_told, [], []⟩
def dd__law_fits : He.DefD := ⟨("_law_fits", none), "_law_fits", "_law_fits", defArgs s__law_fits, defBody s__law_fits, defScope s__law_fits, [], []⟩
def dd__law_map : He.DefD := ⟨("_law_map", none), "_law_map", "_law_map", defArgs s__law_map, defBody s__law_map, defScope s__law_map, [], []⟩
def dd__law_signs : He.DefD := ⟨("_law_signs", none), "_law_signs", "_law_signs", defArgs s__law_signs, defBody s__law_signs, defScope s__law_signs, [], []⟩
def dd__law_number : He.DefD := ⟨("_law_number", none), "_law_number", "_law_number", defArgs s__law_number, defBody s__law_number, defScope s__law_number, [], []⟩
def dd__law_named : He.DefD := ⟨("_law_named", none), "_law_named", "_law_named", defArgs s__law_named, defBody s__law_named, defScope s__law_named, [], []⟩
def dd_fixed_points : He.DefD := ⟨("fixed_points", none), "fixed_points", "fixed_points", defArgs s_fixed_points, defBody s_fixed_points, defScope s_fixed_points, [], []⟩
def dd_induced : He.DefD := ⟨("induced", none), "induced", "induced", defArgs s_induced, defBody s_induced, defScope s_induced, [], []⟩
def dd_chain_counts : He.DefD := ⟨("chain_counts", none), "chain_counts", "chain_counts", defArgs s_chain_counts, defBody s_chain_counts, defScope s_chain_counts, [], []⟩
def dd_euler : He.DefD := ⟨("euler", none), "euler", "euler", defArgs s_euler, defBody s_euler, defScope s_euler, [], []⟩
def dd_lefschetz : He.DefD := ⟨("lefschetz", none), "lefschetz", "lefschetz", defArgs s_lefschetz, defBody s_lefschetz, defScope s_lefschetz, [], []⟩
def dd__law_same : He.DefD := ⟨("_law_same", none), "_law_same", "_law_same", defArgs s__law_same, defBody s__law_same, defScope s__law_same, [], []⟩
def dd__law_walked : He.DefD := ⟨("_law_walked", none), "_law_walked", "_law_walked", defArgs s__law_walked, defBody s__law_walked, defScope s__law_walked, [], []⟩
def dd_law : He.DefD := ⟨("law", none), "law", "law", defArgs s_law, defBody s_law, defScope s_law, [], []⟩
def mo : List Tst := []
def fn : List He.DefD := ([dd__law_tape, dd__law_load, dd__law_draw, dd__law_closed, dd__law_drawn, dd__law_covers, dd__law_shuffled, dd__law_told, dd__law_fits, dd__law_map, dd__law_signs, dd__law_number, dd__law_named, dd_fixed_points, dd_induced, dd_chain_counts, dd_euler, dd_lefschetz, dd__law_same, dd__law_walked, dd_law] : List He.DefD)
def fa : List He.Fa := ([.glo "_law_tape", .glo "_law_load", .glo "_law_draw", .glo "_law_closed", .glo "_law_drawn", .glo "_law_covers", .glo "_law_shuffled", .glo "_law_told", .glo "_law_fits", .glo "_law_map", .glo "_law_signs", .glo "_law_number", .glo "_law_named", .glo "fixed_points", .glo "induced", .glo "chain_counts", .glo "euler", .glo "lefschetz", .glo "_law_same", .glo "_law_walked", .glo "law", .free "len", .free "int", .free "abs", .free "list", .free "range", .free "tuple", .free "sorted", .free "sum", .free "enumerate"] : List He.Fa) ++ ([.free "isinstance", .free "bool"] : List He.Fa)
abbrev rw_ : PySem.W.OpenRow := PySem.W.OpenLaw.row PySem.Challenge.rw_chaincore_k59_whole_lefschetz_of_led_map
abbrev hk : PySem.W.Hook := hookX 4 mo fa fn
def ob (s : PySem.W.SharedT) : Bool × He.AlD := obsXG 4 mo fa fn (HandSHeadRun.getT s)
theorem ob_eq (s : PySem.W.SharedT) : ob s = hk.obs s.abs := obsXG_eq (HandSHeadRun.getT_eq s)
def loose : List Str := (["induced", "chain_counts", "euler", "fixed_points", "lefschetz", "_law_tape", "_law_load", "_law_draw", "_law_same", "_law_shuffled", "_law_closed", "_law_drawn", "_law_told", "_law_signs", "_law_fits", "_law_map", "_law_named", "_law_covers", "_law_number", "_law_walked"] : List Str)
theorem run (w : World) : HandSHeadRun.RunEq rw_ (PySem.W.view rw_.prog [24]) hk ob 3000 loose w := by
  intro os
  kernel_rfl
theorem facts {P : Program} {w : World} {K : PySem.W.Frag} {h : Heap} {mg : Str → Option Value} {f : Addr} (X : K.In h) (G : h.Ns mainGlobals mg) (hfa : mg ("law" : Str) = some (.ref f)) (c0 : SaysX mo fa fn K) :
    ∃ fd : FuncData, (∀ (s : Shared) (v : Value), BindsTo s fd ⟨[v], []⟩ [("script", v)]) ∧ ∀ base : Heap, K.In base → base.Ns mainGlobals mg → FnOk P w K mg base CX0 8 f fd ["script"] (spP (fun a : List Int × Unit => [scrS K a.1]) M_law fun b => sh (boolS b)) := by
  have c : He.SaysD fa fn K := c0.d
  obtain ⟨fd__law_tape, F__law_tape⟩ := c.def_ 0 (d := dd__law_tape) rfl
  obtain ⟨fd__law_load, F__law_load⟩ := c.def_ 1 (d := dd__law_load) rfl
  obtain ⟨fd__law_draw, F__law_draw⟩ := c.def_ 2 (d := dd__law_draw) rfl
  obtain ⟨fd__law_closed, F__law_closed⟩ := c.def_ 3 (d := dd__law_closed) rfl
  obtain ⟨fd__law_drawn, F__law_drawn⟩ := c.def_ 4 (d := dd__law_drawn) rfl
  obtain ⟨fd__law_covers, F__law_covers⟩ := c.def_ 5 (d := dd__law_covers) rfl
  obtain ⟨fd__law_shuffled, F__law_shuffled⟩ := c.def_ 6 (d := dd__law_shuffled) rfl
  obtain ⟨fd__law_told, F__law_told⟩ := c.def_ 7 (d := dd__law_told) rfl
  obtain ⟨fd__law_fits, F__law_fits⟩ := c.def_ 8 (d := dd__law_fits) rfl
  obtain ⟨fd__law_map, F__law_map⟩ := c.def_ 9 (d := dd__law_map) rfl
  obtain ⟨fd__law_signs, F__law_signs⟩ := c.def_ 10 (d := dd__law_signs) rfl
  obtain ⟨fd__law_number, F__law_number⟩ := c.def_ 11 (d := dd__law_number) rfl
  obtain ⟨fd__law_named, F__law_named⟩ := c.def_ 12 (d := dd__law_named) rfl
  obtain ⟨fd_fixed_points, F_fixed_points⟩ := c.def_ 13 (d := dd_fixed_points) rfl
  obtain ⟨fd_induced, F_induced⟩ := c.def_ 14 (d := dd_induced) rfl
  obtain ⟨fd_chain_counts, F_chain_counts⟩ := c.def_ 15 (d := dd_chain_counts) rfl
  obtain ⟨fd_euler, F_euler⟩ := c.def_ 16 (d := dd_euler) rfl
  obtain ⟨fd_lefschetz, F_lefschetz⟩ := c.def_ 17 (d := dd_lefschetz) rfl
  obtain ⟨fd__law_same, F__law_same⟩ := c.def_ 18 (d := dd__law_same) rfl
  obtain ⟨fd__law_walked, F__law_walked⟩ := c.def_ 19 (d := dd__law_walked) rfl
  obtain ⟨fd_law, F_law⟩ := c.def_ 20 (d := dd_law) rfl
  have T : Tx K mg := { a__law_tape := _, d__law_tape := fd__law_tape, F__law_tape := F__law_tape, b__law_tape := FunD.bindsN F__law_tape (fun _ _ _ _ _ _ us hl => match us, hl with | [_], _ => rfl), g__law_tape := He.glo_ok X G (c.fact 0 (f := .glo "_law_tape") rfl), a__law_load := _, d__law_load := fd__law_load, F__law_load := F__law_load, b__law_load := FunD.bindsN F__law_load (fun _ _ _ _ _ _ us hl => match us, hl with | [_], _ => rfl), g__law_load := He.glo_ok X G (c.fact 1 (f := .glo "_law_load") rfl), a__law_draw := _, d__law_draw := fd__law_draw, F__law_draw := F__law_draw, b__law_draw := FunD.bindsN F__law_draw (fun _ _ _ _ _ _ us hl => match us, hl with | [_, _], _ => rfl), g__law_draw := He.glo_ok X G (c.fact 2 (f := .glo "_law_draw") rfl), a__law_closed := _, d__law_closed := fd__law_closed, F__law_closed := F__law_closed, b__law_closed := FunD.bindsN F__law_closed (fun _ _ _ _ _ _ us hl => match us, hl with | [_, _], _ => rfl), g__law_closed := He.glo_ok X G (c.fact 3 (f := .glo "_law_closed") rfl), a__law_drawn := _, d__law_drawn := fd__law_drawn, F__law_drawn := F__law_drawn, b__law_drawn := FunD.bindsN F__law_drawn (fun _ _ _ _ _ _ us hl => match us, hl with | [_, _], _ => rfl), g__law_drawn := He.glo_ok X G (c.fact 4 (f := .glo "_law_drawn") rfl), a__law_covers := _, d__law_covers := fd__law_covers, F__law_covers := F__law_covers, b__law_covers := FunD.bindsN F__law_covers (fun _ _ _ _ _ _ us hl => match us, hl with | [_], _ => rfl), g__law_covers := He.glo_ok X G (c.fact 5 (f := .glo "_law_covers") rfl), a__law_shuffled := _, d__law_shuffled := fd__law_shuffled, F__law_shuffled := F__law_shuffled, b__law_shuffled := FunD.bindsN F__law_shuffled (fun _ _ _ _ _ _ us hl => match us, hl with | [_, _], _ => rfl), g__law_shuffled := He.glo_ok X G (c.fact 6 (f := .glo "_law_shuffled") rfl), a__law_told := _, d__law_told := fd__law_told, F__law_told := F__law_told, b__law_told := FunD.bindsN F__law_told (fun _ _ _ _ _ _ us hl => match us, hl with | [_, _], _ => rfl), g__law_told := He.glo_ok X G (c.fact 7 (f := .glo "_law_told") rfl), a__law_fits := _, d__law_fits := fd__law_fits, F__law_fits := F__law_fits, b__law_fits := FunD.bindsN F__law_fits (fun _ _ _ _ _ _ us hl => match us, hl with | [_, _, _, _], _ => rfl), g__law_fits := He.glo_ok X G (c.fact 8 (f := .glo "_law_fits") rfl), a__law_map := _, d__law_map := fd__law_map, F__law_map := F__law_map, b__law_map := FunD.bindsN F__law_map (fun _ _ _ _ _ _ us hl => match us, hl with | [_, _], _ => rfl), g__law_map := He.glo_ok X G (c.fact 9 (f := .glo "_law_map") rfl), a__law_signs := _, d__law_signs := fd__law_signs, F__law_signs := F__law_signs, b__law_signs := FunD.bindsN F__law_signs (fun _ _ _ _ _ _ us hl => match us, hl with | [_], _ => rfl), g__law_signs := He.glo_ok X G (c.fact 10 (f := .glo "_law_signs") rfl), a__law_number := _, d__law_number := fd__law_number, F__law_number := F__law_number, b__law_number := FunD.bindsN F__law_number (fun _ _ _ _ _ _ us hl => match us, hl with | [_, _], _ => rfl), g__law_number := He.glo_ok X G (c.fact 11 (f := .glo "_law_number") rfl), a__law_named := _, d__law_named := fd__law_named, F__law_named := F__law_named, b__law_named := FunD.bindsN F__law_named (fun _ _ _ _ _ _ us hl => match us, hl with | [_, _], _ => rfl), g__law_named := He.glo_ok X G (c.fact 12 (f := .glo "_law_named") rfl), a_fixed_points := _, d_fixed_points := fd_fixed_points, F_fixed_points := F_fixed_points, b_fixed_points := FunD.bindsN F_fixed_points (fun _ _ _ _ _ _ us hl => match us, hl with | [_, _], _ => rfl), q0_fixed_points := kb_plain F_fixed_points 0 ["row", "order"] [1, 0] (fun _ _ _ _ _ _ us ws l1 l2 => match us, l1, ws, l2 with | [], _, [_, _], _ => rfl), g_fixed_points := He.glo_ok X G (c.fact 13 (f := .glo "fixed_points") rfl), a_induced := _, d_induced := fd_induced, F_induced := F_induced, b_induced := FunD.bindsN F_induced (fun _ _ _ _ _ _ us hl => match us, hl with | [_, _], _ => rfl), g_induced := He.glo_ok X G (c.fact 14 (f := .glo "induced") rfl), a_chain_counts := _, d_chain_counts := fd_chain_counts, F_chain_counts := F_chain_counts, b_chain_counts := FunD.bindsN F_chain_counts (fun _ _ _ _ _ _ us hl => match us, hl with | [_], _ => rfl), g_chain_counts := He.glo_ok X G (c.fact 15 (f := .glo "chain_counts") rfl), a_euler := _, d_euler := fd_euler, F_euler := F_euler, b_euler := FunD.bindsN F_euler (fun _ _ _ _ _ _ us hl => match us, hl with | [_], _ => rfl), g_euler := He.glo_ok X G (c.fact 16 (f := .glo "euler") rfl), a_lefschetz := _, d_lefschetz := fd_lefschetz, F_lefschetz := F_lefschetz, b_lefschetz := FunD.bindsN F_lefschetz (fun _ _ _ _ _ _ us hl => match us, hl with | [_, _], _ => rfl), q0_lefschetz := kb_plain F_lefschetz 0 ["row", "order"] [1, 0] (fun _ _ _ _ _ _ us ws l1 l2 => match us, l1, ws, l2 with | [], _, [_, _], _ => rfl), g_lefschetz := He.glo_ok X G (c.fact 17 (f := .glo "lefschetz") rfl), a__law_same := _, d__law_same := fd__law_same, F__law_same := F__law_same, b__law_same := FunD.bindsN F__law_same (fun _ _ _ _ _ _ us hl => match us, hl with | [_, _], _ => rfl), g__law_same := He.glo_ok X G (c.fact 18 (f := .glo "_law_same") rfl), a__law_walked := _, d__law_walked := fd__law_walked, F__law_walked := F__law_walked, b__law_walked := FunD.bindsN F__law_walked (fun _ _ _ _ _ _ us hl => match us, hl with | [_, _, _, _, _], _ => rfl), g__law_walked := He.glo_ok X G (c.fact 19 (f := .glo "_law_walked") rfl), a_law := _, d_law := fd_law, F_law := F_law, b_law := FunD.bindsN F_law (fun _ _ _ _ _ _ us hl => match us, hl with | [_], _ => rfl), g_law := He.glo_ok X G (c.fact 20 (f := .glo "law") rfl), m_len := He.free_ok X G (c.fact 21 (f := .free "len") rfl), m_int := He.free_ok X G (c.fact 22 (f := .free "int") rfl), m_abs := He.free_ok X G (c.fact 23 (f := .free "abs") rfl), m_list := He.free_ok X G (c.fact 24 (f := .free "list") rfl), m_range := He.free_ok X G (c.fact 25 (f := .free "range") rfl), m_tuple := He.free_ok X G (c.fact 26 (f := .free "tuple") rfl), m_sorted := He.free_ok X G (c.fact 27 (f := .free "sorted") rfl), m_sum := He.free_ok X G (c.fact 28 (f := .free "sum") rfl), m_enumerate := He.free_ok X G (c.fact 29 (f := .free "enumerate") rfl), m_isinstance := He.free_ok X G (c.fact 30 (f := .free "isinstance") rfl), m_bool := He.free_ok X G (c.fact 31 (f := .free "bool") rfl) }
  have e := hfa.symm.trans T.g_law
  cases e
  have b := FunD.bindsA (ps := ["script"]) T.F_law fun _ _ _ _ _ _ us hl => match us, hl with | [_], _ => rfl
  exact ⟨T.d_law, fun s v => b s [v] rfl, fun base _ _ => ok_law T⟩
end K59
set_option maxHeartbeats 1000000
/-! Euler numbers of finite orders, in plain Lean. -/
namespace K59
def S : Nat → (Nat → Int) → Int
  | 0, _ => 0
  | n + 1, f => S n f + f n
theorem S_congr {n : Nat} {f g : Nat → Int} (h : ∀ x, x < n → f x = g x) : S n f = S n g := by
  induction n with
  | zero => rfl
  | succ n ih =>
    show S n f + f n = S n g + g n
    rw [ih fun x hx => h x (by omega), h n (by omega)]
theorem S_zero {n : Nat} : S n (fun _ => 0) = 0 := by
  induction n with
  | zero => rfl
  | succ n ih =>
    show S n _ + 0 = 0
    rw [ih]
    rfl
theorem S_add {n : Nat} {f g : Nat → Int} : S n (fun x => f x + g x) = S n f + S n g := by
  induction n with
  | zero => rfl
  | succ n ih =>
    show S n _ + (f n + g n) = S n f + f n + (S n g + g n)
    rw [ih]
    omega
theorem S_mul {n : Nat} {c : Int} {f : Nat → Int} : S n (fun x => c * f x) = c * S n f := by
  induction n with
  | zero => exact (Int.mul_zero c).symm
  | succ n ih =>
    show S n _ + c * f n = c * (S n f + f n)
    rw [ih, Int.mul_add]
theorem S_comm {n m : Nat} {f : Nat → Nat → Int} : S n (fun x => S m fun y => f x y) = S m fun y => S n fun x => f x y := by
  induction n with
  | zero => exact S_zero.symm
  | succ n ih =>
    show S n _ + S m (fun y => f n y) = S m fun y => S n (fun x => f x y) + f n y
    rw [ih, S_add]
theorem S_one {n a : Nat} {c : Int} (h : a < n) : S n (fun y => if y = a then c else 0) = c := by
  induction n with
  | zero => omega
  | succ n ih =>
    show S n _ + (if n = a then c else 0) = c
    by_cases e : a < n
    · rw [ih e, if_neg (by omega), Int.add_zero]
    · have : a = n := by omega
      subst this
      rw [if_pos rfl, S_congr (g := fun _ => 0) fun x hx => if_neg (by omega), S_zero, Int.zero_add]
/-- z where b, else 0 -/
def wh (b : Bool) (z : Int) : Int := bif b then z else 0
/-- the signs of the points of A: with those below it each has the sum 1 -/
def Sg (n : Nat) (A : Nat → Bool) (r : Nat → Nat → Bool) (s : Nat → Int) : Prop := ∀ x, x < n → A x = true → S n (fun y => wh (A y && r y x) (s y)) + s x = 1
def chi (n : Nat) (A : Nat → Bool) (s : Nat → Int) : Int := S n fun x => wh (A x) (s x)
theorem Sg.uniq {n : Nat} {A : Nat → Bool} {r : Nat → Nat → Bool} {s t : Nat → Int} {f : Nat → Nat} (hf : ∀ x y, r x y = true → f x < f y) (h : Sg n A r s) (k : Sg n A r t) : ∀ (j : Nat) (x : Nat), f x ≤ j → x < n → A x = true → s x = t x := by
  intro j
  induction j with
  | zero =>
    intro x hx hn hA
    have h1 := h x hn hA
    have h2 := k x hn hA
    have z : ∀ u : Nat → Int, S n (fun y => wh (A y && r y x) (u y)) = 0 := fun u => by
      rw [S_congr (g := fun _ => 0) fun y _ => ?_, S_zero]
      cases e : r y x with
      | true => have := hf y x e; omega
      | false => rw [Bool.and_false]; rfl
    rw [z] at h1 h2
    omega
  | succ j ih =>
    intro x hx hn hA
    have h1 := h x hn hA
    have h2 := k x hn hA
    rw [S_congr (g := fun y => wh (A y && r y x) (t y)) fun y hy => ?_] at h1
    · omega
    · cases e : r y x with
      | true =>
        cases a : A y with
        | true =>
          have := hf y x e
          rw [ih y (by omega) hy a]
        | false => rfl
      | false => rw [Bool.and_false]; rfl
theorem Sg.chi_eq {n : Nat} {A : Nat → Bool} {r : Nat → Nat → Bool} {s t : Nat → Int} {f : Nat → Nat} (hf : ∀ x y, r x y = true → f x < f y) (h : Sg n A r s) (k : Sg n A r t) : chi n A s = chi n A t := by
  refine S_congr fun x hx => ?_
  cases a : A x with
  | true => rw [Sg.uniq hf h k (f x) x (Nat.le_refl _) hx a]
  | false => rfl
/-- signs put to 0 outside A -/
theorem Sg.wide {n : Nat} {A B : Nat → Bool} {r : Nat → Nat → Bool} {s : Nat → Int} (hi : ∀ x, r x x = false) (hAB : ∀ x, A x = true → B x = true) (h : Sg n A r s) (hp : ∀ p, p < n → B p = true → A p = false → ∃ a, a < n ∧ A a = true ∧ ∀ z, z < n → A z = true → r z p = (decide (z = a) || r z a)) :
    Sg n B r (fun x => wh (A x) (s x)) ∧ chi n B (fun x => wh (A x) (s x)) = chi n A s := by
  have e : ∀ x y, wh (B y && r y x) (wh (A y) (s y)) = wh (A y && r y x) (s y) := fun x y => by
    cases a : A y with
    | true => rw [hAB y a]; cases r y x <;> rfl
    | false => cases B y <;> cases r y x <;> rfl
  refine ⟨fun x hx hB => ?_, S_congr fun x hx => ?_⟩
  · simp only [e]
    cases a : A x with
    | true => exact h x hx a
    | false =>
      obtain ⟨b, hb, hA, hz⟩ := hp x hx hB a
      show S n _ + 0 = 1
      rw [Int.add_zero, ← h b hb hA, ← S_one (c := s b) hb, ← S_add]
      refine S_congr fun y hy => ?_
      cases ay : A y with
      | false =>
        have : y ≠ b := fun q => by rw [q, hA] at ay; cases ay
        rw [if_neg this]
        rfl
      | true =>
        rw [hz y hy ay]
        by_cases q : y = b
        · subst q
          rw [hi y, if_pos rfl, decide_eq_true rfl]
          show s y = 0 + s y
          omega
        · rw [if_neg q, decide_eq_false q, Bool.false_or, Int.add_zero]
  · cases a : A x with
    | true =>
      rw [hAB x a]
      show wh (A x) (s x) = _
      rw [a]
    | false =>
      show wh (B x) (wh (A x) (s x)) = _
      rw [a]
      cases B x <;> rfl
/-- from below and from above -/
theorem Sg.dual {n : Nat} {A : Nat → Bool} {r : Nat → Nat → Bool} {s t : Nat → Int} (h : Sg n A r s) (k : Sg n A (fun x y => r y x) t) : chi n A s = chi n A t := by
  have e1 : chi n A s = S n (fun x => S n fun y => wh (A x && A y && r x y) (s x * t y)) + S n fun x => wh (A x) (s x * t x) := by
    rw [← S_add]
    refine S_congr fun x hx => ?_
    cases a : A x with
    | false =>
      have z : S n (fun y => wh (false && A y && r x y) (s x * t y)) = 0 := (S_congr (g := fun _ => 0) fun y _ => rfl).trans S_zero
      rw [z]
      rfl
    | true =>
      have := k x hx a
      have e : S n (fun y => wh (true && A y && r x y) (s x * t y)) = s x * S n fun y => wh (A y && r x y) (t y) := by
        rw [← S_mul]
        refine S_congr fun y _ => ?_
        rw [Bool.true_and]
        cases A y && r x y with
        | true => rfl
        | false => exact (Int.mul_zero _).symm
      rw [e]
      show s x = s x * _ + s x * t x
      rw [← Int.mul_add, this, Int.mul_one]
  have e2 : chi n A t = S n (fun y => S n fun x => wh (A x && A y && r x y) (s x * t y)) + S n fun x => wh (A x) (s x * t x) := by
    rw [← S_add]
    refine S_congr fun y hy => ?_
    cases a : A y with
    | false =>
      have z : S n (fun x => wh (A x && false && r x y) (s x * t y)) = 0 := (S_congr (g := fun _ => 0) fun x _ => by rw [Bool.and_false]; rfl).trans S_zero
      rw [z]
      rfl
    | true =>
      have := h y hy a
      have e : S n (fun x => wh (A x && true && r x y) (s x * t y)) = t y * S n fun x => wh (A x && r x y) (s x) := by
        rw [← S_mul]
        refine S_congr fun x _ => ?_
        rw [Bool.and_true]
        cases A x && r x y with
        | true => exact Int.mul_comm _ _
        | false => exact (Int.mul_zero _).symm
      rw [e]
      show t y = t y * _ + s y * t y
      rw [Int.mul_comm (s y), ← Int.mul_add, this, Int.mul_one]
  rw [e1, e2, S_comm]
end K59
set_option maxHeartbeats 1000000
/-! chains and signs, in plain Lean. -/
namespace K59
theorem S_le {n : Nat} {f g : Nat → Int} (h : ∀ x, x < n → f x ≤ g x) : S n f ≤ S n g := by
  induction n with
  | zero => exact Int.le_refl _
  | succ n ih =>
    have := ih fun x hx => h x (by omega)
    have := h n (by omega)
    show S n f + f n ≤ S n g + g n
    omega
theorem S_lt {n : Nat} {f g : Nat → Int} (h : ∀ x, x < n → f x ≤ g x) {a : Nat} (ha : a < n) (hs : f a < g a) : S n f < S n g := by
  induction n with
  | zero => omega
  | succ n ih =>
    show S n f + f n < S n g + g n
    by_cases e : a < n
    · have := ih (fun x hx => h x (by omega)) e
      have := h n (by omega)
      omega
    · have : a = n := by omega
      subst this
      have := S_le (n := a) fun x hx => h x (by omega)
      omega
theorem S_pos {n : Nat} {f : Nat → Int} (h : ∀ x, x < n → 0 ≤ f x) : 0 ≤ S n f := by
  have := S_le (n := n) (f := fun _ => 0) (g := f) h
  rwa [S_zero] at this
/-- a strict order on the points below n -/
structure Or (n : Nat) (r : Nat → Nat → Bool) : Prop where
  lo : ∀ x y, r x y = true → x < n ∧ y < n
  tr : ∀ x y z, r x y = true → r y z = true → r x z = true
  ir : ∀ x, r x x = false
theorem Or.flip {n : Nat} {r : Nat → Nat → Bool} (h : Or n r) : Or n fun x y => r y x :=
  ⟨fun x y e => ⟨(h.lo y x e).2, (h.lo y x e).1⟩, fun x y z a b => h.tr z y x b a, h.ir⟩
/-- the number of points below it -/
def cn (n : Nat) (r : Nat → Nat → Bool) (x : Nat) : Int := S n fun y => wh (r y x) 1
theorem wh_le {b c : Bool} (h : b = true → c = true) {z : Int} (hz : 0 ≤ z) : wh b z ≤ wh c z := by
  cases b with
  | false => cases c with
    | false => exact Int.le_refl _
    | true => exact hz
  | true => rw [h rfl]; exact Int.le_refl _
theorem cn_lt {n : Nat} {r : Nat → Nat → Bool} (h : Or n r) {x y : Nat} (e : r x y = true) : cn n r x < cn n r y := by
  refine S_lt (fun z _ => wh_le (fun q => h.tr _ _ _ q e) (by omega)) (h.lo x y e).1 ?_
  simp only [h.ir x, e]
  decide
theorem cn_pos {n : Nat} {r : Nat → Nat → Bool} {x : Nat} : 0 ≤ cn n r x := S_pos fun y _ => by cases r y x <;> decide
theorem S_const {n : Nat} : S n (fun _ => 1) = (n : Int) := by
  induction n with
  | zero => rfl
  | succ n ih =>
    show S n _ + 1 = _
    rw [ih]
    omega
theorem cn_top {n : Nat} {r : Nat → Nat → Bool} (h : Or n r) {x : Nat} (hx : x < n) : cn n r x < n := by
  rw [← S_const (n := n)]
  refine S_lt (fun z _ => by cases r z x <;> decide) hx ?_
  simp only [h.ir x]
  decide
theorem Or.rank {n : Nat} {r : Nat → Nat → Bool} (h : Or n r) : ∀ x y, r x y = true → (cn n r x).toNat < (cn n r y).toNat := fun x y e => by
  have := cn_lt h e
  have := cn_pos (n := n) (r := r) (x := x)
  omega
/-- the number of chains of k + 1 points that end at x -/
def E (n : Nat) (r : Nat → Nat → Bool) : Nat → Nat → Int
  | 0, _ => 1
  | k + 1, x => S n fun y => wh (r y x) (E n r k y)
theorem E_pos {n : Nat} {r : Nat → Nat → Bool} : ∀ {k x : Nat}, 0 ≤ E n r k x
  | 0, _ => (by decide : (0 : Int) ≤ 1)
  | k + 1, x => S_pos fun y _ => by
    cases r y x with
    | false => exact Int.le_refl _
    | true => exact E_pos (k := k)
theorem E_zero {n : Nat} {r : Nat → Nat → Bool} (h : Or n r) : ∀ {k x : Nat}, cn n r x < k → E n r k x = 0
  | 0, x, hx => by have := cn_pos (n := n) (r := r) (x := x); omega
  | k + 1, x, hx => by
    refine (S_congr (g := fun _ => 0) fun y _ => ?_).trans S_zero
    cases e : r y x with
    | false => rfl
    | true =>
      have := cn_lt h e
      exact E_zero h (k := k) (by omega)
/-- f 0 - f 1 + f 2 - .. -/
def alt : Nat → (Nat → Int) → Int
  | 0, _ => 0
  | k + 1, f => f 0 - alt k fun i => f (i + 1)
theorem alt_congr : ∀ {k : Nat} {f g : Nat → Int}, (∀ i, i < k → f i = g i) → alt k f = alt k g
  | 0, _, _, _ => rfl
  | k + 1, f, g, h => by
    show f 0 - _ = g 0 - _
    rw [h 0 (by omega), alt_congr fun i hi => h (i + 1) (by omega)]
theorem alt_zero : ∀ {k : Nat}, alt k (fun _ => 0) = 0
  | 0 => rfl
  | k + 1 => by
    show 0 - alt k (fun _ => 0) = 0
    rw [alt_zero]
    rfl
theorem alt_more : ∀ {k : Nat} {f : Nat → Int} (m : Nat), (∀ i, k ≤ i → f i = 0) → alt (k + m) f = alt k f
  | 0, f, m, h => by
    rw [Nat.zero_add]
    exact (alt_congr (g := fun _ => 0) fun i _ => h i (Nat.zero_le _)).trans alt_zero
  | k + 1, f, m, h => by
    rw [show k + 1 + m = k + m + 1 by omega]
    show f 0 - _ = f 0 - _
    rw [alt_more m fun i hi => h (i + 1) (by omega)]
theorem alt_S {n : Nat} : ∀ {k : Nat} {f : Nat → Nat → Int}, alt k (fun i => S n fun y => f i y) = S n fun y => alt k fun i => f i y
  | 0, _ => S_zero.symm
  | k + 1, f => by
    show S n (fun y => f 0 y) - alt k (fun i => S n fun y => f (i + 1) y) = S n fun y => f 0 y - alt k fun i => f (i + 1) y
    rw [alt_S]
    have := S_add (n := n) (f := fun y => f 0 y - alt k fun i => f (i + 1) y) (g := fun y => alt k fun i => f (i + 1) y)
    simp only [Int.sub_add_cancel] at this
    omega
theorem alt_wh {b : Bool} {k : Nat} {f : Nat → Int} : alt k (fun i => wh b (f i)) = wh b (alt k f) := by
  cases b with
  | true => rfl
  | false => exact alt_zero
/-- the sign of x -/
def sg (n : Nat) (r : Nat → Nat → Bool) (x : Nat) : Int := alt n fun k => E n r k x
theorem sg_ok {n : Nat} {r : Nat → Nat → Bool} (h : Or n r) : Sg n (fun _ => true) r (sg n r) := fun x hx _ => by
  have e1 : sg n r x = alt (n + 1) fun k => E n r k x := (alt_more (k := n) 1 fun i hi => E_zero h (by have := cn_top h hx; omega)).symm
  have e2 : (alt (n + 1) fun k => E n r k x) = 1 - S n fun y => wh (r y x) (sg n r y) := by
    show 1 - alt n (fun i => S n fun y => wh (r y x) (E n r i y)) = _
    rw [alt_S]
    congr 1
    exact S_congr fun y _ => alt_wh
  rw [e1, e2]
  simp only [Bool.true_and]
  omega
end K59
set_option maxHeartbeats 1000000
/-! renaming, in plain Lean. -/
namespace K59
/-- a renaming of the points below n -/
structure Ren (n : Nat) (σ τ : Nat → Nat) : Prop where
  lt : ∀ x, x < n → σ x < n
  lt' : ∀ x, x < n → τ x < n
  st : ∀ x, x < n → σ (τ x) = x
  ts : ∀ x, x < n → τ (σ x) = x
theorem S_ren {n : Nat} {σ τ : Nat → Nat} (h : Ren n σ τ) {f : Nat → Int} : S n (fun x => f (σ x)) = S n f := by
  have e1 : S n f = S n fun y => S n fun x => wh (decide (x = τ y)) (f y) := S_congr fun y hy => by
    refine (S_one (c := f y) (h.lt' y hy)).symm.trans (S_congr fun x _ => ?_)
    by_cases e : x = τ y
    · rw [if_pos e, decide_eq_true e]; rfl
    · rw [if_neg e, decide_eq_false e]; rfl
  have e2 : S n (fun x => f (σ x)) = S n fun x => S n fun y => wh (decide (x = τ y)) (f y) := S_congr fun x hx => by
    refine (S_one (c := f (σ x)) (h.lt x hx)).symm.trans (S_congr fun y hy => ?_)
    by_cases e : y = σ x
    · rw [if_pos e, decide_eq_true (by rw [e, h.ts x hx]), e]; rfl
    · rw [if_neg e, decide_eq_false fun q => e (by rw [q, h.st y hy])]; rfl
  rw [e1, e2, S_comm]
theorem E_ren {n : Nat} {r r' : Nat → Nat → Bool} {σ τ : Nat → Nat} (h : Ren n σ τ) (hr : ∀ x y, x < n → y < n → r' (σ x) (σ y) = r x y) : ∀ {k x : Nat}, x < n → E n r' k (σ x) = E n r k x
  | 0, _, _ => rfl
  | k + 1, x, hx => by
    show S n (fun y => wh (r' y (σ x)) (E n r' k y)) = S n fun y => wh (r y x) (E n r k y)
    rw [← S_ren h]
    exact S_congr fun y hy => by rw [hr y x hy hx, E_ren h hr hy]
theorem sg_ren {n : Nat} {r r' : Nat → Nat → Bool} {σ τ : Nat → Nat} (h : Ren n σ τ) (hr : ∀ x y, x < n → y < n → r' (σ x) (σ y) = r x y) {x : Nat} (hx : x < n) : sg n r' (σ x) = sg n r x :=
  alt_congr fun k _ => E_ren h hr hx
theorem chi_ren {n : Nat} {r r' : Nat → Nat → Bool} {σ τ : Nat → Nat} (h : Ren n σ τ) (hr : ∀ x y, x < n → y < n → r' (σ x) (σ y) = r x y) : S n (sg n r') = S n (sg n r) := by
  rw [← S_ren h]
  exact S_congr fun x hx => sg_ren h hr hx
end K59
set_option maxHeartbeats 1000000
namespace K59
open PySem PySem.Spec L2 CC
open PyProof.Rows hiding St
/-- the pairs of an order -/
structure Pr (n : Nat) (r : Nat → Nat → Bool) (ps : List (Int × Int)) : Prop where
  bd : ∀ p ∈ ps, ∃ x y : Nat, p = ((x : Int), (y : Int)) ∧ r x y = true
  mem : ∀ x y : Nat, r x y = true → ((x : Int), (y : Int)) ∈ ps
  nd : ps.Nodup
structure Vec (n : Nat) (L : List Int) (f : Nat → Int) : Prop where
  len : L.length = n
  look : ∀ x, x < n → atI L (x : Int) = some (f x)
theorem Vec.congr {n : Nat} {L : List Int} {f g : Nat → Int} (h : Vec n L f) (e : ∀ x, x < n → f x = g x) : Vec n L g := ⟨h.len, fun x hx => by rw [h.look x hx, e x hx]⟩
theorem Vec.eq {n : Nat} {L : List Int} {f : Nat → Int} (h : Vec n L f) : L = (List.range n).map f := by
  refine List.ext_getElem (by rw [List.length_map, List.length_range, h.len]) fun i h1 h2 => ?_
  have := h.look i (by rw [← h.len]; exact h1)
  rw [atI_nat h1] at this
  rw [Option.some.inj this, List.getElem_map, List.getElem_range]
theorem sum_S {n : Nat} {f : Nat → Int} : ((List.range n).map f).sum = S n f := by
  induction n with
  | zero => rfl
  | succ n ih =>
    rw [List.range_succ, List.map_append, List.sum_append, ih]
    show S n f + (f n + 0) = S n f + f n
    omega
theorem Vec.sum {n : Nat} {L : List Int} {f : Nat → Int} (h : Vec n L f) : L.sum = S n f := by
  rw [h.eq, sum_S]
theorem Vec.set {n : Nat} {L : List Int} {f : Nat → Int} (h : Vec n L f) {x : Nat} {z : Int} (hx : x < n) : setAt L (x : Int) z = some (L.set x z) ∧ Vec n (L.set x z) fun y => if y = x then z else f y := by
  have hx' : x < L.length := by rw [h.len]; exact hx
  refine ⟨setAt_nat hx', by rw [List.length_set]; exact h.len, fun y hy => ?_⟩
  have hy' : y < (L.set x z).length := by rw [List.length_set, h.len]; exact hy
  rw [atI_nat hy', List.getElem_set]
  by_cases e : y = x
  · subst e
    rw [if_pos rfl, if_pos rfl]
  · rw [if_neg (fun q => e q.symm), if_neg e, ← h.look y hy, atI_nat (by rw [h.len]; exact hy)]
theorem Vec.rep {n : Nat} {z : Int} : Vec n (List.replicate n z) fun _ => z := ⟨List.length_replicate, fun x hx => by
  rw [atI_nat (by rw [List.length_replicate]; exact hx), List.getElem_replicate]⟩
/-- one more point on each chain -/
theorem longer_ok {n : Nat} {r : Nat → Nat → Bool} {ps : List (Int × Int)} {e : Nat → Int} {g : Int × Int → List Int → Option (List Int)} (hO : Or n r) (hp : Pr n r ps)
    (hg : ∀ (a b : Nat) L f, a < n → b < n → Vec n L f → g ((a : Int), (b : Int)) L = some (L.set b (f b + e a))) : Ok (foldGo g ps (List.replicate n 0)) fun L => Vec n L fun y => S n fun x => wh (r x y) (e x) := by
  refine (foldG_ok (Inv := fun k L => Vec n L fun y => S n fun x => wh (decide (((x : Int), (y : Int)) ∈ ps.take k)) (e x)) ps 0 ?_ fun k p L hk hL => ?_).mono fun L hL => hL.congr fun y hy => S_congr fun x hx => ?_
  · refine Vec.rep.congr fun y _ => ?_
    rw [List.take_zero]
    exact (S_zero (n := n)).symm.trans (S_congr fun x _ => by rw [decide_eq_false (List.not_mem_nil)]; rfl)
  · obtain ⟨a, b, rfl, hab⟩ := hp.bd p (List.mem_of_getElem? hk)
    obtain ⟨ha, hb⟩ := hO.lo a b hab
    rw [Nat.zero_add] at hL ⊢
    refine .of_eq (hg a b L _ ha hb hL) ?_
    obtain ⟨hk1, hk2⟩ := List.getElem?_eq_some_iff.mp hk
    have ht : ps.take (k + 1) = ps.take k ++ [((a : Int), (b : Int))] := by
      rw [List.take_succ, hk]
      rfl
    have hno : ((a : Int), (b : Int)) ∉ ps.take k := fun hm => by
      obtain ⟨j, hj, ej⟩ := List.mem_iff_getElem.mp hm
      rw [List.length_take] at hj
      rw [List.getElem_take] at ej
      have := (List.pairwise_iff_getElem.mp hp.nd) j k (by omega) hk1 (by omega)
      rw [hk2, ej] at this
      exact this rfl
    refine (hL.set hb).2.congr fun y hy => ?_
    rw [ht]
    by_cases ey : y = b
    · subst ey
      rw [if_pos rfl, ← S_one (c := e a) ha, ← S_add]
      refine S_congr fun x _ => ?_
      by_cases ex : x = a
      · subst ex
        rw [if_pos rfl, decide_eq_false hno, decide_eq_true (List.mem_append.mpr (.inr (List.mem_singleton.mpr rfl)))]
        show 0 + e x = e x
        omega
      · rw [if_neg ex, Int.add_zero]
        congr 1
        refine decide_eq_decide.mpr ?_
        rw [List.mem_append, List.mem_singleton]
        constructor
        · exact .inl
        · rintro (q | q)
          · exact q
          · have := (Prod.mk.inj q).1
            omega
    · rw [if_neg ey]
      refine S_congr fun x _ => ?_
      congr 1
      refine decide_eq_decide.mpr ?_
      rw [List.mem_append, List.mem_singleton]
      constructor
      · exact .inl
      · rintro (q | q)
        · exact q
        · have := (Prod.mk.inj q).2
          omega
  · rw [Nat.zero_add, List.take_length]
    congr 1
    cases e : r x y with
    | true => exact decide_eq_true (hp.mem x y e)
    | false =>
      refine decide_eq_false fun hm => ?_
      obtain ⟨a, b, q, hab⟩ := hp.bd _ hm
      have h1 := (Prod.mk.inj q).1
      have h2 := (Prod.mk.inj q).2
      have : x = a := by omega
      have : y = b := by omega
      subst x y
      rw [e] at hab
      cases hab
end K59
set_option maxHeartbeats 1000000
namespace K59
open PySem PySem.Spec L2 CC
open PyProof.Rows hiding St
theorem E_dead {n : Nat} {r : Nat → Nat → Bool} {k : Nat} (h : S n (E n r k) = 0) : ∀ {i : Nat}, k ≤ i → S n (E n r i) = 0 := by
  have h0 : ∀ x, x < n → E n r k x = 0 := fun x hx => by
    by_cases e : E n r k x = 0
    · exact e
    · have := S_lt (n := n) (f := fun _ => 0) (g := E n r k) (fun y _ => E_pos) hx (by have := E_pos (n := n) (r := r) (k := k) (x := x); omega)
      rw [S_zero, h] at this
      omega
  have h1 : ∀ {j x : Nat}, x < n → E n r (k + j) x = 0 := by
    intro j
    induction j with
    | zero => intro x hx; exact h0 x hx
    | succ j ih =>
      intro x _
      refine (S_congr (g := fun _ => 0) fun y hy => ?_).trans S_zero
      have := ih hy
      show wh (r y x) (E n r (k + j) y) = 0
      rw [this]
      cases r y x <;> rfl
  intro i hi
  refine (S_congr (g := fun _ => 0) fun y hy => ?_).trans S_zero
  have := h1 (j := i - k) hy
  rwa [show k + (i - k) = i by omega] at this
theorem counts_ok {n : Nat} {r : Nat → Nat → Bool} {ps : List (Int × Int)} (hn : n ≤ 1000) (hO : Or n r) (hp : Pr n r ps) : Ok (M_chain_counts (((n : Int), ps), ())) fun l => ∃ k, k ≤ n ∧ l = (List.range k).map (fun i => S n (E n r i)) ∧ S n (E n r k) = 0 := by
  unfold M_chain_counts
  simp only [bassoc, sb, bind_id]
  rw [show repM [(1 : Int)] (n : Int) = some (List.replicate n 1) from repM_one (by omega), sb]
  refine .bind (whileF_ok (P := fun s : List Int × List Int => ∃ k, k ≤ n ∧ s.1 = (List.range k).map (fun i => S n (E n r i)) ∧ S n (E n r k) = 0) (fun s : List Int × List Int => ∃ k, k ≤ n ∧ s.1 = (List.range k).map (fun i => S n (E n r i)) ∧ Vec n s.2 (E n r k)) (fun s => n + 1 - s.1.length) (fun s ⟨k, hk, h1, h2⟩ => ?_) ⟨0, Nat.zero_le _, rfl, Vec.rep⟩ ?_) fun s hs => .one hs
  · rw [h2.sum]
    refine .one ⟨fun hb => ?_, fun hb => ⟨k, hk, h1, ?_⟩⟩
    · have hb := of_decide_eq_true hb
      have hkn : k < n := by
        by_cases q : k < n
        · exact q
        · have : S n (E n r k) = 0 := (S_congr (g := fun _ => 0) fun x hx => E_zero hO (by have := cn_top hO hx; omega)).trans S_zero
          omega
      have hl : s.1.length = k := by rw [h1, List.length_map, List.length_range]
      rw [appM_eq (by omega), sb, show repM [(0 : Int)] (n : Int) = some (List.replicate n 0) from repM_one (by omega), sb]
      refine .bind (longer_ok (e := E n r k) hO hp fun a b L f ha hb hL => ?_) fun L hL => .one ⟨⟨k + 1, hkn, ?_, hL⟩, ?_⟩
      · simp only [hL.look b hb, h2.look a ha, sb, (hL.set hb).1]
      · show s.1 ++ [_] = _
        rw [h1, List.range_succ, List.map_append]
        rfl
      · show n + 1 - (s.1 ++ [_]).length < n + 1 - s.1.length
        rw [List.length_append, List.length_singleton]
        omega
    · have hb := of_decide_eq_false hb
      have := S_pos (n := n) (f := E n r k) fun x _ => E_pos
      omega
  · show n + 1 - 0 < _
    omega
def altL : List Int → Int
  | [] => 0
  | x :: l => x - altL l
theorem ev_cons (x : Int) : ∀ (l : List Int), (evL (x :: l)).sum = x + (evL (l.drop 1)).sum
  | [] => rfl
  | _ :: _ => rfl
theorem ev_alt : ∀ {l : List Int}, (evL l).sum - (evL (l.drop 1)).sum = altL l
  | [] => rfl
  | x :: l => by
    have := ev_alt (l := l)
    show (evL (x :: l)).sum - (evL l).sum = x - altL l
    rw [ev_cons]
    omega
theorem altL_map : ∀ {k : Nat} {c : Nat → Int}, altL ((List.range k).map c) = alt k c
  | 0, _ => rfl
  | k + 1, c => by
    rw [List.range_succ_eq_map, List.map_cons, List.map_map]
    show c 0 - altL ((List.range k).map (c ∘ Nat.succ)) = c 0 - alt k fun i => c (i + 1)
    rw [altL_map]
    rfl
theorem euler_ok {n : Nat} {r : Nat → Nat → Bool} {ps : List (Int × Int)} (hn : n ≤ 1000) (hO : Or n r) (hp : Pr n r ps) : M_euler (((n : Int), ps), ()) = some (S n (sg n r)) := by
  unfold M_euler
  refine Ok.eq_some (.bind (counts_ok hn hO hp) fun l ⟨k, hk, hl, hd⟩ => .one ?_)
  rw [hl, ev_alt, altL_map]
  have e := alt_more (k := k) (f := fun i => S n (E n r i)) (n - k) fun i hi => E_dead hd hi
  rw [← e, show k + (n - k) = n by omega]
  exact alt_S
end K59
set_option maxHeartbeats 1000000
namespace K59
open PySem PySem.Spec L2 CC
open PyProof.Rows hiding St
/-- the place of a number in a row -/
def pl (row : List Int) (x : Nat) : Nat := row.idxOf (x : Int)
theorem ren_of {n : Nat} {row : List Int} (h : row.Perm (rl n)) : Ren n (rwv row) (pl row) := by
  have nd : row.Nodup := h.nodup_iff.mpr (rl_nodup n)
  have hl : row.length = n := by rw [h.length_eq, rl_len]
  have at1 : ∀ x, x < n → ∃ hx : x < row.length, row[x] = (rwv row x : Int) ∧ rwv row x < n := fun x hx => by
    obtain ⟨a1, a2⟩ := (Rw.perm h).at hx
    have hx' : x < row.length := by omega
    rw [atI_nat hx'] at a1
    exact ⟨hx', Option.some.inj a1, a2⟩
  have at2 : ∀ y, y < n → pl row y < n ∧ rwv row (pl row y) = y := fun y hy => by
    have hm : (y : Int) ∈ row := h.mem_iff.mpr (rl_mem.mpr ⟨y, hy, rfl⟩)
    have h1 : pl row y < row.length := List.idxOf_lt_length_iff.mpr hm
    obtain ⟨_, e, _⟩ := at1 (pl row y) (by omega)
    have e2 : row[pl row y] = (y : Int) := List.getElem_idxOf h1
    rw [e2] at e
    exact ⟨by omega, by omega⟩
  refine ⟨fun x hx => (at1 x hx).2.2, fun y hy => (at2 y hy).1, fun y hy => (at2 y hy).2, fun x hx => ?_⟩
  obtain ⟨hx', e, _⟩ := at1 x hx
  unfold pl
  rw [← e]
  exact nd.idxOf_getElem x hx'
/-- a table of a strict order -/
structure Tb (n : Nat) (t : List (List Bool)) (r : Nat → Nat → Bool) : Prop where
  sq : Sq n t
  gt : ∀ x y, x < n → y < n → gt t x y = r x y
  po : Or n r
theorem Tb.look {n : Nat} {t : List (List Bool)} {r : Nat → Nat → Bool} (h : Tb n t r) {x : Nat} (hx : x < n) : ∃ row, atI t (x : Int) = some row ∧ row.length = n ∧ ∀ y : Nat, y < n → atI row (y : Int) = some (r x y) := by
  obtain ⟨q, q1, q0, q2⟩ := h.sq.look hx
  exact ⟨q, q1, q0, fun y hy => by rw [q2 y hy, h.gt x y hx hy]⟩
/-- the order in other numbers -/
def rn (n : Nat) (r : Nat → Nat → Bool) (row : List Int) (a b : Nat) : Bool := decide (a < n ∧ b < n) && r (pl row a) (pl row b)
theorem rn_or {n : Nat} {r : Nat → Nat → Bool} {row : List Int} (h : Or n r) : Or n (rn n r row) := by
  refine ⟨fun x y e => of_decide_eq_true (Bool.and_eq_true_iff.mp e).1, fun x y z a b => ?_, fun x => ?_⟩
  · obtain ⟨a1, a2⟩ := Bool.and_eq_true_iff.mp a
    obtain ⟨b1, b2⟩ := Bool.and_eq_true_iff.mp b
    have a1 := of_decide_eq_true a1
    have b1 := of_decide_eq_true b1
    exact Bool.and_eq_true_iff.mpr ⟨decide_eq_true ⟨a1.1, b1.2⟩, h.tr _ _ _ a2 b2⟩
  · unfold rn
    rw [h.ir, Bool.and_false]
theorem rn_eq {n : Nat} {r : Nat → Nat → Bool} {row : List Int} (h : row.Perm (rl n)) {x y : Nat} (hx : x < n) (hy : y < n) : rn n r row (rwv row x) (rwv row y) = r x y := by
  have R := ren_of h
  unfold rn
  rw [decide_eq_true ⟨R.lt x hx, R.lt y hy⟩, R.ts x hx, R.ts y hy, Bool.true_and]
/-- the pairs of a row of the table -/
def prF (n : Nat) (r : Nat → Nat → Bool) (row : List Int) (x : Int) : List (Int × Int) := ((rl n).filter fun y => r x.toNat y.toNat).map fun y => ((rwv row x.toNat : Int), (rwv row y.toNat : Int))
theorem prF_len {n : Nat} {r : Nat → Nat → Bool} {row : List Int} {x : Int} : (prF n r row x).length ≤ n := by
  unfold prF
  rw [List.length_map]
  refine Nat.le_trans (List.length_filter_le _ _) ?_
  rw [rl_len]
  exact Nat.le_refl _
theorem flat_len' {α β : Type} {f : α → List β} {c : Nat} : ∀ {l : List α}, (∀ x ∈ l, (f x).length ≤ c) → (l.flatMap f).length ≤ l.length * c
  | [], _ => Nat.zero_le _
  | a :: l, h => by
    have := flat_len' (f := f) (c := c) (l := l) fun x hx => h x (List.mem_cons_of_mem _ hx)
    have := h a List.mem_cons_self
    rw [List.flatMap_cons, List.length_append, List.length_cons, Nat.succ_mul]
    omega
theorem rl_asc (n : Nat) : (rl n).Pairwise fun x y => x < y := by
  unfold rl
  rw [List.pairwise_map]
  exact List.pairwise_lt_range.imp fun h => by omega
theorem pr_of {n : Nat} {r : Nat → Nat → Bool} {row : List Int} (h : row.Perm (rl n)) (hO : Or n r) {ps : List (Int × Int)} (hp : ps.Perm ((rl n).flatMap (prF n r row))) : Pr n (rn n r row) ps := by
  have R := ren_of h
  have inj : ∀ x y, x < n → y < n → rwv row x = rwv row y → x = y := fun x y hx hy e => by rw [← R.ts x hx, ← R.ts y hy, e]
  refine ⟨fun p hm => ?_, fun x y e => ?_, ?_⟩
  · obtain ⟨x, hx, hm⟩ := List.mem_flatMap.mp (hp.mem_iff.mp hm)
    obtain ⟨y, hy, rfl⟩ := List.mem_map.mp hm
    obtain ⟨hy1, hy2⟩ := List.mem_filter.mp hy
    obtain ⟨i, hi, rfl⟩ := rl_mem.mp hx
    obtain ⟨j, hj, rfl⟩ := rl_mem.mp hy1
    exact ⟨_, _, rfl, by rw [Int.toNat_natCast, Int.toNat_natCast, rn_eq h hi hj]; exact hy2⟩
  · obtain ⟨e1, e2⟩ := Bool.and_eq_true_iff.mp e
    obtain ⟨hx, hy⟩ := of_decide_eq_true e1
    refine hp.mem_iff.mpr (List.mem_flatMap.mpr ⟨_, rl_mem.mpr ⟨pl row x, R.lt' x hx, rfl⟩, List.mem_map.mpr ⟨_, List.mem_filter.mpr ⟨rl_mem.mpr ⟨pl row y, R.lt' y hy, rfl⟩, e2⟩, ?_⟩⟩)
    rw [Int.toNat_natCast, Int.toNat_natCast, R.st x hx, R.st y hy]
  · refine hp.nodup_iff.mpr (List.pairwise_flatMap.mpr ⟨fun x _ => ?_, List.Pairwise.imp_of_mem (fun {a b} ha hb hab p hp q hq e => ?_) (rl_asc n)⟩)
    · unfold prF
      rw [List.pairwise_map]
      refine List.Pairwise.imp_of_mem (fun {a b} ha hb hab e => ?_) ((rl_asc n).filter _)
      obtain ⟨i, hi, rfl⟩ := rl_mem.mp (List.mem_filter.mp ha).1
      obtain ⟨j, hj, rfl⟩ := rl_mem.mp (List.mem_filter.mp hb).1
      have e2 := (Prod.mk.inj e).2
      rw [Int.toNat_natCast, Int.toNat_natCast] at e2
      have := inj i j hi hj (by omega)
      omega
    · obtain ⟨i, hi, rfl⟩ := rl_mem.mp ha
      obtain ⟨j, hj, rfl⟩ := rl_mem.mp hb
      obtain ⟨y, _, rfl⟩ := List.mem_map.mp hp
      obtain ⟨z, _, rfl⟩ := List.mem_map.mp hq
      have e1 := (Prod.mk.inj e).1
      rw [Int.toNat_natCast, Int.toNat_natCast] at e1
      have := inj i j hi hj (by omega)
      omega
theorem told_ok {n : Nat} {t : List (List Bool)} {r : Nat → Nat → Bool} {row : List Int} (hn : n ≤ 64) (h : Tb n t r) (hr : row.Perm (rl n)) : Ok (M_law_told (t, row, ())) fun w => w.1 = (n : Int) ∧ Pr n (rn n r row) w.2 := by
  unfold M_law_told
  simp only [bassoc, sb, bind_id, h.sq.len, rng_nat (n := n) (show n ≤ 1000000 by omega)]
  refine .bind (foldR_ok (fun k (s : List (Int × Int)) => s = (rl k).flatMap (prF n r row)) rfl fun k s hk hs => ?_) fun ps hps => .one ⟨rfl, pr_of hr h.po (hps ▸ isort_perm leP ps)⟩
  obtain ⟨q, q1, _, q2⟩ := h.look hk
  obtain ⟨a1, _⟩ := (Rw.perm hr).at hk
  rw [compM_eq (p := fun y => r k y.toNat) (g := fun y => ((rwv row k : Int), (rwv row y.toNat : Int))) (by rw [rl_len]; omega) (fun y hy => by
    obtain ⟨j, hj, rfl⟩ := rl_mem.mp hy
    rw [q1, sb, q2 j hj, Int.toNat_natCast]) fun y hy _ => by
    obtain ⟨j, hj, rfl⟩ := rl_mem.mp hy
    simp only [a1, ((Rw.perm hr).at hj).1, sb, Int.toNat_natCast], sb]
  have hl := flat_len' (f := prF n r row) (c := n) (l := rl k) fun x _ => prF_len
  have hl2 := prF_len (n := n) (r := r) (row := row) (x := (k : Int))
  rw [rl_len] at hl
  have hkn : k * n ≤ 64 * 64 := Nat.mul_le_mul (by omega) hn
  unfold prF at hl2
  simp only [Int.toNat_natCast] at hl2
  rw [hs, catM_eq (by omega)]
  refine .one ?_
  rw [rl_succ, List.flatMap_append, List.flatMap_cons, List.flatMap_nil, List.append_nil]
  unfold prF
  simp only [Int.toNat_natCast]
/-- euler of a told order -/
theorem euler_told {n : Nat} {t : List (List Bool)} {r : Nat → Nat → Bool} {row : List Int} (hn : n ≤ 64) (h : Tb n t r) (hr : row.Perm (rl n)) : Ok (M_law_told (t, row, ())) fun w => M_euler (w, ()) = some (S n (sg n r)) := by
  refine (told_ok hn h hr).mono fun w ⟨w1, w2⟩ => ?_
  have := euler_ok (by omega) (rn_or h.po) w2
  rw [← w1] at this
  rw [chi_ren (ren_of hr) fun x y hx hy => rn_eq hr hx hy] at this
  exact this
end K59
set_option maxHeartbeats 1000000
namespace K59
open PySem PySem.Spec L2 CC
open PyProof.Rows hiding St
theorem Pr.iff {n : Nat} {r : Nat → Nat → Bool} {ps : List (Int × Int)} (hp : Pr n r ps) (x y : Nat) : decide (((x : Int), (y : Int)) ∈ ps) = r x y := by
  cases e : r x y with
  | true => exact decide_eq_true (hp.mem x y e)
  | false =>
    refine decide_eq_false fun hm => ?_
    obtain ⟨a, b, q, hab⟩ := hp.bd _ hm
    have h1 := (Prod.mk.inj q).1
    have h2 := (Prod.mk.inj q).2
    have : x = a := by omega
    have : y = b := by omega
    subst x y
    rw [e] at hab
    cases hab
/-! ### a dict told in numbers -/
theorem get_putR {k j x : Int} : ∀ {s : List (Int × Int)}, (getM s k).isSome = true → getM (putR s k x) j = if j = k then some x else getM s j
  | [], h => by cases h
  | q :: s, h => by
    unfold getM putR
    unfold getM at h
    by_cases e : q.1 = k
    · rw [if_pos e]
      by_cases ej : j = k
      · subst ej
        rw [if_pos rfl]
        show (if q.1 = j then some x else _) = _
        rw [if_pos e]
      · rw [if_neg ej]
        show (if q.1 = j then some x else getM (putR s k x) j) = _
        have : ¬ q.1 = j := fun z => ej (by omega)
        rw [if_neg this, if_neg this]
        rw [if_pos e] at h
        have put_ne : ∀ s : List (Int × Int), getM (putR s k x) j = getM s j := by
          intro s
          induction s with
          | nil => rfl
          | cons p s ih =>
            unfold getM putR
            by_cases z : p.1 = k
            · rw [if_pos z]
              show (if p.1 = j then some x else getM (putR s k x) j) = _
              have : ¬ p.1 = j := fun y => ej (by omega)
              rw [if_neg this, if_neg this, ih]
            · rw [if_neg z]
              show (if p.1 = j then some p.2 else getM (putR s k x) j) = _
              rw [ih]
        exact put_ne s
    · rw [if_neg e] at h ⊢
      show (if q.1 = j then some q.2 else getM (putR s k x) j) = _
      rw [get_putR h]
      by_cases ej : j = k
      · subst ej
        rw [if_neg e, if_pos rfl, if_pos rfl]
      · rw [if_neg ej, if_neg ej]
theorem get_snoc {k j x : Int} : ∀ {s : List (Int × Int)}, getM s k = none → getM (s ++ [(k, x)]) j = if j = k then some x else getM s j
  | [], _ => by
    show (if k = j then some x else none) = _
    by_cases e : j = k
    · rw [if_pos e, if_pos e.symm]
    · rw [if_neg e, if_neg fun z => e z.symm]
      rfl
  | q :: s, h => by
    unfold getM at h
    by_cases e : q.1 = k
    · rw [if_pos e] at h; cases h
    · rw [if_neg e] at h
      show (if q.1 = j then some q.2 else getM (s ++ [(k, x)]) j) = if j = k then some x else if q.1 = j then some q.2 else getM s j
      rw [get_snoc h]
      by_cases ej : j = k
      · subst ej
        rw [if_neg e, if_pos rfl, if_pos rfl]
      · rw [if_neg ej, if_neg ej]
theorem put_get {s : List (Int × Int)} {k x : Int} (h : s.length < 1000000) : ∃ s', putMO s k x = some s' ∧ s'.length ≤ s.length + 1 ∧ ∀ j, getM s' j = if j = k then some x else getM s j := by
  refine ⟨putM s k x, by unfold putMO; rw [if_pos (show s.length < LIM from h)], ?_, fun j => ?_⟩
  · unfold putM
    split
    · have : ∀ s : List (Int × Int), (putR s k x).length = s.length := by
        intro s
        induction s with
        | nil => rfl
        | cons p s ih =>
          unfold putR
          rw [List.length_cons, List.length_cons, ih]
      rw [this]
      omega
    · rw [List.length_append, List.length_singleton]
      omega
  · unfold putM
    cases e : getM s k with
    | none =>
      rw [if_neg (fun z => nomatch z), get_snoc e]
    | some y =>
      show getM (if (some y).isSome = true then putR s k x else s ++ [(k, x)]) j = _
      rw [if_pos (show (some y).isSome = true from rfl), get_putR (by rw [e]; rfl)]
/-- what is less in a sorted row stands ahead -/
theorem srt_before {L : List (Int × Int)} (h : L.Pairwise fun a b => leP a b = true) {k : Nat} {p q : Int × Int} (hk : L[k]? = some p) (hq : q ∈ L) (hl : q.1 < p.1) : ∃ i, i < k ∧ L[i]? = some q := by
  obtain ⟨i, hi⟩ := List.mem_iff_getElem?.mp hq
  obtain ⟨h1, e1⟩ := List.getElem?_eq_some_iff.mp hi
  obtain ⟨h2, e2⟩ := List.getElem?_eq_some_iff.mp hk
  refine ⟨i, ?_, hi⟩
  by_cases z : i < k
  · exact z
  · exfalso
    by_cases y : i = k
    · subst y
      rw [hi] at hk
      have := Option.some.inj hk
      subst this
      omega
    · have := List.pairwise_iff_getElem.mp h k i h2 h1 (by omega)
      rw [e1, e2, leP_iff] at this
      omega
theorem sum_filter {p : Int → Bool} {g : Int → Int} : ∀ {n : Nat}, (((rl n).filter p).map g).sum = S n fun x => wh (p x) (g x)
  | 0 => rfl
  | n + 1 => by
    rw [rl_succ, List.filter_append, List.map_append, List.sum_append, sum_filter]
    show _ + _ = S n _ + wh (p n) (g n)
    congr 1
    rw [List.filter_cons]
    cases e : p n with
    | true =>
      rw [if_pos rfl]
      show g n + 0 = g n
      omega
    | false => rfl
theorem len_filter {p : Int → Bool} : ∀ {n : Nat}, (((rl n).filter p).length : Int) = S n fun x => wh (p x) 1
  | 0 => rfl
  | n + 1 => by
    rw [rl_succ, List.filter_append, List.length_append, Int.natCast_add, len_filter]
    show _ + _ = S n _ + wh (p n) 1
    congr 1
    rw [List.filter_cons]
    cases e : p n with
    | true => rfl
    | false => rfl
end K59
set_option maxHeartbeats 1000000
namespace K59
open PySem PySem.Spec L2 CC
open PyProof.Rows hiding St
/-- a loop that may end early -/
theorem loopX_ok {α τ ρ : Type} {f : α → τ → Option (Out τ ρ)} (Inv : τ → Prop) (R : ρ → Prop) : ∀ {xs : List α} {s : τ}, Inv s → (∀ x ∈ xs, ∀ s, Inv s → Ok (f x s) fun o => (∃ s', (o = .nx s' ∨ o = .ct s' ∨ o = .bk s') ∧ Inv s') ∨ ∃ r, o = .rt r ∧ R r) → Ok (loopGo f xs s) fun o => (∃ s', o = .nx s' ∧ Inv s') ∨ ∃ r, o = .rt r ∧ R r
  | [], s, h, _ => .one (.inl ⟨s, rfl, h⟩)
  | x :: xs, s, h, hs => by
    refine .bind (hs x List.mem_cons_self s h) fun o ho => ?_
    rcases ho with ⟨s', rfl | rfl | rfl, h'⟩ | ⟨r, rfl, hr⟩
    · exact loopX_ok Inv R h' fun y hy => hs y (List.mem_cons_of_mem _ hy)
    · exact loopX_ok Inv R h' fun y hy => hs y (List.mem_cons_of_mem _ hy)
    · exact .one (.inl ⟨s', rfl, h'⟩)
    · exact .one (.inr ⟨r, rfl, hr⟩)
abbrev Rd := (List Int) × Int × Int × Int × Int × Int
def RI (s : Rd) : Prop := 0 ≤ s.2.1
theorem load_ok {s : Rd} (h : RI s) (h2 : s.2.1 < s.1.length) : Ok (M_law_load () s) fun r => RI r.2 := by
  have h : 0 ≤ s.2.1 := h
  unfold M_law_load N_law_load
  simp only [bassoc, sb]
  refine .bind (atI_mem h h2) fun c _ => ?_
  have a0 : 0 ≤ absI c := by unfold absI; omega
  simp (disch := omega) only [bassoc, sb, modO_eq, divO_eq, mulO_r, bif_bind]
  refine .bif (fun _ => .one ?_) fun _ => .one ?_
  all_goals show (0 : Int) ≤ s.2.1 + 1; omega
theorem draw_ok {m : Int} {s : Rd} (hm : 0 < m) (h2 : m < 1073741824) (h : RI s) : Ok (M_law_draw (m, ()) s) fun r => (0 ≤ r.1 ∧ r.1 < m) ∧ RI r.2 := by
  unfold M_law_draw
  refine .bif (fun e => .one ⟨⟨Int.le_refl _, hm⟩, h⟩) fun _ => ?_
  rw [show rng 0 (64 : Int) = some (rl 64) from rng_nat (n := 64) (by decide), sb]
  refine .bind (loopX_ok RI (fun r : Int × Rd => (0 ≤ r.1 ∧ r.1 < m) ∧ RI r.2) h fun x _ s hs => ?_) fun o ho => ?_
  · refine Ok.bind (P := fun _ => True) (.bif (fun _ => .one trivial) fun _ => .one trivial) fun b _ => .bif (fun _ => ?_) fun _ => ?_
    · rw [modO_eq hm, sb, divO_eq hm h2, sb, sb]
      exact .one (.inr ⟨_, rfl, ⟨mod_lo _ hm, mod_hi _ hm⟩, hs⟩)
    · refine Ok.bind (P := fun b => b = false → s.2.1 < s.1.length) (.bif (fun _ => .one fun q => nomatch q) fun _ => .one fun q => by have := of_decide_eq_false q; omega) fun b hb => .bif (fun _ => .one (.inl ⟨s, .inr (.inr rfl), hs⟩)) fun e => ?_
      rw [bassoc]
      exact .bind (load_ok hs (hb e)) fun r hr => .one (.inl ⟨r.2, .inl rfl, hr⟩)
  · rcases ho with ⟨s', rfl, hs⟩ | ⟨r, rfl, hr⟩
    · show Ok (Option.bind _ _) _
      refine Ok.bind (P := RI) (.bif (fun _ => .one hs) fun _ => .one hs) fun a ha => ?_
      simp (disch := omega) only [bassoc, sb, modO_eq, divO_eq, mulO_r]
      exact .one ⟨⟨mod_lo _ hm, mod_hi _ hm⟩, ha⟩
    · exact .one hr
theorem draw_nat {m : Nat} {s : Rd} (hm : 0 < m) (h2 : m < 1073741824) (h : RI s) : Ok (M_law_draw ((m : Int), ()) s) fun r => (∃ k : Nat, r.1 = (k : Int) ∧ k < m) ∧ RI r.2 :=
  (draw_ok (by omega) (by omega) h).mono fun r hr => ⟨⟨r.1.toNat, by omega, by omega⟩, hr.2⟩
theorem tape_ok (ns : List Int) : Ok (M_law_tape (ns, ())) RI := by
  unfold M_law_tape
  refine .bind (P := fun _ => True) (fold_ok (fun _ _ => True) trivial fun pre x s _ _ => ?_) fun z _ => .one (by show (0 : Int) ≤ 0; omega)
  simp (disch := omega) only [bassoc, sb, modO_eq, mulO_r]
  exact .one trivial
theorem shuffled_ok {n : Nat} {s : Rd} (hn : n ≤ 1000) (h : RI s) : Ok (M_law_shuffled ((n : Int), ()) s) fun r => r.1.Perm (rl n) ∧ RI r.2 := by
  have hr := rng_nat (n := n) (show n ≤ 1000000 by omega)
  unfold M_law_shuffled
  simp only [bassoc, sb, bind_id, hr, rl_len]
  have key : ∀ (k : Nat) (xs : List Int) (l : List Int) (s : Rd), xs.length = k → l.length = k → k ≤ 1000 → RI s → Ok (mapGoE (fun _ (s : List Int × Rd) => (M_law_draw ((s.1.length : Int), ()) s.2).bind fun r => (popAt s.1 r.1).bind fun q => some (q.1, (q.2, r.2))) xs (l, s)) fun r => r.1.Perm l ∧ RI r.2.2 := by
    intro k
    induction k with
    | zero =>
      intro xs l s h1 h2 _ hs
      rw [List.eq_nil_of_length_eq_zero h1, List.eq_nil_of_length_eq_zero h2]
      exact .one ⟨.refl _, hs⟩
    | succ k ih =>
      intro xs l s h1 h2 hk hs
      cases xs with
      | nil => cases h1
      | cons x xs =>
        unfold mapGoE
        simp only [bassoc, sb]
        refine .bind (draw_ok (by omega) (by omega) hs) fun r hr => ?_
        refine .bind (popAt_ok hr.1.1 hr.1.2 (by omega)) fun q hq => ?_
        refine .bind (ih xs q.2 r.2 (by rw [List.length_cons] at h1; omega) (by omega) (by omega) hr.2) fun w hw => .one ⟨?_, hw.2⟩
        exact (List.Perm.cons _ hw.1).trans hq.1.symm
  unfold mapME
  rw [if_pos (show (rl n).length ≤ LIM by rw [rl_len]; show n ≤ 1000000; omega)]
  exact .bind (key n (rl n) (rl n) s (rl_len n) (rl_len n) hn h) fun q hq => .one hq
/-! ### tables -/
structure T2 (n : Nat) (t : List (List Bool)) (r : Nat → Nat → Bool) : Prop where
  sq : Sq n t
  gt : ∀ x y, x < n → y < n → gt t x y = r x y
theorem T2.congr {n : Nat} {t : List (List Bool)} {r r' : Nat → Nat → Bool} (h : T2 n t r) (e : ∀ x y, x < n → y < n → r x y = r' x y) : T2 n t r' := ⟨h.sq, fun x y hx hy => by rw [h.gt x y hx hy, e x y hx hy]⟩
theorem T2.look {n : Nat} {t : List (List Bool)} {r : Nat → Nat → Bool} (h : T2 n t r) {x : Nat} (hx : x < n) : ∃ row, atI t (x : Int) = some row ∧ row.length = n ∧ ∀ y : Nat, y < n → atI row (y : Int) = some (r x y) := by
  obtain ⟨q, q1, q0, q2⟩ := h.sq.look hx
  exact ⟨q, q1, q0, fun y hy => by rw [q2 y hy, h.gt x y hx hy]⟩
theorem gt_of {t : List (List Bool)} {x y : Nat} {row : List Bool} {b : Bool} (h1 : t[x]? = some row) (h2 : row[y]? = some b) : gt t x y = b := by
  unfold CC.gt
  rw [h1]
  show (row[y]?).getD false = b
  rw [h2]
  rfl
theorem T2.mk' {n : Nat} {t : List (List Bool)} {r : Nat → Nat → Bool} (hl : t.length = n) (h : ∀ x row, t[x]? = some row → row.length = n ∧ ∀ y, y < n → row[y]? = some (r x y)) : T2 n t r := by
  refine ⟨⟨hl, fun row hr => ?_⟩, fun x y hx hy => ?_⟩
  · obtain ⟨x, hx⟩ := List.mem_iff_getElem?.mp hr
    exact (h x row hx).1
  · have hx' : x < t.length := by omega
    exact gt_of (List.getElem?_eq_getElem hx') ((h x _ (List.getElem?_eq_getElem hx')).2 y hy)
theorem T2.setRow {n : Nat} {t : List (List Bool)} {r : Nat → Nat → Bool} (h : T2 n t r) {x : Nat} (hx : x < n) {f : Nat → Bool} {row : List Bool} (hl : row.length = n) (hr : ∀ y, y < n → row[y]? = some (f y)) : setAt t (x : Int) row = some (t.set x row) ∧ T2 n (t.set x row) fun a b => if a = x then f b else r a b := by
  obtain ⟨s1, s2⟩ := h.sq.setRow hx hl
  refine ⟨s1, s2, fun a b ha hb => ?_⟩
  have hx' : x < t.length := by rw [h.sq.len]; exact hx
  by_cases e : a = x
  · subst e
    rw [if_pos rfl]
    exact gt_of (List.getElem?_set_self hx') (hr b hb)
  · rw [if_neg e, ← h.gt a b ha hb]
    unfold CC.gt
    rw [List.getElem?_set_ne (fun q => e q.symm)]
theorem T2.new {n : Nat} (hn : n ≤ 1000000) : Ok (mapM (fun _ : Int => repM [false] (n : Int)) (rl n)) fun t => T2 n t fun _ _ => false := by
  rw [mapM_is (g := fun _ => List.replicate n false) (by rw [rl_len]; exact hn) fun x _ => repM_one hn]
  refine .one (T2.mk' (by rw [List.length_map, rl_len]) fun x row hx => ?_)
  rw [List.getElem?_map] at hx
  have e : row = List.replicate n false := by
    cases q : (rl n)[x]? with
    | none => rw [q] at hx; cases hx
    | some z => rw [q] at hx; exact (Option.some.inj hx).symm
  subst e
  exact ⟨List.length_replicate, fun y hy => by rw [List.getElem?_replicate, if_pos hy]⟩
/-- links that go up -/
def Up (n : Nat) (p : Int × Int) : Prop := ∃ x y : Nat, p = ((x : Int), (y : Int)) ∧ x < y ∧ y < n
theorem closed_ok {n : Nat} {ls : List (Int × Int)} (hn : n ≤ 1000) (hl : ∀ p ∈ ls, Up n p) : Ok (M_law_closed ((n : Int), ls, ())) fun t => ∃ r, Tb n t r ∧ ∀ x y, r x y = true → x < y := by
  unfold M_law_closed
  simp only [bassoc, sb, bind_id, rng_nat (n := n) (show n ≤ 1000000 by omega)]
  refine .bind (T2.new (by omega)) fun t ht => ?_
  refine .bind (P := fun t => ∃ r, T2 n t r ∧ ∀ x y, r x y = true → x < y) ?_ fun t ht => ?_
  · refine fold_ok (fun _ t => ∃ r, T2 n t r ∧ ∀ x y, r x y = true → x < y) ⟨_, ht, fun x y e => nomatch e⟩ fun pre p s hp hs => ?_
    obtain ⟨r, h1, h2⟩ := hs
    obtain ⟨x, y, rfl, hxy, hy⟩ := hl p hp
    have hx : x < n := by omega
    obtain ⟨row, q1, q2⟩ := h1.sq.rowk hx
    rw [ixN_nat (by rw [h1.sq.len]; exact hx), sb, q1, sb, setAt_nat (by rw [q2]; exact hy), sb]
    obtain ⟨row', u1, u0, u2⟩ := h1.look hx
    have er : row' = row := by
      rw [atI_nat? q1] at u1
      exact (Option.some.inj u1).symm
    subst er
    obtain ⟨_, s2⟩ := h1.setRow (x := x) hx (row := row'.set y true) (f := fun b => if b = y then true else r x b) (by rw [List.length_set]; exact q2) fun b hb => by
      by_cases e : b = y
      · subst e
        rw [if_pos rfl, List.getElem?_set_self (by rw [u0]; exact hb)]
      · rw [if_neg e, List.getElem?_set_ne (fun q => e q.symm)]
        have := u2 b hb
        rw [atI_nat (xs := row') (k := b) (by omega)] at this
        rw [List.getElem?_eq_getElem (by omega)]
        exact this
    refine .one ⟨_, s2, fun a b e => ?_⟩
    by_cases ea : a = x
    · rw [if_pos ea] at e
      by_cases eb : b = y
      · omega
      · rw [if_neg eb] at e
        rw [ea]
        exact h2 x b e
    · rw [if_neg ea] at e
      exact h2 a b e
  · obtain ⟨r, h1, h2⟩ := ht
    refine (foldR_ok (fun k t => ∃ r, T2 n t r ∧ (∀ x y, r x y = true → x < y) ∧ ∀ z, z < k → ∀ x y, x < n → y < n → r x z = true → r z y = true → r x y = true) ⟨r, h1, h2, fun z hz => absurd hz (Nat.not_lt_zero _)⟩ fun z s hz hs => ?_).mono fun t ht => ?_
    · obtain ⟨r, h1, h2, h3⟩ := hs
      have hzz : r z z = false := by
        cases e : r z z with
        | false => rfl
        | true => have := h2 z z e; omega
      refine (foldR_ok (fun k t => T2 n t fun x y => r x y || (decide (x < k) && (r x z && r z y))) (h1.congr fun x y _ _ => by simp) fun x s hx hs => ?_).mono fun t ht => ?_
      · obtain ⟨row, q1, q0, q2⟩ := hs.look hx
        obtain ⟨roz, u1, u0, u2⟩ := hs.look hz
        have cur : ∀ y, (r x y || (decide (x < x) && (r x z && r z y))) = r x y := fun y => by simp
        have curz : ∀ y, (r z y || (decide (z < x) && (r z z && r z y))) = r z y := fun y => by rw [hzz]; simp
        simp only [q1, u1, sb, q2 z hz, cur]
        refine .bif (fun exz => ?_) fun exz => .one (hs.congr fun a b ha hb => ?_)
        · rw [mapM_is (g := fun y => r x y.toNat || r z y.toNat) (by rw [rl_len]; omega) fun y hy => by
            obtain ⟨j, hj, rfl⟩ := rl_mem.mp hy
            rw [q2 j hj, sb, u2 j hj, cur, curz, Int.toNat_natCast]
            cases r x j <;> rfl, sb]
          obtain ⟨s1, s2⟩ := hs.setRow (x := x) hx (row := (rl n).map fun y => r x y.toNat || r z y.toNat) (f := fun y => r x y || r z y) (by rw [List.length_map, rl_len]) fun y hy => by
            rw [List.getElem?_map, rl_get hy]
            show some (r x (y : Int).toNat || r z (y : Int).toNat) = _
            rw [Int.toNat_natCast]
          refine .of_eq s1 (s2.congr fun a b ha hb => ?_)
          by_cases e : a = x
          · subst e
            rw [if_pos rfl, exz, Bool.true_and, decide_eq_true (Nat.lt_succ_self _), Bool.true_and]
          · rw [if_neg e]
            congr 2
            exact decide_eq_decide.mpr (by omega)
        · by_cases e : a = x
          · subst e
            rw [exz]
            simp
          · congr 2
            exact decide_eq_decide.mpr (by omega)
      · refine ⟨fun x y => r x y || (r x z && r z y), ht.congr fun x y hx hy => by rw [decide_eq_true hx, Bool.true_and], fun x y e => ?_, fun w hw x y hx hy e1 e2 => ?_⟩
        · simp only [Bool.or_eq_true, Bool.and_eq_true] at e
          rcases e with e | ⟨e1, e2⟩
          · exact h2 x y e
          · have := h2 _ _ e1
            have := h2 _ _ e2
            omega
        · simp only [Bool.or_eq_true, Bool.and_eq_true] at e1 e2 ⊢
          by_cases ew : w = z
          · subst ew
            rw [hzz] at e1 e2
            have g1 : r x w = true := by
              rcases e1 with e1 | e1
              · exact e1
              · cases e1.2
            have g2 : r w y = true := by
              rcases e2 with e2 | e2
              · exact e2
              · cases e2.1
            exact .inr ⟨g1, g2⟩
          · have hw : w < z := by omega
            have hwn : w < n := by omega
            rcases e1 with e1 | ⟨e1, f1⟩ <;> rcases e2 with e2 | ⟨e2, f2⟩
            · exact .inl (h3 w hw x y hx hy e1 e2)
            · exact .inr ⟨h3 w hw x z hx hz e1 e2, f2⟩
            · exact .inr ⟨e1, h3 w hw z y hz hy f1 e2⟩
            · exact .inr ⟨e1, f2⟩
    · obtain ⟨r, h1, h2, h3⟩ := ht
      refine ⟨fun x y => decide (x < n ∧ y < n) && r x y, ⟨h1.sq, fun x y hx hy => by rw [h1.gt x y hx hy, decide_eq_true ⟨hx, hy⟩, Bool.true_and], ⟨fun x y e => of_decide_eq_true (Bool.and_eq_true_iff.mp e).1, fun x y z a b => ?_, fun x => ?_⟩⟩, fun x y e => h2 x y (Bool.and_eq_true_iff.mp e).2⟩
      · obtain ⟨a1, a2⟩ := Bool.and_eq_true_iff.mp a
        obtain ⟨b1, b2⟩ := Bool.and_eq_true_iff.mp b
        have a1 := of_decide_eq_true a1
        have b1 := of_decide_eq_true b1
        exact Bool.and_eq_true_iff.mpr ⟨decide_eq_true ⟨a1.1, b1.2⟩, h3 y a1.2 x z a1.1 b1.2 a2 b2⟩
      · show (decide (x < n ∧ x < n) && r x x) = false
        cases e : r x x with
        | false => rw [Bool.and_false]
        | true => have := h2 x x e; omega
end K59
set_option maxHeartbeats 1000000
namespace K59
open PySem PySem.Spec L2 CC
open PyProof.Rows hiding St
theorem emod_nat {z : Int} {m : Nat} (hm : 0 < m) : ∃ k : Nat, z % (m : Int) = (k : Int) ∧ k < m := by
  have h1 := Int.emod_nonneg z (b := (m : Int)) (by omega)
  have h2 := Int.emod_lt_of_pos z (b := (m : Int)) (by omega)
  exact ⟨(z % (m : Int)).toNat, by omega, by omega⟩
theorem drawn_ok {s : Rd} (h : RI s) : Ok (M_law_drawn ((8 : Int), ()) s) fun w => (∃ n r, n ≤ 8 ∧ Tb n w.1 r) ∧ RI w.2 := by
  unfold M_law_drawn
  simp only [bassoc, sb, bind_id, bind_eta]
  refine .bind (draw_nat (m := 9) (by omega) (by omega) h) fun q hq => ?_
  obtain ⟨⟨n, en, hn⟩, hs⟩ := hq
  refine .bind (draw_nat (m := 4) (by omega) (by omega) hs) fun w hw => ?_
  obtain ⟨⟨way, ew, hway⟩, hs⟩ := hw
  simp only [en]
  have hr := rng_nat (n := n) (show n ≤ 1000000 by omega)
  refine .bif (fun _ => ?_) fun _ => ?_
  · rw [divO_eq (by omega) (by omega), sb]
    obtain ⟨hf, ehf, hhf⟩ : ∃ k : Nat, (n : Int) / 2 = (k : Int) ∧ 2 * k ≤ n := ⟨n / 2, by omega, by omega⟩
    rw [ehf, rng_nat (show hf ≤ 1000000 by omega), sb]
    refine .bind (foldR_ok (fun k (l : List (Int × Int)) => l.length ≤ 2 * k ∧ ∀ p ∈ l, Up n p) ⟨Nat.le_refl _, by simp⟩ fun k l hk hl => ?_) fun l hl => ?_
    · rw [modO_eq (by omega)]
      obtain ⟨j, ej, hj⟩ := emod_nat (z := (k : Int) + 1) (m := hf) (by omega)
      simp only [sb, ej]
      rw [catM_eq (by simp only [List.length_cons, List.length_nil]; omega)]
      refine .one ⟨by simp only [List.length_append, List.length_cons, List.length_nil]; omega, fun p hp => ?_⟩
      rcases List.mem_append.mp hp with hp | hp
      · exact hl.2 p hp
      · rcases List.mem_cons.mp hp with rfl | hp
        · exact ⟨k, hf + k, by simp only [Int.natCast_add], by omega, by omega⟩
        · rw [List.mem_singleton.mp hp]
          exact ⟨j, hf + k, by simp only [Int.natCast_add], by omega, by omega⟩
    · exact .bind (closed_ok (by omega) hl.2) fun t ⟨r, ht, _⟩ => .one ⟨⟨n, r, by omega, ht⟩, hs⟩
  · refine .bind (draw_nat (m := 4) (by omega) (by omega) hs) fun w hw => ?_
    obtain ⟨⟨ra, era, hra⟩, hs⟩ := hw
    rw [repM_one (by omega), sb]
    refine .bind (P := fun a : Rd × List Int => RI a.1 ∧ a.2.length = n) (.bif (fun _ => ?_) fun _ => .one ⟨hs, List.length_replicate⟩) fun a ha => ?_
    · rw [hr, sb]
      refine .bind (mapRE_ok (fun _ s => RI s) (fun _ _ => True) (by omega) hs fun k s hk hs => ?_) fun q hq => .one ⟨hq.2.2, hq.1⟩
      exact (draw_nat (m := 4) (by omega) (by omega) hs).mono fun r hr => ⟨trivial, hr.2⟩
    · simp only [hr, sb]
      refine .bind (foldR_ok (fun k (s : Rd × List (Int × Int)) => RI s.1 ∧ s.2.length ≤ 20 * k ∧ ∀ p ∈ s.2, Up n p) ⟨ha.1, Nat.le_refl _, by simp⟩ fun k s hk hs => ?_) fun s hs => ?_
      · have e1 : ((k : Int) + 1) = ((k + 1 : Nat) : Int) := by omega
        rw [e1, rng_lo (by omega) (by omega), sb]
        refine (foldRL_ok (fun j (s : Rd × List (Int × Int)) => RI s.1 ∧ s.2.length + 2 * (k + 1) ≤ 20 * k + 2 * j ∧ ∀ p ∈ s.2, Up n p) ⟨hs.1, by omega, hs.2.2⟩ fun j s hj1 hj2 hs => ?_).mono fun s hs => ⟨hs.1, by omega, hs.2.2⟩
        obtain ⟨v1, a1⟩ : ∃ v, atI a.2 (k : Int) = some v := ⟨_, atI_nat (by omega)⟩
        obtain ⟨v2, a2⟩ : ∃ v, atI a.2 (j : Int) = some v := ⟨_, atI_nat (by omega)⟩
        have hup : Up n ((k : Int), (j : Int)) := ⟨k, j, rfl, by omega, by omega⟩
        have app : ∀ (l : List (Int × Int)) (c : Nat), c ≤ 1000 → l.length ≤ c → (∀ p ∈ l, Up n p) → Ok (appM l ((k : Int), (j : Int))) fun l' => l'.length ≤ c + 1 ∧ ∀ p ∈ l', Up n p := fun l c hc h1 h2 => by
          rw [appM_eq (by omega)]
          refine .one ⟨by simp only [List.length_append, List.length_cons, List.length_nil]; omega, fun p hp => ?_⟩
          rcases List.mem_append.mp hp with hp | hp
          · exact h2 p hp
          · rw [List.mem_singleton.mp hp]; exact hup
        refine .bind (P := fun q : Bool × Rd => RI q.2) ?_ fun q hq => ?_
        · refine .bif (fun _ => ?_) fun _ => .one hs.1
          rw [a1, sb, a2, sb]
          refine .bif (fun _ => ?_) fun _ => .one hs.1
          exact .bind (draw_nat (m := 4) (by omega) (by omega) hs.1) fun r hr => .one hr.2
        · refine .bind (P := fun q : Rd × List (Int × Int) => RI q.1 ∧ q.2.length + 2 * (k + 1) ≤ 20 * k + 2 * j + 1 ∧ ∀ p ∈ q.2, Up n p) (.bif (fun _ => ?_) fun _ => .one (by exact ⟨hq, by have := hs.2.1; simp only; omega, hs.2.2⟩)) fun w hw => ?_
          · exact .bind (app s.2 (20 * k + 2 * j - 2 * (k + 1)) (by omega) (by omega) hs.2.2) fun l hl => .one ⟨hq, by have := hl.1; simp only; omega, hl.2⟩
          · refine .bind (P := fun q : Bool × Rd => RI q.2) (.bif (fun _ => ?_) fun _ => .one (by exact hw.1)) fun q hq => ?_
            · exact .bind (draw_ok (by omega) (by omega) hw.1) fun r hr => .one hr.2
            · refine .bif (fun _ => ?_) fun _ => .one ⟨hq, by have := hw.2.1; simp only; omega, hw.2.2⟩
              exact .bind (app w.2 (20 * k + 2 * j + 1 - 2 * (k + 1)) (by omega) (by omega) hw.2.2) fun l hl => .one ⟨hq, by have := hl.1; simp only; omega, hl.2⟩
      · exact .bind (closed_ok (by omega) hs.2.2) fun t ⟨r, ht, _⟩ => .one ⟨⟨n, r, by omega, ht⟩, hs.1⟩
theorem signs_ok {n : Nat} {t : List (List Bool)} {r : Nat → Nat → Bool} (hn : n ≤ 1000) (h : Tb n t r) : Ok (M_law_signs (t, ())) fun l => l.sum = S n (sg n r) := by
  unfold M_law_signs
  have hr := rng_nat (n := n) (show n ≤ 1000000 by omega)
  simp only [bassoc, sb, bind_id, h.sq.len, hr]
  have hO := h.po
  have bl : ∀ x, x < n → compM (fun y => (atI t y).bind fun row => atI row (x : Int)) (fun y => some y) (rl n) = some ((rl n).filter fun y => r y.toNat x) := fun x hx => by
    rw [compM_eq (p := fun y => r y.toNat x) (g := fun y => y) (by rw [rl_len]; omega) (fun y hy => by
      obtain ⟨j, hj, rfl⟩ := rl_mem.mp hy
      obtain ⟨row, q1, _, q2⟩ := h.look hj
      rw [q1, sb, q2 x hx, Int.toNat_natCast]) fun y _ _ => rfl, List.map_id']
  rw [mapM_is (g := fun x => (cn n r x.toNat, x)) (by rw [rl_len]; omega) fun x hx => by
    obtain ⟨j, hj, rfl⟩ := rl_mem.mp hx
    rw [bl j hj, sb, len_filter, Int.toNat_natCast]
    rfl, sb]
  have pp : (sortP ((rl n).map fun x => (cn n r x.toNat, x))).Perm _ := isort_perm leP _
  have ps' : (sortP ((rl n).map fun x => (cn n r x.toNat, x))).Pairwise fun a b => leP a b = true := isort_srt leP_tot leP_tr _
  generalize hL : sortP ((rl n).map fun x => (cn n r x.toNat, x)) = L at pp ps'
  have hll : L.length = n := by rw [pp.length_eq, List.length_map, rl_len]
  have hmem : ∀ z, z < n → (cn n r z, (z : Int)) ∈ L := fun z hz => pp.mem_iff.mpr (List.mem_map.mpr ⟨_, rl_mem.mpr ⟨z, hz, rfl⟩, by rw [Int.toNat_natCast]⟩)
  have hmem2 : ∀ p ∈ L, ∃ z, z < n ∧ p = (cn n r z, (z : Int)) := fun p hp => by
    obtain ⟨x, hx, rfl⟩ := List.mem_map.mp (pp.mem_iff.mp hp)
    obtain ⟨k, hk, rfl⟩ := rl_mem.mp hx
    exact ⟨k, hk, by rw [Int.toNat_natCast]⟩
  rw [repM_one (by omega), sb]
  refine (foldG_ok (Inv := fun k (s : List Int) => s.length = n ∧ ∀ i p, i < k → L[i]? = some p → atI s p.2 = some (sg n r p.2.toNat)) L 0 ⟨List.length_replicate, fun i p hi => absurd hi (Nat.not_lt_zero _)⟩ fun k p s hk hs => ?_).mono fun s hs => ?_
  · rw [Nat.zero_add] at hs ⊢
    obtain ⟨hs1, hs3⟩ := hs
    obtain ⟨z, hz, rfl⟩ := hmem2 p (List.mem_of_getElem? hk)
    rw [compM_eq (p := fun y => r y.toNat z) (g := fun y => sg n r y.toNat) (by rw [rl_len]; omega) (fun y hy => by
      obtain ⟨j, hj, rfl⟩ := rl_mem.mp hy
      obtain ⟨row, q1, _, q2⟩ := h.look hj
      rw [q1, sb, q2 z hz, Int.toNat_natCast]) fun y hy e => by
      obtain ⟨j, hj, rfl⟩ := rl_mem.mp hy
      rw [Int.toNat_natCast] at e
      obtain ⟨i, hi, hiq⟩ := srt_before ps' hk (hmem j hj) (cn_lt hO e)
      exact hs3 i _ hi hiq, sb, sum_filter, setAt_nat (by omega)]
    refine .one ⟨by rw [List.length_set]; exact hs1, fun i p hi hp => ?_⟩
    have hsg := sg_ok hO z hz rfl
    simp only [Bool.true_and] at hsg
    have val : atI (s.set z (1 - S n fun x => wh (r ((x : Int)).toNat z) (sg n r ((x : Int)).toNat))) (z : Int) = some (sg n r z) := by
      rw [atI_nat (k := z) (by rw [List.length_set]; omega), List.getElem_set_self]
      simp only [Int.toNat_natCast]
      congr 1
      omega
    obtain ⟨y, hy, rfl⟩ := hmem2 p (List.mem_of_getElem? hp)
    by_cases e : y = z
    · subst e
      rw [Int.toNat_natCast]
      exact val
    · have hik : i < k := by
        by_cases q : i = k
        · subst q
          rw [hk] at hp
          have := (Prod.mk.inj (Option.some.inj hp)).2
          omega
        · omega
      rw [← hs3 i _ hik hp]
      show atI (s.set z _) (y : Int) = atI s (y : Int)
      rw [atI_nat (k := y) (by rw [List.length_set]; omega), atI_nat (k := y) (by omega), List.getElem_set_ne (fun q => e q.symm)]
  · have hv : Vec n s (sg n r) := ⟨hs.1, fun x hx => by
      obtain ⟨i, hi⟩ := List.mem_iff_getElem?.mp (hmem x hx)
      have := hs.2 i _ (by have := (List.getElem?_eq_some_iff.mp hi).1; omega) hi
      rw [Int.toNat_natCast] at this
      exact this⟩
    exact hv.sum
end K59
set_option maxHeartbeats 1000000
namespace K59
open PySem PySem.Spec L2 CC
open PyProof.Rows hiding St
/-! ### the number of a part -/
def rs (A : Nat → Bool) (r : Nat → Nat → Bool) (x y : Nat) : Bool := A x && A y && r x y
theorem rs_or {n : Nat} {A : Nat → Bool} {r : Nat → Nat → Bool} (h : Or n r) : Or n (rs A r) := by
  refine ⟨fun x y e => ?_, fun x y z a b => ?_, fun x => ?_⟩
  · unfold rs at e
    simp only [Bool.and_eq_true] at e
    exact h.lo x y e.2
  · unfold rs at *
    simp only [Bool.and_eq_true] at *
    exact ⟨⟨a.1.1, b.1.2⟩, h.tr x y z a.2 b.2⟩
  · unfold rs
    rw [h.ir, Bool.and_false]
def X (n : Nat) (A : Nat → Bool) (r : Nat → Nat → Bool) : Int := chi n A (sg n (rs A r))
theorem X_sg {n : Nat} {A : Nat → Bool} {r : Nat → Nat → Bool} (h : Or n r) : Sg n A r (sg n (rs A r)) := fun x hx a => by
  have := sg_ok (rs_or (A := A) h) x hx rfl
  rw [← this]
  congr 1
  refine S_congr fun y _ => ?_
  unfold rs
  rw [a, Bool.true_and, Bool.and_true]
theorem X_of {n : Nat} {A : Nat → Bool} {r : Nat → Nat → Bool} {s : Nat → Int} (h : Or n r) (k : Sg n A r s) : chi n A s = X n A r := Sg.chi_eq (f := fun x => (cn n r x).toNat) h.rank k (X_sg h)
theorem X_flip {n : Nat} {A : Nat → Bool} {r : Nat → Nat → Bool} (h : Or n r) : X n A r = X n A fun x y => r y x := Sg.dual (X_sg h) (X_sg h.flip)
theorem X_up {n : Nat} {A B : Nat → Bool} {r : Nat → Nat → Bool} (h : Or n r) (hAB : ∀ x, A x = true → B x = true) (hp : ∀ p, p < n → B p = true → A p = false → ∃ a, a < n ∧ A a = true ∧ ∀ z, z < n → A z = true → r z p = (decide (z = a) || r z a)) : X n B r = X n A r := by
  obtain ⟨w1, w2⟩ := Sg.wide h.ir hAB (X_sg h) hp
  rw [← X_of h w1]
  exact w2
theorem X_dn {n : Nat} {A B : Nat → Bool} {r : Nat → Nat → Bool} (h : Or n r) (hAB : ∀ x, A x = true → B x = true) (hp : ∀ p, p < n → B p = true → A p = false → ∃ a, a < n ∧ A a = true ∧ ∀ z, z < n → A z = true → r p z = (decide (z = a) || r a z)) : X n B r = X n A r := by
  rw [X_flip h, X_flip (A := A) h]
  exact X_up h.flip hAB hp
theorem X_all {n : Nat} {r : Nat → Nat → Bool} : X n (fun _ => true) r = S n (sg n r) := rfl
theorem S_more {n : Nat} {f : Nat → Int} : ∀ {h : Nat}, (∀ x, n ≤ x → f x = 0) → S (n + h) f = S n f
  | 0, _ => rfl
  | h + 1, k => by
    show S (n + h) f + f (n + h) = S n f
    rw [S_more k, k _ (by omega), Int.add_zero]
theorem X_low {n h : Nat} {R r : Nat → Nat → Bool} (hR : Or (n + h) R) (hr : Or n r) (e : ∀ x y, x < n → y < n → R x y = r x y) : X (n + h) (fun x => decide (x < n)) R = S n (sg n r) := by
  rw [← X_of hR (s := sg n r) fun x hx a => ?_]
  · unfold chi
    rw [S_more fun x hx => by show wh (decide (x < n)) _ = 0; rw [decide_eq_false (show ¬ x < n by omega)]; rfl]
    exact S_congr fun x hx => by show wh (decide (x < n)) _ = _; rw [decide_eq_true hx]; rfl
  · have a := of_decide_eq_true a
    rw [S_more fun y hy => by rw [decide_eq_false (by omega)]; rfl, ← sg_ok hr x a rfl]
    congr 1
    exact S_congr fun y hy => by rw [decide_eq_true hy, e y x hy a]
end K59
set_option maxHeartbeats 1000000
namespace K59
open PySem PySem.Spec L2 CC
open PyProof.Rows hiding St
theorem ren_id {n : Nat} : Ren n (fun x => x) fun x => x := ⟨fun _ h => h, fun _ h => h, fun _ _ => rfl, fun _ _ => rfl⟩
theorem X_congr {n : Nat} {A B : Nat → Bool} {r : Nat → Nat → Bool} (h : ∀ x, x < n → A x = B x) : X n A r = X n B r := by
  unfold X chi
  refine S_congr fun x hx => ?_
  rw [h x hx]
  congr 1
  exact sg_ren ren_id (fun x y hx hy => by unfold rs; rw [h x hx, h y hy]) hx
/-- a rising map -/
structure Ri (n : Nat) (r : Nat → Nat → Bool) (f : Nat → Nat) : Prop where
  lt : ∀ x, x < n → f x < n
  up : ∀ x y, r x y = true → f x = f y ∨ r (f x) (f y) = true
theorem Ri.flip {n : Nat} {r : Nat → Nat → Bool} {f : Nat → Nat} (h : Ri n r f) : Ri n (fun x y => r y x) f := ⟨h.lt, fun x y e => (h.up y x e).imp Eq.symm id⟩
theorem find_fix {n : Nat} {r : Nat → Nat → Bool} {f : Nat → Nat} {x : Nat} (hO : Or n r) (hf : Ri n r f) : ∀ (k u : Nat), (n : Int) - cn n r u ≤ k → u < n → r x u = true → (u = f u ∨ r u (f u) = true) → (∀ z, z < n → f z = z → r x z = true → z = u ∨ r u z = true) →
    ∃ w, w < n ∧ f w = w ∧ r x w = true ∧ ∀ z, z < n → f z = z → r x z = true → z = w ∨ r w z = true
  | 0, u, hk, hu, _, _, _ => by
    have := cn_top hO hu
    omega
  | k + 1, u, hk, hu, hx, hfu, hz => by
    rcases hfu with e | e
    · exact ⟨u, hu, e.symm, hx, hz⟩
    · have h1 := cn_lt hO e
      refine find_fix hO hf k (f u) (by omega) (hf.lt u hu) (hO.tr _ _ _ hx e) (hf.up _ _ e) fun z hzn fz xz => ?_
      rcases hz z hzn fz xz with q | q
      · subst q
        rw [fz, hO.ir] at e
        cases e
      · have := hf.up _ _ q
        rw [fz] at this
        exact this.imp Eq.symm id
/-- one fixed point goes, its value is above it -/
theorem fix_up {n : Nat} {r : Nat → Nat → Bool} {f g : Nat → Nat} {x : Nat} (hO : Or n r) (hf : Ri n r f) (hg : Ri n r g) (fx : f x = x) (e : ∀ z, z ≠ x → g z = f z) (hv : r x (g x) = true) : X n (fun z => decide (f z = z)) r = X n (fun z => decide (g z = z)) r := by
  have hx := (hO.lo _ _ hv).1
  have gne : g x ≠ x := fun q => by rw [q, hO.ir] at hv; cases hv
  refine X_dn (A := fun z => decide (g z = z)) hO (fun z hz => ?_) fun p hp hB hA => ?_
  · have hz := of_decide_eq_true hz
    have : z ≠ x := fun q => by subst q; exact gne hz
    exact decide_eq_true (by rw [← e z this]; exact hz)
  · have hB := of_decide_eq_true hB
    have hA := of_decide_eq_false hA
    have : p = x := by
      by_cases q : p = x
      · exact q
      · rw [e p q] at hA
        exact absurd hB hA
    subst this
    have vne : g p ≠ p := gne
    obtain ⟨w, hw, fw, xw, hz⟩ := find_fix (x := p) hO hf n (g p) (by have := cn_pos (n := n) (r := r) (x := g p); omega) (hO.lo _ _ hv).2 hv (by
      rw [← e (g p) vne]
      exact hg.up _ _ hv) fun z hzn fz xz => by
      have zne : z ≠ p := fun q => by rw [q, hO.ir] at xz; cases xz
      have := hg.up _ _ xz
      rw [e z zne, fz] at this
      exact this.imp Eq.symm id
    have wne : w ≠ p := fun q => by rw [q, hO.ir] at xw; cases xw
    refine ⟨w, hw, decide_eq_true (by rw [e w wne]; exact fw), fun z hzn hA' => ?_⟩
    have hA' := of_decide_eq_true hA'
    have zne : z ≠ p := fun q => vne (by rw [q] at hA'; exact hA')
    rw [Bool.eq_iff_iff, Bool.or_eq_true, decide_eq_true_eq]
    constructor
    · exact hz z hzn (by rw [← e z zne]; exact hA')
    · rintro (q | q)
      · subst q; exact xw
      · exact hO.tr _ _ _ xw q
theorem fix_dn {n : Nat} {r : Nat → Nat → Bool} {f g : Nat → Nat} {x : Nat} (hO : Or n r) (hf : Ri n r f) (hg : Ri n r g) (fx : f x = x) (e : ∀ z, z ≠ x → g z = f z) (hv : r (g x) x = true) : X n (fun z => decide (f z = z)) r = X n (fun z => decide (g z = z)) r := by
  rw [X_flip hO, X_flip (A := fun z => decide (g z = z)) hO]
  exact fix_up hO.flip hf.flip hg.flip fx e hv
/-- one small step -/
theorem fix_step {n : Nat} {r : Nat → Nat → Bool} {f g : Nat → Nat} {x : Nat} (hO : Or n r) (hf : Ri n r f) (hg : Ri n r g) (e : ∀ z, z ≠ x → g z = f z) (hv : r (f x) (g x) = true ∨ r (g x) (f x) = true) : X n (fun z => decide (f z = z)) r = X n (fun z => decide (g z = z)) r := by
  by_cases q1 : f x = x
  · rw [q1] at hv
    rcases hv with hv | hv
    · exact fix_up hO hf hg q1 e hv
    · exact fix_dn hO hf hg q1 e hv
  · by_cases q2 : g x = x
    · rw [q2] at hv
      rcases hv with hv | hv
      · exact (fix_dn hO hg hf q2 (fun z hz => (e z hz).symm) hv).symm
      · exact (fix_up hO hg hf q2 (fun z hz => (e z hz).symm) hv).symm
    · refine X_congr fun z _ => ?_
      by_cases q : z = x
      · subst q
        rw [decide_eq_false q1, decide_eq_false q2]
      · rw [e z q]
/-! ### a part, told by a list -/
def sub (r : Nat → Nat → Bool) (l : List Int) (i j : Nat) : Bool := decide (i < l.length ∧ j < l.length) && r (rwv l i) (rwv l j)
/-- points, each once -/
structure Pts (n : Nat) (l : List Int) : Prop where
  nd : l.Nodup
  lo : ∀ y ∈ l, ∃ k : Nat, y = (k : Int) ∧ k < n
theorem Pts.at {n : Nat} {l : List Int} (h : Pts n l) {i : Nat} (hi : i < l.length) : l[i] = (rwv l i : Int) ∧ rwv l i < n ∧ l.idxOf (rwv l i : Int) = i := by
  obtain ⟨k, e, hk⟩ := h.lo _ (List.getElem_mem hi)
  have e1 : rwv l i = k := by
    unfold rwv
    rw [List.getElem?_eq_getElem hi, Option.getD_some, e]
    omega
  rw [e1]
  refine ⟨e, hk, ?_⟩
  rw [← e]
  exact h.nd.idxOf_getElem i hi
theorem Pts.ix {n : Nat} {l : List Int} (h : Pts n l) {x : Nat} (hx : (x : Int) ∈ l) : l.idxOf (x : Int) < l.length ∧ rwv l (l.idxOf (x : Int)) = x := by
  have h1 := List.idxOf_lt_length_iff.mpr hx
  obtain ⟨e, _, _⟩ := h.at h1
  rw [List.getElem_idxOf h1] at e
  exact ⟨h1, by omega⟩
theorem sub_or {n : Nat} {r : Nat → Nat → Bool} {l : List Int} (hO : Or n r) : Or l.length (sub r l) := by
  refine ⟨fun x y e => of_decide_eq_true (Bool.and_eq_true_iff.mp e).1, fun x y z a b => ?_, fun x => by unfold sub; rw [hO.ir, Bool.and_false]⟩
  obtain ⟨a1, a2⟩ := Bool.and_eq_true_iff.mp a
  obtain ⟨b1, b2⟩ := Bool.and_eq_true_iff.mp b
  have a1 := of_decide_eq_true a1
  have b1 := of_decide_eq_true b1
  exact Bool.and_eq_true_iff.mpr ⟨decide_eq_true ⟨a1.1, b1.2⟩, hO.tr _ _ _ a2 b2⟩
theorem S_list {n : Nat} {l : List Int} (h : Pts n l) {F : Nat → Int} : S n (fun y => wh (decide ((y : Int) ∈ l)) (F y)) = S l.length fun i => F (rwv l i) := by
  have e1 : S n (fun y => wh (decide ((y : Int) ∈ l)) (F y)) = S n fun y => S l.length fun i => wh (decide (rwv l i = y)) (F y) := S_congr fun y hy => by
    by_cases hm : (y : Int) ∈ l
    · obtain ⟨h1, h2⟩ := h.ix hm
      rw [decide_eq_true hm]
      refine (S_one (c := F y) h1).symm.trans (S_congr fun i hi => ?_)
      by_cases q : i = l.idxOf (y : Int)
      · rw [if_pos q, q, h2, decide_eq_true rfl]
        rfl
      · rw [if_neg q, decide_eq_false fun z => q (by rw [← z, (h.at hi).2.2])]
        rfl
    · rw [decide_eq_false hm]
      refine (S_zero (n := l.length)).symm.trans (S_congr fun i hi => ?_)
      have : ¬ rwv l i = y := fun z => hm (by rw [← z, ← (h.at hi).1]; exact List.getElem_mem hi)
      rw [decide_eq_false this]
      rfl
  rw [e1, S_comm]
  refine S_congr fun i hi => ?_
  refine (S_congr (g := fun y => if y = rwv l i then F (rwv l i) else 0) fun y _ => ?_).trans (S_one (h.at hi).2.1)
  by_cases q : y = rwv l i
  · rw [if_pos q, q, decide_eq_true rfl]
    rfl
  · rw [if_neg q, decide_eq_false fun z => q z.symm]
    rfl
theorem X_sub {n : Nat} {r : Nat → Nat → Bool} {l : List Int} (hO : Or n r) (h : Pts n l) : X n (fun x => decide ((x : Int) ∈ l)) r = S l.length (sg l.length (sub r l)) := by
  have hS := sub_or (l := l) hO
  rw [← X_of hO (s := fun x => sg l.length (sub r l) (l.idxOf (x : Int))) fun x hx a => ?_]
  · unfold chi
    rw [S_list h (F := fun x => sg l.length (sub r l) (l.idxOf (x : Int)))]
    exact S_congr fun i hi => by rw [(h.at hi).2.2]
  · have a := of_decide_eq_true a
    obtain ⟨h1, h2⟩ := h.ix a
    have e : S n (fun y => wh (decide ((y : Int) ∈ l) && r y x) (sg l.length (sub r l) (l.idxOf (y : Int)))) = S n fun y => wh (decide ((y : Int) ∈ l)) (wh (r y x) (sg l.length (sub r l) (l.idxOf (y : Int)))) := S_congr fun y _ => by
      cases decide ((y : Int) ∈ l) <;> rfl
    rw [e, S_list h (F := fun y => wh (r y x) (sg l.length (sub r l) (l.idxOf (y : Int))))]
    have := sg_ok hS _ h1 rfl
    rw [← this]
    congr 1
    refine S_congr fun i hi => ?_
    show wh (r (rwv l i) x) (sg l.length (sub r l) (l.idxOf (rwv l i : Int))) = wh (true && sub r l i (l.idxOf (x : Int))) (sg l.length (sub r l) i)
    rw [(h.at hi).2.2]
    unfold sub
    rw [decide_eq_true ⟨hi, h1⟩, h2, Bool.true_and, Bool.true_and]
theorem X_ren {n : Nat} {r : Nat → Nat → Bool} {A : Nat → Bool} {row : List Int} (h : row.Perm (rl n)) : X n (fun y => A (pl row y)) (rn n r row) = X n A r := by
  have R := ren_of h
  unfold X chi
  rw [← S_ren R]
  refine S_congr fun x hx => ?_
  show wh (A (pl row (rwv row x))) _ = _
  rw [R.ts x hx]
  congr 1
  exact sg_ren R (fun x y hx hy => by
    show (A (pl row (rwv row x)) && A (pl row (rwv row y)) && rn n r row (rwv row x) (rwv row y)) = (A x && A y && r x y)
    rw [R.ts x hx, R.ts y hy, rn_eq h hx hy]) hx
end K59
set_option maxHeartbeats 1000000
namespace K59
open PySem PySem.Spec L2 CC
open PyProof.Rows hiding St
theorem get_putI {s : List (Int × Int)} {k x j : Int} : getM (putM s k x) j = if j = k then some x else getM s j := by
  unfold putM
  cases e : getM s k with
  | none =>
    rw [if_neg (fun z => nomatch z), get_snoc e]
  | some y =>
    rw [if_pos (show (some y).isSome = true from rfl), get_putR (by rw [e]; rfl)]
theorem dc_enum : ∀ (l : List Int) (k : Nat) (s : List (Int × Int)), l.Nodup → ∃ s', dcGo (fun _ : Int × Int => some true) (fun x => some x.2) (fun x => some x.1) (enumL k l) s = some s' ∧ ∀ y, getM s' y = if y ∈ l then some ((k + l.idxOf y : Nat) : Int) else getM s y
  | [], k, s, _ => ⟨s, rfl, fun y => by simp⟩
  | x :: l, k, s, nd => by
    obtain ⟨n1, n2⟩ := List.nodup_cons.mp nd
    obtain ⟨s', e, h⟩ := dc_enum l (k + 1) (putM s x (k : Int)) n2
    refine ⟨s', e, fun y => ?_⟩
    rw [h, get_putI]
    by_cases q : y = x
    · subst q
      rw [if_neg n1, if_pos rfl, if_pos List.mem_cons_self, List.idxOf_cons_self]
      rfl
    · by_cases m : y ∈ l
      · rw [if_pos m, if_pos (List.mem_cons_of_mem _ m), List.idxOf_cons, show (x == y) = false from beq_eq_false_iff_ne.mpr (fun z => q z.symm), cond_false]
        congr 2
        omega
      · rw [if_neg m, if_neg q, if_neg (fun z => by
          rcases List.mem_cons.mp z with z | z
          · exact q z
          · exact m z)]
theorem induced_ok {n : Nat} {r : Nat → Nat → Bool} {ps : List (Int × Int)} {l : List Int} (hn : n ≤ 100) (hlen : ps.length ≤ 1000000) (hO : Or n r) (hp : Pr n r ps) (hl : Pts n l) (hll : l.length ≤ 100) : Ok (M_induced (((n : Int), ps), l, ())) fun w => w.1 = (l.length : Int) ∧ Pr l.length (sub r l) w.2 := by
  unfold M_induced
  obtain ⟨s, e, h⟩ := dc_enum l 0 [] hl.nd
  rw [show dcM (fun _ : Int × Int => some true) (fun x => some x.2) (fun x => some x.1) (enumL 0 l) = some s by
    unfold dcM
    rw [if_pos (show (enumL 0 l).length ≤ LIM by rw [enumL_len]; show l.length ≤ 1000000; omega)]
    exact e, sb]
  have hget : ∀ y, getM s y = if y ∈ l then some (l.idxOf y : Int) else none := fun y => by
    rw [h, Nat.zero_add]
    rfl
  rw [compM_eq (p := fun p => decide (p.1 ∈ l) && decide (p.2 ∈ l)) (g := fun p => ((l.idxOf p.1 : Int), (l.idxOf p.2 : Int))) hlen (fun p _ => by
    rw [hget, hget]
    by_cases q1 : p.1 ∈ l
    · by_cases q2 : p.2 ∈ l
      · simp [q1, q2]
      · simp [q1, q2]
    · simp [q1]) fun p _ hq => by
    obtain ⟨q1, q2⟩ := Bool.and_eq_true_iff.mp hq
    rw [hget, hget, if_pos (of_decide_eq_true q1), if_pos (of_decide_eq_true q2)]
    rfl, sb]
  refine .one ⟨rfl, ⟨fun p hm => ?_, fun i j e => ?_, ?_⟩⟩
  · obtain ⟨q, hq, rfl⟩ := List.mem_map.mp hm
    obtain ⟨hq1, hq2⟩ := List.mem_filter.mp hq
    obtain ⟨x, y, rfl, hxy⟩ := hp.bd q hq1
    obtain ⟨m1, m2⟩ := Bool.and_eq_true_iff.mp hq2
    obtain ⟨i1, i2⟩ := hl.ix (of_decide_eq_true m1)
    obtain ⟨j1, j2⟩ := hl.ix (of_decide_eq_true m2)
    refine ⟨_, _, rfl, ?_⟩
    unfold sub
    rw [decide_eq_true ⟨i1, j1⟩, i2, j2, Bool.true_and]
    exact hxy
  · obtain ⟨e1, e2⟩ := Bool.and_eq_true_iff.mp e
    obtain ⟨hi, hj⟩ := of_decide_eq_true e1
    have m1 : (rwv l i : Int) ∈ l := by rw [← (hl.at hi).1]; exact List.getElem_mem hi
    have m2 : (rwv l j : Int) ∈ l := by rw [← (hl.at hj).1]; exact List.getElem_mem hj
    refine List.mem_map.mpr ⟨((rwv l i : Int), (rwv l j : Int)), List.mem_filter.mpr ⟨hp.mem _ _ e2, Bool.and_eq_true_iff.mpr ⟨decide_eq_true m1, decide_eq_true m2⟩⟩, ?_⟩
    simp only [(hl.at hi).2.2, (hl.at hj).2.2]
  · show List.Pairwise _ _
    rw [List.pairwise_map]
    refine List.Pairwise.imp_of_mem (fun {a b} ha hb hab e => hab ?_) (hp.nd.filter _)
    obtain ⟨ha1, ha2⟩ := List.mem_filter.mp ha
    obtain ⟨hb1, hb2⟩ := List.mem_filter.mp hb
    obtain ⟨x, y, rfl, _⟩ := hp.bd a ha1
    obtain ⟨z, w, rfl, _⟩ := hp.bd b hb1
    obtain ⟨m1, m2⟩ := Bool.and_eq_true_iff.mp ha2
    obtain ⟨m3, m4⟩ := Bool.and_eq_true_iff.mp hb2
    have i1 := (hl.ix (of_decide_eq_true m1)).2
    have i2 := (hl.ix (of_decide_eq_true m2)).2
    have i3 := (hl.ix (of_decide_eq_true m3)).2
    have i4 := (hl.ix (of_decide_eq_true m4)).2
    obtain ⟨e1, e2⟩ := Prod.mk.inj e
    have e1 : (l.idxOf (x : Int) : Int) = (l.idxOf (z : Int) : Int) := e1
    have e2 : (l.idxOf (y : Int) : Int) = (l.idxOf (w : Int) : Int) := e2
    have e1 : l.idxOf (x : Int) = l.idxOf (z : Int) := by omega
    have e2 : l.idxOf (y : Int) = l.idxOf (w : Int) := by omega
    rw [e1, i3] at i1
    rw [e2, i4] at i2
    rw [i1, i2]
/-- rows of values -/
abbrev Vn (n : Nat) (row : List Int) (f : Nat → Nat) : Prop := Vec n row fun x => (f x : Int)
theorem named_ok {n : Nat} {names row : List Int} {f : Nat → Nat} (hn : n ≤ 100) (hN : names.Perm (rl n)) (hr : Vn n row f) (hf : ∀ x, x < n → f x < n) : Ok (M_law_named (names, row, ())) fun w => Vn n w fun y => rwv names (f (pl names y)) := by
  unfold M_law_named
  have R := ren_of hN
  simp only [bassoc, sb, bind_id, hr.len, rng_nat (n := n) (show n ≤ 1000000 by omega)]
  rw [repM_one (by omega), sb]
  refine (foldR_ok (fun k (s : List Int) => s.length = n ∧ ∀ j, j < k → atI s (rwv names j : Int) = some (rwv names (f j) : Int)) ⟨List.length_replicate, fun j hj => absurd hj (Nat.not_lt_zero _)⟩ fun k s hk hs => ?_).mono fun s hs => ⟨hs.1, fun y hy => ?_⟩
  · rw [hr.look k hk, sb, ((Rw.perm hN).at (hf k hk)).1, sb, ((Rw.perm hN).at hk).1, sb]
    have hlt : rwv names k < s.length := by rw [hs.1]; exact R.lt k hk
    rw [setAt_nat hlt]
    refine .one ⟨by rw [List.length_set]; exact hs.1, fun j hj => ?_⟩
    by_cases e : j = k
    · subst e
      rw [atI_nat (k := rwv names j) (by rw [List.length_set]; exact hlt), List.getElem_set_self]
    · have hjk : j < k := by omega
      have hlj : rwv names j < s.length := by rw [hs.1]; exact R.lt j (by omega)
      have ne : rwv names k ≠ rwv names j := fun q => e (by rw [← R.ts j (by omega), ← q, R.ts k hk])
      rw [← hs.2 j hjk, atI_nat (k := rwv names j) (by rw [List.length_set]; exact hlj), atI_nat hlj, List.getElem_set_ne ne]
  · have := hs.2 (pl names y) (R.lt' y hy)
    rwa [R.st y hy] at this
theorem fixed_ok {n : Nat} {ps : List (Int × Int)} {row : List Int} {f : Nat → Nat} (hn : n ≤ 100) (hr : Vn n row f) : M_fixed_points (((n : Int), ps), row, ()) = some ((rl n).filter fun y => decide (f y.toNat = y.toNat)) := by
  unfold M_fixed_points
  rw [rng_nat (show n ≤ 1000000 by omega), sb, bind_id, compM_eq (p := fun y => decide (f y.toNat = y.toNat)) (g := fun y => y) (by rw [rl_len]; omega) (fun y hy => by
    obtain ⟨j, hj, rfl⟩ := rl_mem.mp hy
    rw [hr.look j hj, sb, Int.toNat_natCast]
    congr 1
    exact decide_eq_decide.mpr (by omega)) fun _ _ _ => rfl, List.map_id']
theorem pts_filter {n : Nat} (p : Int → Bool) : Pts n ((rl n).filter p) := ⟨(rl_nodup n).filter _, fun y hy => by
  obtain ⟨k, hk, e⟩ := rl_mem.mp (List.mem_filter.mp hy).1
  exact ⟨k, e, hk⟩⟩
theorem len_filter_le {n : Nat} (p : Int → Bool) : ((rl n).filter p).length ≤ n := by
  have := List.length_filter_le p (rl n)
  rwa [rl_len] at this
theorem mem_fix {n : Nat} {f : Nat → Nat} {x : Nat} (hx : x < n) : decide ((x : Int) ∈ (rl n).filter fun y => decide (f y.toNat = y.toNat)) = decide (f x = x) := by
  refine decide_eq_decide.mpr ?_
  rw [List.mem_filter, Int.toNat_natCast, decide_eq_true_eq]
  exact ⟨fun h => h.2, fun h => ⟨rl_mem.mpr ⟨x, hx, rfl⟩, h⟩⟩
/-- the number of the fixed points -/
abbrev Lf (n : Nat) (r : Nat → Nat → Bool) (f : Nat → Nat) : Int := X n (fun z => decide (f z = z)) r
theorem lefschetz_ok {n : Nat} {r : Nat → Nat → Bool} {names row : List Int} {ps : List (Int × Int)} {f : Nat → Nat} (hn : n ≤ 64) (hO : Or n r) (hN : names.Perm (rl n)) (hp : Pr n (rn n r names) ps) (hlen : ps.length ≤ 1000000) (hr : Vn n row fun y => rwv names (f (pl names y))) (hf : ∀ x, x < n → f x < n) : M_lefschetz (((n : Int), ps), row, ()) = some (Lf n r f) := by
  have R := ren_of hN
  unfold M_lefschetz
  simp only [bassoc, sb]
  rw [fixed_ok (by omega) hr, sb]
  have hP := pts_filter (n := n) fun y => decide (rwv names (f (pl names y.toNat)) = y.toNat)
  have hll := len_filter_le (n := n) fun y => decide (rwv names (f (pl names y.toNat)) = y.toNat)
  have hR := rn_or (row := names) hO
  refine Ok.eq_some (.bind (induced_ok (by omega) hlen hR hp hP (by omega)) fun w hw => ?_)
  obtain ⟨w1, w2⟩ := w
  obtain ⟨e1, e2⟩ := hw
  simp only at e1 e2
  subst e1
  rw [euler_ok (by omega) (sub_or hR) e2, ← X_sub hR hP]
  refine .one ?_
  unfold Lf
  rw [← X_ren (r := r) (A := fun z => decide (f z = z)) hN]
  refine X_congr fun y hy => ?_
  rw [mem_fix (f := fun y => rwv names (f (pl names y))) hy]
  refine decide_eq_decide.mpr ⟨fun h => ?_, fun h => ?_⟩
  · rw [← R.ts _ (hf _ (R.lt' y hy)), h]
  · rw [h, R.st y hy]
theorem points_ok {n : Nat} {names row : List Int} {f : Nat → Nat} (hn : n ≤ 100) (hN : names.Perm (rl n)) (hr : Vn n row f) (hf : ∀ x, x < n → f x < n) : ((rng 0 (n : Int)).bind fun xs => compM (fun x => (atI row x).bind fun v => some (decide (v = x))) (fun x => atI names x) xs).bind (fun l => some (sortI l)) = some ((rl n).filter fun y => decide (rwv names (f (pl names y.toNat)) = y.toNat)) := by
  have R := ren_of hN
  rw [rng_nat (show n ≤ 1000000 by omega), sb, compM_eq (p := fun y => decide (f y.toNat = y.toNat)) (g := fun y => (rwv names y.toNat : Int)) (by rw [rl_len]; omega) (fun y hy => by
    obtain ⟨j, hj, rfl⟩ := rl_mem.mp hy
    rw [hr.look j hj, sb, Int.toNat_natCast]
    congr 1
    exact decide_eq_decide.mpr (by omega)) (fun y hy _ => by
    obtain ⟨j, hj, rfl⟩ := rl_mem.mp hy
    rw [Int.toNat_natCast]
    exact ((Rw.perm hN).at hj).1), sb]
  congr 1
  refine srt_uniq leI_an (isort_srt leI_tot leI_tr _) (List.Pairwise.imp (fun h => by unfold leI; exact decide_eq_true (by omega)) ((rl_asc n).filter _)) ((isort_perm leI _).trans ?_)
  refine nodup_perm ?_ (fun z hz => ?_) ?_
  · show List.Pairwise _ _
    rw [List.pairwise_map]
    refine List.Pairwise.imp_of_mem (fun {a b} ha hb hab e => hab ?_) ((rl_nodup n).filter _)
    obtain ⟨i, hi, rfl⟩ := rl_mem.mp (List.mem_filter.mp ha).1
    obtain ⟨j, hj, rfl⟩ := rl_mem.mp (List.mem_filter.mp hb).1
    rw [Int.toNat_natCast, Int.toNat_natCast] at e
    have : rwv names i = rwv names j := by omega
    have : i = j := by rw [← R.ts i hi, this, R.ts j hj]
    rw [this]
  · obtain ⟨x, hx, rfl⟩ := List.mem_map.mp hz
    obtain ⟨hx1, hx2⟩ := List.mem_filter.mp hx
    obtain ⟨i, hi, rfl⟩ := rl_mem.mp hx1
    rw [Int.toNat_natCast] at hx2 ⊢
    refine List.mem_filter.mpr ⟨rl_mem.mpr ⟨_, R.lt i hi, rfl⟩, ?_⟩
    rw [Int.toNat_natCast, R.ts i hi, of_decide_eq_true hx2]
    exact decide_eq_true rfl
  · rw [List.length_map]
    have : ∀ z ∈ ((rl n).filter fun y => decide (rwv names (f (pl names y.toNat)) = y.toNat)).map (fun y => ((pl names y.toNat : Nat) : Int)), z ∈ (rl n).filter fun y => decide (f y.toNat = y.toNat) := fun z hz => by
      obtain ⟨x, hx, rfl⟩ := List.mem_map.mp hz
      obtain ⟨hx1, hx2⟩ := List.mem_filter.mp hx
      obtain ⟨i, hi, rfl⟩ := rl_mem.mp hx1
      have hx2 := of_decide_eq_true hx2
      rw [Int.toNat_natCast] at hx2 ⊢
      refine List.mem_filter.mpr ⟨rl_mem.mpr ⟨_, R.lt' i hi, rfl⟩, decide_eq_true ?_⟩
      rw [Int.toNat_natCast, ← R.ts _ (hf _ (R.lt' i hi)), hx2]
    have := nodup_len ?_ this
    · rwa [List.length_map] at this
    · show List.Pairwise _ _
      rw [List.pairwise_map]
      refine List.Pairwise.imp_of_mem (fun {a b} ha hb hab e => hab ?_) ((rl_nodup n).filter _)
      obtain ⟨i, hi, rfl⟩ := rl_mem.mp (List.mem_filter.mp ha).1
      obtain ⟨j, hj, rfl⟩ := rl_mem.mp (List.mem_filter.mp hb).1
      rw [Int.toNat_natCast, Int.toNat_natCast] at e
      have e : pl names i = pl names j := by omega
      have : i = j := by rw [← R.st i hi, e, R.st j hj]
      rw [this]
theorem number_ok {n : Nat} {t : List (List Bool)} {r : Nat → Nat → Bool} {row : List Int} {f : Nat → Nat} (hn : n ≤ 64) (h : Tb n t r) (hr : Vn n row f) : M_law_number (t, row, ()) = some (Lf n r f) := by
  unfold M_law_number
  simp only [bassoc, sb, h.sq.len, rng_nat (n := n) (show n ≤ 1000000 by omega)]
  rw [compM_eq (p := fun y => decide (f y.toNat = y.toNat)) (g := fun y => y) (by rw [rl_len]; omega) (fun y hy => by
    obtain ⟨j, hj, rfl⟩ := rl_mem.mp hy
    rw [hr.look j hj, sb, Int.toNat_natCast]
    congr 1
    exact decide_eq_decide.mpr (by omega)) (fun _ _ _ => rfl), sb, List.map_id']
  have hP := pts_filter (n := n) fun y => decide (f y.toNat = y.toNat)
  have hll := len_filter_le (n := n) fun y => decide (f y.toNat = y.toNat)
  generalize hL : (rl n).filter (fun y => decide (f y.toNat = y.toNat)) = l at hP hll
  rw [mapM_is (g := fun x => l.map fun y => r x.toNat y.toNat) (by omega) fun x hx => mapM_is (by omega) fun y hy => by
    obtain ⟨i, rfl, hi⟩ := hP.lo x hx
    obtain ⟨j, rfl, hj⟩ := hP.lo y hy
    obtain ⟨q, q1, _, q2⟩ := h.look hi
    rw [q1, sb, q2 j hj, Int.toNat_natCast, Int.toNat_natCast], sb]
  have hT : T2 l.length (l.map fun x => l.map fun y => r x.toNat y.toNat) (sub r l) := T2.mk' (by rw [List.length_map]) fun x row hx => by
    have hx' : x < l.length := by
      have := (List.getElem?_eq_some_iff.mp hx).1
      rwa [List.length_map] at this
    rw [List.getElem?_map, List.getElem?_eq_getElem hx'] at hx
    have e : row = l.map fun y => r (l[x]).toNat y.toNat := (Option.some.inj hx).symm
    subst e
    refine ⟨by rw [List.length_map], fun y hy => ?_⟩
    rw [List.getElem?_map, List.getElem?_eq_getElem hy]
    show some _ = some _
    congr 1
    show r (l[x]).toNat (l[y]).toNat = _
    unfold sub
    rw [decide_eq_true ⟨hx', hy⟩, Bool.true_and, (hP.at hx').1, (hP.at hy).1, Int.toNat_natCast, Int.toNat_natCast]
  refine Ok.eq_some (.bind (signs_ok (by omega) ⟨hT.sq, hT.gt, sub_or h.po⟩) fun s hs => .one ?_)
  rw [hs, ← X_sub h.po hP]
  refine X_congr fun y hy => ?_
  rw [← hL]
  exact mem_fix hy
end K59
set_option maxHeartbeats 1000000
namespace K59
open PySem PySem.Spec L2 CC
open PyProof.Rows hiding St
theorem loopI_ok {τ ρ : Type} {f : Int → τ → Option (Out τ ρ)} (Inv : Nat → τ → Prop) (R : ρ → Prop) {n : Nat} {s : τ} (h0 : Inv 0 s) (hs : ∀ k s, k < n → Inv k s → Ok (f (k : Int) s) fun o => (∃ s', (o = .nx s' ∨ o = .ct s') ∧ Inv (k + 1) s') ∨ ∃ r, o = .rt r ∧ R r) : Ok (loopGo f (rl n) s) fun o => (∃ s', o = .nx s' ∧ Inv n s') ∨ ∃ r, o = .rt r ∧ R r := by
  have key : ∀ (m j : Nat) (s : τ), j + m = n → Inv j s → Ok (loopGo f ((List.range' j m).map fun i : Nat => (i : Int)) s) fun o => (∃ s', o = .nx s' ∧ Inv n s') ∨ ∃ r, o = .rt r ∧ R r := by
    intro m
    induction m with
    | zero =>
      intro j s e h
      have : j = n := by omega
      subst this
      exact .one (.inl ⟨s, rfl, h⟩)
    | succ m ih =>
      intro j s e h
      rw [List.range'_succ, List.map_cons]
      refine .bind (hs j s (by omega) h) fun o ho => ?_
      rcases ho with ⟨s', rfl | rfl, h'⟩ | ⟨r, rfl, hr⟩
      · exact ih (j + 1) s' (by omega) h'
      · exact ih (j + 1) s' (by omega) h'
      · exact .one (.inr ⟨r, rfl, hr⟩)
  have := key n 0 s (by omega) h0
  rwa [← List.range_eq_range'] at this
theorem fits_ok {n : Nat} {t : List (List Bool)} {r : Nat → Nat → Bool} {row : List Int} {f : Nat → Nat} {x v : Nat} (hn : n ≤ 1000) (h : Tb n t r) (hr : Vn n row f) (hf : ∀ x, x < n → f x < n) (hx : x < n) (hv : v < n) :
    Ok (M_law_fits (t, row, (x : Int), (v : Int), ())) fun b => b = true → ∀ y, y < n → (r y x = true → f y = v ∨ r (f y) v = true) ∧ (r x y = true → f y = v ∨ r v (f y) = true) := by
  unfold M_law_fits
  simp only [h.sq.len, rng_nat (n := n) (show n ≤ 1000000 by omega), sb]
  refine .bind (loopI_ok (ρ := Bool) (fun k (_ : Unit) => ∀ y, y < k → (r y x = true → f y = v ∨ r (f y) v = true) ∧ (r x y = true → f y = v ∨ r v (f y) = true)) (fun b => b = false) (fun y hy => absurd hy (Nat.not_lt_zero _)) fun k s hk hs => ?_) fun o ho => ?_
  · obtain ⟨q, q1, _, q2⟩ := h.look hk
    obtain ⟨u, u1, _, u2⟩ := h.look hx
    obtain ⟨w, w1, _, w2⟩ := h.look (hf k hk)
    obtain ⟨z, z1, _, z2⟩ := h.look hv
    have key : ∀ (b1 b2 b3 : Bool), (bif b1 then bif !b2 then some (!b3) else some false else some false) = some (b1 && !b2 && !b3) := by decide
    have ed : decide ((f k : Int) = (v : Int)) = decide (f k = v) := decide_eq_decide.mpr (by omega)
    simp only [q1, u1, w1, z1, sb, q2 x hx, u2 k hk, hr.look k hk, w2 v hv, z2 (f k) (hf k hk), key, ed]
    refine .bif (fun _ => .one (.inr ⟨_, rfl, rfl⟩)) fun e1 => .bif (fun _ => .one (.inr ⟨_, rfl, rfl⟩)) fun e2 => .one (.inl ⟨(), .inl rfl, fun y hy => ?_⟩)
    by_cases e : y = k
    · subst e
      refine ⟨fun q => ?_, fun q => ?_⟩
      · rw [q, Bool.true_and] at e1
        by_cases d : f y = v
        · exact .inl d
        · rw [decide_eq_false d] at e1
          simp at e1
          exact .inr e1
      · rw [q, Bool.true_and] at e2
        by_cases d : f y = v
        · exact .inl d
        · rw [decide_eq_false d] at e2
          simp at e2
          exact .inr e2
    · exact hs y (by omega)
  · rcases ho with ⟨s', rfl, hs⟩ | ⟨b, rfl, rfl⟩
    · exact .one fun _ => hs
    · exact .one fun e => nomatch e
theorem Vn.set {n : Nat} {row : List Int} {f : Nat → Nat} (h : Vn n row f) {x v : Nat} (hx : x < n) : setAt row (x : Int) (v : Int) = some (row.set x (v : Int)) ∧ Vn n (row.set x (v : Int)) fun y => if y = x then v else f y := by
  obtain ⟨s1, s2⟩ := Vec.set (z := (v : Int)) h hx
  refine ⟨s1, s2.congr fun y _ => ?_⟩
  show (if y = x then (v : Int) else (f y : Int)) = ((if y = x then v else f y : Nat) : Int)
  split <;> rfl
theorem ri_set {n : Nat} {r : Nat → Nat → Bool} {f : Nat → Nat} {x v : Nat} (hO : Or n r) (h : Ri n r f) (hv : v < n) (hb : ∀ y, y < n → (r y x = true → f y = v ∨ r (f y) v = true) ∧ (r x y = true → f y = v ∨ r v (f y) = true)) : Ri n r fun y => if y = x then v else f y := by
  refine ⟨fun y hy => ?_, fun a b e => ?_⟩
  · show (if y = x then v else f y) < n
    split
    · exact hv
    · exact h.lt y hy
  · show (if a = x then v else f a) = (if b = x then v else f b) ∨ r (if a = x then v else f a) (if b = x then v else f b) = true
    obtain ⟨ha, hbn⟩ := hO.lo _ _ e
    by_cases ea : a = x
    · subst ea
      have : b ≠ a := fun q => by subst q; rw [hO.ir] at e; cases e
      rw [if_pos rfl, if_neg this]
      exact ((hb b hbn).2 e).imp Eq.symm id
    · rw [if_neg ea]
      by_cases eb : b = x
      · subst eb
        rw [if_pos rfl]
        exact (hb a ha).1 e
      · rw [if_neg eb]
        exact h.up a b e
theorem map_ok {n : Nat} {t : List (List Bool)} {r : Nat → Nat → Bool} {s : Rd} (hn0 : 0 < n) (hn : n ≤ 1000) (h : Tb n t r) (hs : RI s) : Ok (M_law_map (t, ()) s) fun w => (∃ f, Vn n w.1 f ∧ Ri n r f) ∧ RI w.2 := by
  unfold M_law_map
  simp only [bassoc, sb, bind_id, bind_eta, h.sq.len, rng_nat (n := n) (show n ≤ 1000000 by omega)]
  have idV : Vn n (rl n) fun x => x := ⟨rl_len n, fun x hx => atI_nat? (rl_get hx)⟩
  refine .bind (P := fun q : Bool × Rd => RI q.2) (.bif (fun _ => ?_) fun _ => .one hs) fun q hq => ?_
  · exact .bind (draw_nat (m := 3) (by omega) (by omega) hs) fun r hr => .one hr.2
  refine .bind (P := fun w : Rd × List Int => (∃ f, Vn n w.2 f ∧ Ri n r f) ∧ RI w.1) (.bif (fun _ => ?_) fun _ => .one ⟨⟨_, idV, ⟨fun _ hx => hx, fun _ _ e => .inr e⟩⟩, hq⟩) fun a ha => ?_
  · refine .bind (draw_nat hn0 (by omega) hq) fun c hc => ?_
    obtain ⟨⟨v, ev, hv⟩, hc⟩ := hc
    rw [ev, repM_one (by omega)]
    refine .one ⟨⟨fun _ => v, Vec.rep, ⟨fun _ _ => hv, fun _ _ _ => .inl rfl⟩⟩, hc⟩
  · obtain ⟨hf, ha⟩ := ha
    rw [mulO_r (by omega) (by omega), sb]
    obtain ⟨m, em⟩ : ∃ m : Nat, (4 : Int) * (n : Int) + 1 = (m : Int) := ⟨4 * n + 1, by omega⟩
    rw [em]
    refine .bind (draw_nat (m := m) (by omega) (by omega) ha) fun c hc => ?_
    obtain ⟨⟨k, ek, hk⟩, hc⟩ := hc
    rw [ek, rng_nat (show k ≤ 1000000 by omega), sb]
    refine .bind (foldR_ok (fun _ (w : Rd × List Int) => (∃ f, Vn n w.2 f ∧ Ri n r f) ∧ RI w.1) ⟨hf, hc⟩ fun j w hj hw => ?_) fun w hw => .one ⟨hw.1, hw.2⟩
    obtain ⟨⟨f, hV, hR⟩, hw⟩ := hw
    refine .bind (draw_nat hn0 (by omega) hw) fun x hx => ?_
    obtain ⟨⟨x', ex, hx'⟩, hw⟩ := hx
    refine .bind (draw_nat hn0 (by omega) hw) fun v hv => ?_
    obtain ⟨⟨v', ev, hv'⟩, hw⟩ := hv
    rw [ex, ev]
    refine .bind (fits_ok hn h hV hR.lt hx' hv') fun b hb => ?_
    refine .bind (P := fun l : List Int => ∃ f, Vn n l f ∧ Ri n r f) (.bif (fun e => ?_) fun _ => .one ⟨f, hV, hR⟩) fun l hl => .one ⟨hl, hw⟩
    obtain ⟨s1, s2⟩ := hV.set (v := v') hx'
    exact .of_eq s1 ⟨_, s2, ri_set h.po hR hv' (hb e)⟩
/-- the values that are comparable -/
def Near (n : Nat) (r : Nat → Nat → Bool) (x : Nat) (l : List Int) : Prop := l.length ≤ 2 * n ∧ ∀ v ∈ l, ∃ k : Nat, v = (k : Int) ∧ k < n ∧ (r x k = true ∨ r k x = true)
theorem covers_ok {n : Nat} {t : List (List Bool)} {r : Nat → Nat → Bool} (hn : n ≤ 1000) (h : Tb n t r) : Ok (M_law_covers (t, ())) fun w => w.length = n ∧ ∀ x row, w[x]? = some row → Near n r x row := by
  unfold M_law_covers
  simp only [bassoc, sb, bind_id, h.sq.len, rng_nat (n := n) (show n ≤ 1000000 by omega)]
  refine foldR_ok (fun k (w : List (List Int)) => w.length = k ∧ ∀ x row, w[x]? = some row → Near n r x row) ⟨rfl, fun x row e => by simp at e⟩ fun k w hk hw => ?_
  obtain ⟨u, u1, _, u2⟩ := h.look hk
  rw [compM_eq (p := fun y => r k y.toNat) (g := fun y => y) (by rw [rl_len]; omega) (fun y hy => by
    obtain ⟨j, hj, rfl⟩ := rl_mem.mp hy
    rw [u1, sb, u2 j hj, Int.toNat_natCast]) (fun _ _ _ => rfl), sb, List.map_id']
  rw [compM_eq (p := fun y => r y.toNat k) (g := fun y => y) (by rw [rl_len]; omega) (fun y hy => by
    obtain ⟨j, hj, rfl⟩ := rl_mem.mp hy
    obtain ⟨q, q1, _, q2⟩ := h.look hj
    rw [q1, sb, q2 k hk, Int.toNat_natCast]) (fun _ _ _ => rfl), sb, List.map_id']
  have hP := fun p : Int → Bool => pts_filter (n := n) p
  have hl := fun p : Int → Bool => len_filter_le (n := n) p
  rw [compM_eq (p := fun y => decide ((((((rl n).filter fun y => r k y.toNat).filter fun z => r z.toNat y.toNat).length : Nat) : Int) = 0)) (g := fun y => y) (by have := hl fun y => r k y.toNat; omega) (fun y hy => by
    obtain ⟨j, rfl, hj⟩ := (hP _).lo y hy
    rw [compM_eq (p := fun z => r z.toNat j) (g := fun z => z) (by have := hl fun y => r k y.toNat; omega) (fun z hz => by
      obtain ⟨i, rfl, hi⟩ := (hP _).lo z hz
      obtain ⟨q, q1, _, q2⟩ := h.look hi
      rw [q1, sb, q2 j hj, Int.toNat_natCast]) fun _ _ _ => rfl, sb, List.map_id', Int.toNat_natCast]) (fun _ _ _ => rfl), sb, List.map_id']
  rw [compM_eq (p := fun y => decide ((((((rl n).filter fun y => r y.toNat k).filter fun z => r y.toNat z.toNat).length : Nat) : Int) = 0)) (g := fun y => y) (by have := hl fun y => r y.toNat k; omega) (fun y hy => by
    obtain ⟨j, rfl, hj⟩ := (hP _).lo y hy
    obtain ⟨q, q1, _, q2⟩ := h.look hj
    rw [q1, compM_eq (p := fun z => r j z.toNat) (g := fun z => z) (by have := hl fun y => r y.toNat k; omega) (fun z hz => by
      obtain ⟨i, rfl, hi⟩ := (hP _).lo z hz
      rw [sb, q2 i hi, Int.toNat_natCast]) fun _ _ _ => rfl, sb, List.map_id', Int.toNat_natCast]) (fun _ _ _ => rfl), sb, List.map_id']
  have l1 := hl fun y => r k y.toNat
  have l2 := hl fun y => r y.toNat k
  have l3 := List.length_filter_le (fun y : Int => decide ((((((rl n).filter fun y => r k y.toNat).filter fun z => r z.toNat y.toNat).length : Nat) : Int) = 0)) ((rl n).filter fun y => r k y.toNat)
  have l4 := List.length_filter_le (fun y : Int => decide ((((((rl n).filter fun y => r y.toNat k).filter fun z => r y.toNat z.toNat).length : Nat) : Int) = 0)) ((rl n).filter fun y => r y.toNat k)
  rw [catM_eq (by omega), sb, appM_eq (by omega)]
  refine .one ⟨by rw [List.length_append, hw.1]; rfl, fun x row e => ?_⟩
  by_cases hx : x < w.length
  · rw [List.getElem?_append_left hx] at e
    exact hw.2 x row e
  · rw [List.getElem?_append_right (by omega)] at e
    have hx' := (List.getElem?_eq_some_iff.mp e).1
    simp only [List.length_singleton] at hx'
    have ex : x = k := by omega
    subst ex
    rw [show x - w.length = 0 by omega] at e
    have e := (Option.some.inj e).symm
    subst e
    refine ⟨by rw [List.length_append]; omega, fun v hv => ?_⟩
    rcases List.mem_append.mp hv with hv | hv
    · obtain ⟨a1, a2⟩ := List.mem_filter.mp (List.mem_filter.mp hv).1
      obtain ⟨i, hi, rfl⟩ := rl_mem.mp a1
      rw [Int.toNat_natCast] at a2
      exact ⟨i, rfl, hi, .inl a2⟩
    · obtain ⟨a1, a2⟩ := List.mem_filter.mp (List.mem_filter.mp hv).1
      obtain ⟨i, hi, rfl⟩ := rl_mem.mp a1
      rw [Int.toNat_natCast] at a2
      exact ⟨i, rfl, hi, .inr a2⟩
theorem walked_ok {n c : Nat} {t : List (List Bool)} {near : List (List Int)} {r : Nat → Nat → Bool} {row : List Int} {f : Nat → Nat} {s : Rd} (hn0 : 0 < n) (hn : n ≤ 1000) (hc : c ≤ 1000) (h : Tb n t r) (hN : near.length = n ∧ ∀ x row, near[x]? = some row → Near n r x row) (hV : Vn n row f) (hR : Ri n r f) (hs : RI s) :
    Ok (M_law_walked (t, near, row, (c : Int), ()) s) fun w => (∃ g, Vn n w.1 g ∧ Ri n r g ∧ Lf n r g = Lf n r f) ∧ RI w.2 := by
  unfold M_law_walked
  simp only [bassoc, sb, bind_id, bind_eta, h.sq.len, rng_nat (n := c) (show c ≤ 1000000 by omega)]
  refine .bind (foldR_ok (fun _ (w : Rd × List Int) => (∃ g, Vn n w.2 g ∧ Ri n r g ∧ Lf n r g = Lf n r f) ∧ RI w.1) ⟨⟨f, hV, hR, rfl⟩, hs⟩ fun j w hj hw => ?_) fun w hw => .one ⟨hw.1, hw.2⟩
  obtain ⟨⟨g, hV, hR, hL⟩, hw⟩ := hw
  refine .bind (draw_nat hn0 (by omega) hw) fun x hx => ?_
  obtain ⟨⟨x', ex, hx'⟩, hw⟩ := hx
  rw [ex, hV.look x' hx', sb]
  have hgx := hR.lt x' hx'
  have hlt : g x' < near.length := by rw [hN.1]; exact hgx
  rw [atI_nat hlt, sb]
  have hnear := hN.2 _ _ (List.getElem?_eq_getElem hlt)
  generalize near[g x'] = values at hnear
  refine .bif (fun e => ?_) fun _ => .one ⟨⟨g, hV, hR, hL⟩, hw⟩
  have e := of_decide_eq_true e
  refine .bind (draw_nat (m := values.length) (by omega) (by have := hnear.1; omega) hw) fun d hd => ?_
  obtain ⟨⟨d', ed, hd'⟩, hw⟩ := hd
  rw [ed, atI_nat hd', sb]
  obtain ⟨v, ev, hv, hcmp⟩ := hnear.2 _ (List.getElem_mem hd')
  rw [ev]
  refine .bind (fits_ok hn h hV hR.lt hx' hv) fun b hb => ?_
  refine .bind (P := fun l : List Int => ∃ g, Vn n l g ∧ Ri n r g ∧ Lf n r g = Lf n r f) (.bif (fun e => ?_) fun _ => .one ⟨g, hV, hR, hL⟩) fun l hl => .one ⟨hl, hw⟩
  obtain ⟨s1, s2⟩ := hV.set (v := v) hx'
  have hR2 := ri_set h.po hR hv (hb e)
  refine .of_eq s1 ⟨_, s2, hR2, ?_⟩
  refine Eq.trans ?_ hL
  refine (fix_step (x := x') h.po hR hR2 (fun z hz => if_neg hz) ?_).symm
  show r (g x') (if x' = x' then v else g x') = true ∨ r (if x' = x' then v else g x') (g x') = true
  rw [if_pos rfl]
  exact hcmp
theorem same_int (d : Nat) (i : Int) : M_law_same (d + 1) (.int i, .int i, ()) = some true := by
  show N_law_same (M_law_same d) _ = _
  unfold N_law_same
  simp [pT, pL, pN, pS, pI, pB, eqA]
theorem same_tup {d : Nat} {xs : List PV} (hl : xs.length ≤ 1000000) (h : ∀ x ∈ xs, M_law_same d (x, x, ()) = some true) : M_law_same (d + 1) (.tup xs, .tup xs, ()) = some true := by
  show N_law_same (M_law_same d) _ = _
  unfold N_law_same
  simp only [pT, pL, cond_true, Bool.not_true, cond_false, lenA, bassoc, sb, decide_true, rng_nat (n := xs.length) hl]
  rw [loop_unit fun x hx => ?_]
  · rfl
  · obtain ⟨j, hj, rfl⟩ := rl_mem.mp hx
    simp only [ixA, atI_nat hj, sb, h _ (List.getElem_mem hj), Bool.not_true, cond_false]
theorem same_ints {xs : List Int} (hl : xs.length ≤ 1000000) : M_law_same 6 (.tup (xs.map PV.int), .tup (xs.map PV.int), ()) = some true := by
  refine same_tup (by rw [List.length_map]; exact hl) fun x hx => ?_
  obtain ⟨z, _, rfl⟩ := List.mem_map.mp hx
  exact same_int 4 z
theorem pr_len {n : Nat} {r : Nat → Nat → Bool} {ps : List (Int × Int)} (hn : n ≤ 100) (hO : Or n r) (h : Pr n r ps) : ps.length ≤ 1000000 := by
  have := nodup_len (m := (rl n).flatMap fun x => (rl n).map fun y => (x, y)) h.nd fun p hp => by
    obtain ⟨x, y, rfl, e⟩ := h.bd p hp
    obtain ⟨hx, hy⟩ := hO.lo _ _ e
    exact List.mem_flatMap.mpr ⟨_, rl_mem.mpr ⟨x, hx, rfl⟩, List.mem_map.mpr ⟨_, rl_mem.mpr ⟨y, hy, rfl⟩, rfl⟩⟩
  have h2 := flat_len' (f := fun x : Int => (rl n).map fun y : Int => (x, y)) (c := n) (l := rl n) fun x _ => by rw [List.length_map, rl_len]; exact Nat.le_refl _
  rw [rl_len] at h2
  have : n * n ≤ 100 * 100 := Nat.mul_le_mul hn hn
  omega
theorem law_ok (ns : List Int) (h : ns.length ≤ 63) : M_law (ns, ()) = some true := by
  refine Ok.eq_some ?_
  unfold M_law
  simp only [bassoc, sb, bind_id, bind_eta]
  refine .bind (tape_ok ns) fun s hs => ?_
  refine .bind (drawn_ok hs) fun d hd => ?_
  obtain ⟨⟨n, r, hn, ht⟩, hs⟩ := hd
  refine .bind (P := fun t => ∃ n r, 0 < n ∧ n ≤ 8 ∧ Tb n t r) (.bif (fun _ => .one ?_) fun e => .one ⟨n, r, ?_, hn, ht⟩) fun t ht => ?_
  · refine ⟨1, fun _ _ => false, by omega, by omega, ⟨⟨rfl, by simp⟩, fun x y hx hy => ?_, ⟨fun _ _ q => (by cases q), fun _ _ _ q => (by cases q), fun _ => rfl⟩⟩⟩
    have : x = 0 := by omega
    have : y = 0 := by omega
    subst x y
    rfl
  · have e := of_decide_eq_false e
    rw [ht.sq.len] at e
    omega
  obtain ⟨n, r, hn0, hn, ht⟩ := ht
  refine .bind (covers_ok (by omega) ht) fun near hnear => ?_
  rw [ht.sq.len]
  refine .bind (shuffled_ok (by omega) hs) fun nm hnm => ?_
  obtain ⟨hN, hs⟩ := hnm
  refine .bind (told_ok (by omega) ht hN) fun made hmade => ?_
  obtain ⟨m1, ps⟩ := made
  obtain ⟨e1, hps⟩ := hmade
  simp only at e1 hps
  subst e1
  have hlen := pr_len (by omega) (rn_or (row := nm.1) ht.po) hps
  have R := ren_of hN
  -- what is asked of a row
  have hr := rng_nat (n := n) (show n ≤ 1000000 by omega)
  have ask : ∀ row f, Vn n row f → Ri n r f → ∃ told l, M_law_named (nm.1, row, ()) = some told ∧ compM (fun x => (atI row x).bind fun v => some (decide (v = x))) (fun x => atI nm.1 x) (rl n) = some l ∧ (sortI l).length ≤ 1000000 ∧ M_lefschetz (((n : Int), ps), told, ()) = some (Lf n r f) ∧ M_fixed_points (((n : Int), ps), told, ()) = some (sortI l) := fun row f hV hR => by
    obtain ⟨told, e1, h1⟩ := named_ok (by omega) hN hV hR.lt
    have e2 := points_ok (by omega) hN hV hR.lt
    rw [hr, sb] at e2
    obtain ⟨l, e2, e3⟩ := run1 e2
    have e3 := Option.some.inj e3
    refine ⟨told, l, e1, e2, ?_, lefschetz_ok (by omega) ht.po hN hps hlen h1 hR.lt, by rw [e3]; exact fixed_ok (by omega) h1⟩
    have := len_filter_le (n := n) fun y => decide (rwv nm.1 (f (pl nm.1 y.toNat)) = y.toNat)
    rw [e3]
    omega
  rw [show rng 0 (2 : Int) = some (rl 2) from rng_nat (n := 2) (show 2 ≤ 1000000 by decide), sb]
  refine .bind (loopR_ok (fun _ s => RI s) hs fun k s _ hs => ?_) fun o ho => ?_
  · refine .bind (map_ok hn0 (by omega) ht hs) fun w hw => ?_
    obtain ⟨⟨f, hV, hR⟩, hs⟩ := hw
    rw [number_ok (by omega) ht hV, sb]
    rw [show rng 0 (4 : Int) = some (rl 4) from rng_nat (n := 4) (show 4 ≤ 1000000 by decide), sb]
    refine .bind (loopR_ok (fun _ (s : Rd × List Int) => (∃ g, Vn n s.2 g ∧ Ri n r g ∧ Lf n r g = Lf n r f) ∧ RI s.1) ⟨⟨f, hV, hR, rfl⟩, hs⟩ fun j s _ hs => ?_) fun o ho => ?_
    · obtain ⟨⟨g, hV, hR, hL⟩, hs⟩ := hs
      obtain ⟨told, pts, a1, a2, a3, a4, a5⟩ := ask _ _ hV hR
      rw [a1, sb, hr, sb, a2, sb, a4, sb, hL, same_int 5, sb]
      refine Ok.bind (P := fun b => b = false) (.bif (fun e => by cases e) fun _ => ?_) fun b hb => ?_
      · rw [a5, sb, same_ints a3, sb]
        exact .one rfl
      · rw [hb]
        refine .bif (fun e => by cases e) fun _ => ?_
        refine .bind (draw_nat (m := 10) (by omega) (by omega) hs) fun c hc => ?_
        obtain ⟨⟨c', ec, hc'⟩, hs⟩ := hc
        rw [ec, show (1 : Int) + (c' : Int) = ((1 + c' : Nat) : Int) by omega]
        refine .bind (walked_ok hn0 (by omega) (by omega) ht hnear hV hR hs) fun w hw => ?_
        obtain ⟨⟨g', hV', hR', hL'⟩, hs⟩ := hw
        exact .one ⟨_, .inl rfl, ⟨g', hV', hR', hL'.trans hL⟩, hs⟩
    · obtain ⟨s', rfl, ⟨g, hV, hR, hL⟩, hs⟩ := ho
      obtain ⟨told, pts, a1, a2, a3, a4, a5⟩ := ask _ _ hV hR
      show Ok (Option.bind _ _) _
      rw [a1, sb, hr, sb, a2, sb, a4, sb, hL, same_int 5, sb]
      refine .bif (fun e => by cases e) fun _ => ?_
      rw [a5, sb, same_ints a3, sb]
      refine .bif (fun e => by cases e) fun _ => ?_
      exact .one ⟨_, .inl rfl, hs⟩
  · obtain ⟨s', rfl, _⟩ := ho
    exact .one rfl
end K59
open PySem PySem.W PySem.Calls PyProof.Rows in
set_option maxHeartbeats 0 in
theorem PySem.Challenge.cw_chaincore_k59_whole_lefschetz_of_led_map_holds : PySem.Challenge.rw_chaincore_k59_whole_lefschetz_of_led_map.Holds := by
  w_on; o_law
  refine HandSHeadRun.head_any (r := OpenLaw.row PySem.Challenge.rw_chaincore_k59_whole_lefschetz_of_led_map) (q := view (OpenLaw.row PySem.Challenge.rw_chaincore_k59_whole_lefschetz_of_led_map).prog [24]) (H := K59.hk) (ob := K59.ob) (M := 3000) (loose := K59.loose) (d := HandSHeadRun.topDef (OpenLaw.row PySem.Challenge.rw_chaincore_k59_whole_lefschetz_of_led_map).prog 24) (kwd := []) K59.ob_eq
    (by kernel_rfl) (fun s => by kernel_rfl) K59.run (by kernel_rfl) (by kernel_rfl) (by kernel_rfl) (by rfl) (by first | assumption | decide +kernel) (by decide +kernel) ⟨rfl, rfl, rfl, rfl, rfl, by decide +kernel⟩ ?hw ?hc
  case hw => w_witness2
  case hc =>
    refine L2.walk_ofE (l := PySem.Challenge.rw_chaincore_k59_whole_lefschetz_of_led_map) (n := 63) (k := 8) (x := "script") (CX := L2.CX0) rfl (by decide) (by kernel_rfl) ⟨rfl, by decide, by decide⟩ ?F (fun _ _ _ _ z => z)
    intro w mg fa h Y G hmg0
    obtain ⟨K, KX, c⟩ := Y
    have hmg : mg ("law" : PySem.Str) = some (.ref fa) := by
      have e : (HandSHeadRun.topDef (OpenLaw.row PySem.Challenge.rw_chaincore_k59_whole_lefschetz_of_led_map).prog 24).name = ("law" : PySem.Str) := by kernel_rfl
      rw [← e]
      exact hmg0
    obtain ⟨fd, hb, hF⟩ := K59.facts (P := (PySem.Challenge.rw_chaincore_k59_whole_lefschetz_of_led_map).prog) (w := w) KX G hmg c
    exact ⟨K, fd, _, KX, hb, fun H a ns hl _ hS => CC.law_in hS (K59.law_ok ns hl), hF⟩
