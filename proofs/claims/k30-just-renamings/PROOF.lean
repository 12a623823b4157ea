import PyProof.Rows.All
import Wide.All
import OpenK.AllK
import Wide.FinOn
import HandS.ForMost
import HandS.Wide
import HandS.Exc
import HandS.ExcOwn
import HandS.TryOnly
import HandS.Dict
import HandS.IsInst
import HandS.SortRule
import HandS.Conv
import HandS.Style
import HandS.Defaults
import HandS.Small
import HandS.HeadHook1
import HandS.TupAny
import HandS.WordsDict
import HandS.MakeKwOnly
import HandS.SortInts
import HandS.HeadHook2
import HandS.Head2
import HandS.HeadEnd
import HandS.ExcIs
import KE.KExcIs
import KE.GoesMore
import KE.GoesEnum
import HandS.Iter
import HandS.WideBits
import HandS.More
import HandS.TupLe
import HandS.SetFor
import PyProof.AutoSeq1
import KE.KRevSl
import HandS.ExcInit
import HandS.Nested
import KE.KExcSuper
import KE.KSuper
import HandS.ExcField
import KE.KTupSum
import HandS.DictComp
import HandS.Flow
import HandS.Zip
import KE.GoesZip
import HandS.TupMul
import KE.KBits
import PySem.Challenge.RW_chaincore_k30_just_renamings
set_option Elab.async false
set_option linter.all false
set_option maxRecDepth 100000
set_option maxHeartbeats 4000000
/-! A logic over the hand layer: worlds, what is shared, what is owned, and how a piece of Python follows its mirror. -/
namespace CC
open PySem PySem.Spec L2
open PyProof.Rows hiding St
/-! ### worlds -/
/-- the tracked heap, and the part of it that nobody changes any more -/
structure Wd where
  H : Hp
  B : Hp
def Ex (H H' : Hp) : Prop := ∀ a o, H a = some o → H' a = some o
theorem Ex.refl (H : Hp) : Ex H H := fun _ _ h => h
theorem Ex.trans {H H1 H2 : Hp} (a : Ex H H1) (b : Ex H1 H2) : Ex H H2 := fun x o h => b x o (a x o h)
theorem Ex.new {H : Hp} {p : Addr} {o : HO} (h : H p = none) : Ex H (upd H p o) := fun a u e => by
  rw [upd_ne (ne_of_none e h)]
  exact e
theorem Ex.ne {H H' : Hp} {a : Addr} (e : Ex H H') (h : H a ≠ none) : H' a ≠ none := by
  cases q : H a with
  | none => exact absurd q h
  | some o =>
    rw [e a o q]
    exact fun z => nomatch z
theorem Ex.eq {H H' : Hp} {a : Addr} (e : Ex H H') (h : H a ≠ none) : H' a = H a := by
  cases q : H a with
  | none => exact absurd q h
  | some o => exact e a o q
theorem Ex.back {H H' : Hp} {p : Addr} (e : Ex H H') (h : H' p = none) : H p = none := by
  cases h1 : H p with
  | none => rfl
  | some o =>
    rw [e p o h1] at h
    cases h
/-- things are added, nothing changes -/
structure Ext (W W' : Wd) : Prop where
  ok : Ex W'.B W'.H
  h : Ex W.H W'.H
  b : Ex W.B W'.B
  fr : ∀ a, W.H a ≠ none → W.B a = none → W'.B a = none
theorem Ext.refl {W : Wd} (ok : Ex W.B W.H) : Ext W W := ⟨ok, Ex.refl _, Ex.refl _, fun _ _ h => h⟩
theorem Ext.trans {W W1 W2 : Wd} (a : Ext W W1) (b : Ext W1 W2) : Ext W W2 :=
  ⟨b.ok, a.h.trans b.h, a.b.trans b.b, fun x h1 h2 => b.fr x (a.h.ne h1) (a.fr x h1 h2)⟩
/-- a new object, owned -/
theorem Ext.new {W : Wd} (ok : Ex W.B W.H) {p : Addr} {o : HO} (h : W.H p = none) : Ext W ⟨upd W.H p o, W.B⟩ :=
  ⟨ok.trans (Ex.new h), Ex.new h, Ex.refl _, fun _ _ h => h⟩
/-- a new object, shared -/
theorem Ext.newB {W : Wd} (ok : Ex W.B W.H) {p : Addr} {o : HO} (h : W.H p = none) : Ext W ⟨upd W.H p o, upd W.B p o⟩ := by
  refine ⟨fun a u e => ?_, Ex.new h, Ex.new (ok.back h), fun a h1 h2 => ?_⟩
  · by_cases z : a = p
    · subst z
      have e1 : upd W.B a o a = some u := e
      show upd W.H a o a = some u
      rw [upd_same] at e1 ⊢
      exact e1
    · have e' : W.B a = some u := by rw [← e]; exact (upd_ne z).symm
      show upd W.H p o a = some u
      rw [upd_ne z]
      exact ok a u e'
  · have z : a ≠ p := fun z => h1 (z ▸ h)
    show upd W.B p o a = none
    rw [upd_ne z]
    exact h2
/-- what is owned at F may change; F' is owned behind -/
structure Stp (W : Wd) (F : List Addr) (W' : Wd) (F' : List Addr) : Prop where
  ok : Ex W'.B W'.H
  b : Ex W.B W'.B
  h : ∀ a o, W.H a = some o → a ∉ F → W'.H a = some o
  al : ∀ a, W.H a ≠ none → W'.H a ≠ none
  fr : ∀ a, W.H a ≠ none → W.B a = none → a ∉ F → W'.B a = none
  fp : ∀ a ∈ F', a ∈ F ∨ W.H a = none
theorem Stp.refl {W : Wd} {F : List Addr} (ok : Ex W.B W.H) : Stp W F W F :=
  ⟨ok, Ex.refl _, fun _ _ h _ => h, fun _ h => h, fun _ _ h _ => h, fun _ h => .inl h⟩
theorem Stp.trans {W W1 W2 : Wd} {F F1 F2 : List Addr} (a : Stp W F W1 F1) (b : Stp W1 F1 W2 F2) : Stp W F W2 F2 where
  ok := b.ok
  b := a.b.trans b.b
  h := fun x o h n => b.h x o (a.h x o h n) fun z => by
    rcases a.fp x z with z | z
    · exact n z
    · rw [h] at z; cases z
  al := fun x h => b.al x (a.al x h)
  fr := fun x h1 h2 n => b.fr x (a.al x h1) (a.fr x h1 h2 n) fun z => by
    rcases a.fp x z with z | z
    · exact n z
    · exact h1 z
  fp := fun x hx => by
    rcases b.fp x hx with z | z
    · exact a.fp x z
    · refine .inr ?_
      cases q : W.H x with
      | none => rfl
      | some o => exact absurd z (a.al x (by rw [q]; exact fun z => nomatch z))
theorem Stp.perm {W W1 : Wd} {F F1 F2 : List Addr} (a : Stp W F W1 F1) (p : ∀ x ∈ F2, x ∈ F1) : Stp W F W1 F2 :=
  ⟨a.ok, a.b, a.h, a.al, a.fr, fun x h => a.fp x (p x h)⟩
theorem Stp.permL {W W1 : Wd} {F F0 F1 : List Addr} (a : Stp W F W1 F1) (p : ∀ x ∈ F, x ∈ F0) : Stp W F0 W1 F1 :=
  ⟨a.ok, a.b, fun x o h n => a.h x o h fun z => n (p x z), a.al, fun x h1 h2 n => a.fr x h1 h2 fun z => n (p x z), fun x h => (a.fp x h).imp (p x) id⟩
theorem Ext.stp {W W' : Wd} {F Fv : List Addr} (e : Ext W W') (fresh : ∀ a ∈ Fv, W.H a = none) : Stp W F W' (F ++ Fv) :=
  ⟨e.ok, e.b, fun x o h _ => e.h x o h, fun x h => e.h.ne h, fun x h1 h2 _ => e.fr x h1 h2, fun x hx => (List.mem_append.mp hx).imp id (fresh x)⟩
/-- with nothing owned a step only adds -/
theorem Stp.ext {W W' : Wd} {F' : List Addr} (s : Stp W [] W' F') : Ext W W' ∧ ∀ a ∈ F', W.H a = none :=
  ⟨⟨s.ok, fun a o h => s.h a o h (by simp), s.b, fun a h1 h2 => s.fr a h1 h2 (by simp)⟩, fun a ha => (s.fp a ha).resolve_left (by simp)⟩
/-! ### footprints -/
structure FpOk (W : Wd) (F : List Addr) : Prop where
  nd : F.Nodup
  al : ∀ a ∈ F, W.H a ≠ none
  fr : ∀ a ∈ F, W.B a = none
theorem FpOk.nil {W : Wd} : FpOk W [] := ⟨List.nodup_nil, fun _ h => (List.not_mem_nil h).elim, fun _ h => (List.not_mem_nil h).elim⟩
theorem FpOk.perm {W : Wd} {F F' : List Addr} (f : FpOk W F) (p : F.Perm F') : FpOk W F' :=
  ⟨p.nodup_iff.mp f.nd, fun a h => f.al a (p.mem_iff.mpr h), fun a h => f.fr a (p.mem_iff.mpr h)⟩
theorem FpOk.ext {W W' : Wd} {F : List Addr} (f : FpOk W F) (e : Ext W W') : FpOk W' F :=
  ⟨f.nd, fun a h => e.h.ne (f.al a h), fun a h => e.fr a (f.al a h) (f.fr a h)⟩
theorem FpOk.left {W : Wd} {F F' : List Addr} (f : FpOk W (F ++ F')) : FpOk W F :=
  ⟨(List.nodup_append.mp f.nd).1, fun a h => f.al a (List.mem_append_left _ h), fun a h => f.fr a (List.mem_append_left _ h)⟩
theorem FpOk.right {W : Wd} {F F' : List Addr} (f : FpOk W (F ++ F')) : FpOk W F' :=
  ⟨(List.nodup_append.mp f.nd).2.1, fun a h => f.al a (List.mem_append_right _ h), fun a h => f.fr a (List.mem_append_right _ h)⟩
theorem FpOk.disj {W : Wd} {F F' : List Addr} (f : FpOk W (F ++ F')) : ∀ a ∈ F, a ∉ F' := fun a h h' =>
  (List.nodup_append.mp f.nd).2.2 a h a h' rfl
theorem FpOk.app {W : Wd} {F F' : List Addr} (f : FpOk W F) (f' : FpOk W F') (d : ∀ a ∈ F, a ∉ F') : FpOk W (F ++ F') :=
  ⟨List.nodup_append.mpr ⟨f.nd, f'.nd, fun a h b h' e => d a h (e ▸ h')⟩, fun a h => (List.mem_append.mp h).elim (f.al a) (f'.al a), fun a h => (List.mem_append.mp h).elim (f.fr a) (f'.fr a)⟩
/-- an extension's new owned things stand apart from the old -/
theorem FpOk.fresh {W W' : Wd} {F Fv : List Addr} (f : FpOk W F) (e : Ext W W') (fv : FpOk W' Fv) (n : ∀ a ∈ Fv, W.H a = none) : FpOk W' (F ++ Fv) :=
  (f.ext e).app fv fun a h h' => f.al a h (n a h')
/-! ### descriptions -/
/-- a shared thing, described over the part that stands still -/
structure SP where
  P : Hp → V → Prop
  mono : ∀ {B B' v}, P B v → Ex B B' → P B' v
/-- a thing with what is owned of it -/
structure OP where
  C : Wd → V → List Addr → Prop
  loc : ∀ {W W' v F}, C W v F → Ex W.B W'.B → (∀ a ∈ F, W'.H a = W.H a) → C W' v F
def sh (p : SP) : OP := ⟨fun W v F => F = [] ∧ p.P W.B v, fun h e _ => ⟨h.1, p.mono h.2 e⟩⟩
theorem OP.ext (o : OP) {W W' : Wd} {v : V} {F : List Addr} (h : o.C W v F) (e : Ext W W') (f : FpOk W F) : o.C W' v F := o.loc h e.b fun a ha => e.h.eq (f.al a ha)
def intS (i : Int) : SP := ⟨fun _ v => v = .int i, fun h _ => h⟩
def boolS (b : Bool) : SP := ⟨fun _ v => v = .bl b, fun h _ => h⟩
def strS (z : Str) : SP := ⟨fun _ v => v = .str z, fun h _ => h⟩
def nonS : SP := ⟨fun _ v => v = .non, fun h _ => h⟩
def valS (x : V) : SP := ⟨fun _ v => v = x, fun h _ => h⟩
def optS {α : Type} (E : α → SP) : Option α → SP
  | none => nonS
  | some x => E x
/-- values one by one -/
def Each {α : Type} (E : α → SP) (B : Hp) : List V → List α → Prop
  | [], [] => True
  | v :: vs, x :: xs => (E x).P B v ∧ Each E B vs xs
  | _, _ => False
theorem Each.mono {α : Type} {E : α → SP} {B B' : Hp} (e : Ex B B') : ∀ {vs : List V} {xs : List α}, Each E B vs xs → Each E B' vs xs
  | [], [], _ => trivial
  | _ :: _, _ :: _, h => ⟨SP.mono _ h.1 e, Each.mono e h.2⟩
  | [], _ :: _, h => h.elim
  | _ :: _, [], h => h.elim
theorem Each.len {α : Type} {E : α → SP} {B : Hp} : ∀ {vs : List V} {xs : List α}, Each E B vs xs → vs.length = xs.length
  | [], [], _ => rfl
  | _ :: _, _ :: _, h => by rw [List.length_cons, List.length_cons, Each.len h.2]
  | [], _ :: _, h => h.elim
  | _ :: _, [], h => h.elim
theorem Each.get {α : Type} {E : α → SP} {B : Hp} : ∀ {vs : List V} {xs : List α} {i : Nat} {x : α}, Each E B vs xs → xs[i]? = some x → ∃ v, vs[i]? = some v ∧ (E x).P B v
  | [], [], i, x, _, e => by simp at e
  | v :: vs, y :: xs, 0, x, h, e => by
    have : y = x := by simpa using e
    subst this
    exact ⟨v, rfl, h.1⟩
  | v :: vs, y :: xs, i + 1, x, h, e => by
    obtain ⟨u, h1, h2⟩ := Each.get (i := i) h.2 (by simpa using e)
    exact ⟨u, by simpa using h1, h2⟩
  | [], _ :: _, _, _, h, _ => h.elim
  | _ :: _, [], _, _, h, _ => h.elim
theorem Each.app {α : Type} {E : α → SP} {B : Hp} : ∀ {vs us : List V} {xs ys : List α}, Each E B vs xs → Each E B us ys → Each E B (vs ++ us) (xs ++ ys)
  | [], _, [], _, _, k => k
  | _ :: _, _, _ :: _, _, h, k => ⟨h.1, Each.app h.2 k⟩
  | [], _, _ :: _, _, h, _ => h.elim
  | _ :: _, _, [], _, h, _ => h.elim
theorem Each.take {α : Type} {E : α → SP} {B : Hp} : ∀ {vs : List V} {xs : List α} (n : Nat), Each E B vs xs → Each E B (vs.take n) (xs.take n)
  | [], [], _, _ => by simp [Each]
  | _ :: _, _ :: _, 0, _ => trivial
  | _ :: _, _ :: _, n + 1, h => ⟨h.1, Each.take n h.2⟩
  | [], _ :: _, _, h => h.elim
  | _ :: _, [], _, h => h.elim
theorem Each.drop {α : Type} {E : α → SP} {B : Hp} : ∀ {vs : List V} {xs : List α} (n : Nat), Each E B vs xs → Each E B (vs.drop n) (xs.drop n)
  | [], [], _, _ => by simp [Each]
  | _ :: _, _ :: _, 0, h => h
  | _ :: _, _ :: _, n + 1, h => Each.drop n h.2
  | [], _ :: _, _, h => h.elim
  | _ :: _, [], _, h => h.elim
theorem Each.set {α : Type} {E : α → SP} {B : Hp} {v : V} {x : α} (hv : (E x).P B v) : ∀ {vs : List V} {xs : List α} (i : Nat), Each E B vs xs → Each E B (vs.set i v) (xs.set i x)
  | [], [], _, _ => by simp [Each]
  | _ :: _, _ :: _, 0, h => ⟨hv, h.2⟩
  | _ :: _, _ :: _, n + 1, h => ⟨h.1, Each.set hv n h.2⟩
  | [], _ :: _, _, h => h.elim
  | _ :: _, [], _, h => h.elim
theorem Each.eraseIdx {α : Type} {E : α → SP} {B : Hp} : ∀ {vs : List V} {xs : List α} (i : Nat), Each E B vs xs → Each E B (vs.eraseIdx i) (xs.eraseIdx i)
  | [], [], _, _ => by simp [Each]
  | _ :: _, _ :: _, 0, h => h.2
  | _ :: _, _ :: _, n + 1, h => ⟨h.1, Each.eraseIdx n h.2⟩
  | [], _ :: _, _, h => h.elim
  | _ :: _, [], _, h => h.elim
theorem Each.rev {α : Type} {E : α → SP} {B : Hp} : ∀ {vs : List V} {xs : List α}, Each E B vs xs → Each E B vs.reverse xs.reverse
  | [], [], _ => by simp [Each]
  | v :: vs, x :: xs, h => by
    rw [List.reverse_cons, List.reverse_cons]
    exact Each.app (Each.rev h.2) ⟨h.1, trivial⟩
  | [], _ :: _, h => h.elim
  | _ :: _, [], h => h.elim
theorem Each.imp {α β : Type} {E : α → SP} {G : β → SP} {B : Hp} (f : α → β) (hf : ∀ x v, (E x).P B v → (G (f x)).P B v) : ∀ {vs : List V} {xs : List α}, Each E B vs xs → Each G B vs (xs.map f)
  | [], [], _ => trivial
  | _ :: _, _ :: _, h => ⟨hf _ _ h.1, Each.imp f hf h.2⟩
  | [], _ :: _, h => h.elim
  | _ :: _, [], h => h.elim
/-- a list, a tuple that stand still -/
def lstS {α : Type} (E : α → SP) (xs : List α) : SP := ⟨fun B v => ∃ a vs, v = .ref a ∧ B a = some (.lst vs) ∧ Each E B vs xs, fun h e => by
  obtain ⟨a, vs, h1, h2, h3⟩ := h
  exact ⟨a, vs, h1, e a _ h2, h3.mono e⟩⟩
def tupS {α : Type} (E : α → SP) (xs : List α) : SP := ⟨fun B v => ∃ a vs, v = .ref a ∧ B a = some (.tup vs) ∧ Each E B vs xs, fun h e => by
  obtain ⟨a, vs, h1, h2, h3⟩ := h
  exact ⟨a, vs, h1, e a _ h2, h3.mono e⟩⟩
/-- the script -/
def scrS (K : PySem.W.Frag) (ns : List Int) : SP := ⟨fun B v => ∃ a, v = .ref a ∧ SqL K B a (ns.map V.int), fun h e => by
  obtain ⟨a, h1, h2⟩ := h
  refine ⟨a, h1, ?_⟩
  rcases h2 with (h | ⟨o, h⟩) | h
  · exact .inl (.inl (e _ _ h))
  · exact .inl (.inr ⟨o, e _ _ h⟩)
  · exact .inr h⟩
/-- things of several kinds, one by one -/
def Hets (B : Hp) : List V → List SP → Prop
  | [], [] => True
  | v :: vs, p :: ps => p.P B v ∧ Hets B vs ps
  | _, _ => False
theorem Hets.mono {B B' : Hp} (e : Ex B B') : ∀ {vs : List V} {ps : List SP}, Hets B vs ps → Hets B' vs ps
  | [], [], _ => trivial
  | _ :: _, _ :: _, h => ⟨SP.mono _ h.1 e, Hets.mono e h.2⟩
  | [], _ :: _, h => h.elim
  | _ :: _, [], h => h.elim
theorem Hets.len {B : Hp} : ∀ {vs : List V} {ps : List SP}, Hets B vs ps → vs.length = ps.length
  | [], [], _ => rfl
  | _ :: _, _ :: _, h => by rw [List.length_cons, List.length_cons, Hets.len h.2]
  | [], _ :: _, h => h.elim
  | _ :: _, [], h => h.elim
theorem Hets.get {B : Hp} : ∀ {vs : List V} {ps : List SP} {i : Nat} {p : SP}, Hets B vs ps → ps[i]? = some p → ∃ v, vs[i]? = some v ∧ p.P B v
  | [], [], i, x, _, e => by simp at e
  | v :: vs, y :: xs, 0, x, h, e => by
    have : y = x := by simpa using e
    subst this
    exact ⟨v, rfl, h.1⟩
  | v :: vs, y :: xs, i + 1, x, h, e => by
    obtain ⟨u, h1, h2⟩ := Hets.get (i := i) h.2 (by simpa using e)
    exact ⟨u, by simpa using h1, h2⟩
  | [], _ :: _, _, _, h, _ => h.elim
  | _ :: _, [], _, _, h, _ => h.elim
theorem Hets.set {B : Hp} {v : V} {p : SP} (hv : p.P B v) : ∀ {vs : List V} {ps : List SP} (i : Nat), Hets B vs ps → Hets B (vs.set i v) (ps.set i p)
  | [], [], _, _ => by simp [Hets]
  | _ :: _, _ :: _, 0, h => ⟨hv, h.2⟩
  | _ :: _, _ :: _, n + 1, h => ⟨h.1, Hets.set hv n h.2⟩
  | [], _ :: _, _, h => h.elim
  | _ :: _, [], _, h => h.elim
def htupS (ps : List SP) : SP := ⟨fun B v => ∃ a vs, v = .ref a ∧ B a = some (.tup vs) ∧ Hets B vs ps, fun h e => by
  obtain ⟨a, vs, h1, h2, h3⟩ := h
  exact ⟨a, vs, h1, e a _ h2, h3.mono e⟩⟩
def hlstS (ps : List SP) : SP := ⟨fun B v => ∃ a vs, v = .ref a ∧ B a = some (.lst vs) ∧ Hets B vs ps, fun h e => by
  obtain ⟨a, vs, h1, h2, h3⟩ := h
  exact ⟨a, vs, h1, e a _ h2, h3.mono e⟩⟩
/-- a pair -/
def prS {α β : Type} (E : α → SP) (G : β → SP) (p : α × β) : SP := htupS [E p.1, G p.2]
/-! ### owned things, one by one -/
def Owns {α : Type} (E : α → OP) (W : Wd) : List V → List α → List Addr → Prop
  | [], [], F => F = []
  | v :: vs, x :: xs, F => ∃ F1 F2, F = F1 ++ F2 ∧ (E x).C W v F1 ∧ Owns E W vs xs F2
  | _, _, _ => False
theorem Owns.loc {α : Type} {E : α → OP} {W W' : Wd} (e : Ex W.B W'.B) : ∀ {vs : List V} {xs : List α} {F : List Addr}, Owns E W vs xs F → (∀ a ∈ F, W'.H a = W.H a) → Owns E W' vs xs F
  | [], [], _, h, _ => h
  | _ :: _, _ :: _, _, ⟨F1, F2, h1, h2, h3⟩, k => by
    subst h1
    exact ⟨F1, F2, rfl, OP.loc _ h2 e fun a ha => k a (List.mem_append_left _ ha), Owns.loc e h3 fun a ha => k a (List.mem_append_right _ ha)⟩
  | [], _ :: _, _, h, _ => h.elim
  | _ :: _, [], _, h, _ => h.elim
theorem Owns.len {α : Type} {E : α → OP} {W : Wd} : ∀ {vs : List V} {xs : List α} {F : List Addr}, Owns E W vs xs F → vs.length = xs.length
  | [], [], _, _ => rfl
  | _ :: _, _ :: _, _, ⟨_, _, _, _, h⟩ => by rw [List.length_cons, List.length_cons, Owns.len h]
  | [], _ :: _, _, h => h.elim
  | _ :: _, [], _, h => h.elim
theorem Owns.app {α : Type} {E : α → OP} {W : Wd} : ∀ {vs us : List V} {xs ys : List α} {F G : List Addr}, Owns E W vs xs F → Owns E W us ys G → Owns E W (vs ++ us) (xs ++ ys) (F ++ G)
  | [], _, [], _, _, _, h, k => by
    subst h
    exact k
  | _ :: _, _, _ :: _, _, _, _, ⟨F1, F2, h1, h2, h3⟩, k => by
    subst h1
    exact ⟨F1, F2 ++ _, List.append_assoc _ _ _, h2, Owns.app h3 k⟩
  | [], _, _ :: _, _, _, _, h, _ => h.elim
  | _ :: _, _, [], _, _, _, h, _ => h.elim
/-- the item at a place, and what may stand there instead -/
theorem Owns.at {α : Type} {E : α → OP} {W : Wd} : ∀ {vs : List V} {xs : List α} {F : List Addr} {i : Nat} {x : α}, Owns E W vs xs F → xs[i]? = some x →
    ∃ v F1 F2, vs[i]? = some v ∧ (E x).C W v F1 ∧ F.Perm (F1 ++ F2) ∧ ∀ (W' : Wd) (x' : α) (v' : V) (F1' : List Addr), Ex W.B W'.B → (∀ a ∈ F2, W'.H a = W.H a) → (E x').C W' v' F1' →
      ∃ F', Owns E W' (vs.set i v') (xs.set i x') F' ∧ F'.Perm (F1' ++ F2)
  | [], [], _, _, _, _, e => by simp at e
  | v :: vs, y :: xs, _, 0, x, ⟨F1, F2, h1, h2, h3⟩, e => by
    have : y = x := by simpa using e
    subst this h1
    refine ⟨v, F1, F2, rfl, h2, .refl _, fun W' x' v' F1' eb hk hc => ⟨F1' ++ F2, ⟨F1', F2, rfl, hc, h3.loc eb hk⟩, .refl _⟩⟩
  | v :: vs, y :: xs, _, i + 1, x, ⟨F1, F2, h1, h2, h3⟩, e => by
    subst h1
    obtain ⟨u, G1, G2, a1, a2, a3, a4⟩ := Owns.at (i := i) h3 (by simpa using e)
    refine ⟨u, G1, F1 ++ G2, by simpa using a1, a2, ?_, fun W' x' v' F1' eb hk hc => ?_⟩
    · refine (List.Perm.append_left F1 a3).trans ?_
      rw [← List.append_assoc, ← List.append_assoc]
      exact List.Perm.append_right G2 List.perm_append_comm
    · obtain ⟨F', b1, b2⟩ := a4 W' x' v' F1' eb (fun a ha => hk a (List.mem_append_right _ ha)) hc
      refine ⟨F1 ++ F', ⟨F1, F', rfl, OP.loc _ h2 eb fun a ha => hk a (List.mem_append_left _ ha), b1⟩, ?_⟩
      refine (List.Perm.append_left F1 b2).trans ?_
      rw [← List.append_assoc, ← List.append_assoc]
      exact List.Perm.append_right G2 List.perm_append_comm
  | [], _ :: _, _, _, _, h, _ => h.elim
  | _ :: _, [], _, _, _, h, _ => h.elim
theorem Owns.of_each {α : Type} {E : α → SP} {W : Wd} : ∀ {vs : List V} {xs : List α}, Each E W.B vs xs → Owns (fun x => sh (E x)) W vs xs []
  | [], [], _ => rfl
  | _ :: _, _ :: _, h => ⟨[], [], rfl, ⟨rfl, h.1⟩, Owns.of_each h.2⟩
  | [], _ :: _, h => h.elim
  | _ :: _, [], h => h.elim
theorem Owns.each {α : Type} {E : α → SP} {W : Wd} : ∀ {vs : List V} {xs : List α} {F : List Addr}, Owns (fun x => sh (E x)) W vs xs F → F = [] ∧ Each E W.B vs xs
  | [], [], _, h => ⟨h, trivial⟩
  | _ :: _, _ :: _, _, ⟨F1, F2, h1, ⟨h2, h2'⟩, h3⟩ => by
    obtain ⟨e, h4⟩ := Owns.each h3
    subst e h2
    exact ⟨h1, h2', h4⟩
  | [], _ :: _, _, h => h.elim
  | _ :: _, [], _, h => h.elim
/-- a list of one's own -/
def lstO {α : Type} (E : α → OP) (xs : List α) : OP := ⟨fun W v F => ∃ a vs F2, v = .ref a ∧ W.H a = some (.lst vs) ∧ F = a :: F2 ∧ Owns E W vs xs F2, fun h e k => by
  obtain ⟨a, vs, F2, h1, h2, h3, h4⟩ := h
  subst h3
  exact ⟨a, vs, F2, h1, (k a List.mem_cons_self).trans h2, rfl, h4.loc e fun b hb => k b (List.mem_cons_of_mem _ hb)⟩⟩
/-- owned things of several kinds -/
def HetO (W : Wd) : List V → List OP → List Addr → Prop
  | [], [], F => F = []
  | v :: vs, p :: ps, F => ∃ F1 F2, F = F1 ++ F2 ∧ p.C W v F1 ∧ HetO W vs ps F2
  | _, _, _ => False
theorem HetO.loc {W W' : Wd} (e : Ex W.B W'.B) : ∀ {vs : List V} {xs : List OP} {F : List Addr}, HetO W vs xs F → (∀ a ∈ F, W'.H a = W.H a) → HetO W' vs xs F
  | [], [], _, h, _ => h
  | _ :: _, _ :: _, _, ⟨F1, F2, h1, h2, h3⟩, k => by
    subst h1
    exact ⟨F1, F2, rfl, OP.loc _ h2 e fun a ha => k a (List.mem_append_left _ ha), HetO.loc e h3 fun a ha => k a (List.mem_append_right _ ha)⟩
  | [], _ :: _, _, h, _ => h.elim
  | _ :: _, [], _, h, _ => h.elim
theorem HetO.len {W : Wd} : ∀ {vs : List V} {xs : List OP} {F : List Addr}, HetO W vs xs F → vs.length = xs.length
  | [], [], _, _ => rfl
  | _ :: _, _ :: _, _, ⟨_, _, _, _, h⟩ => by rw [List.length_cons, List.length_cons, HetO.len h]
  | [], _ :: _, _, h => h.elim
  | _ :: _, [], _, h => h.elim
theorem HetO.at {W : Wd} : ∀ {vs : List V} {xs : List OP} {F : List Addr} {i : Nat} {x : OP}, HetO W vs xs F → xs[i]? = some x →
    ∃ v F1 F2, vs[i]? = some v ∧ x.C W v F1 ∧ F.Perm (F1 ++ F2) ∧ ∀ (W' : Wd) (x' : OP) (v' : V) (F1' : List Addr), Ex W.B W'.B → (∀ a ∈ F2, W'.H a = W.H a) → x'.C W' v' F1' →
      ∃ F', HetO W' (vs.set i v') (xs.set i x') F' ∧ F'.Perm (F1' ++ F2)
  | [], [], _, _, _, _, e => by simp at e
  | v :: vs, y :: xs, _, 0, x, ⟨F1, F2, h1, h2, h3⟩, e => by
    have : y = x := by simpa using e
    subst this h1
    refine ⟨v, F1, F2, rfl, h2, .refl _, fun W' x' v' F1' eb hk hc => ⟨F1' ++ F2, ⟨F1', F2, rfl, hc, h3.loc eb hk⟩, .refl _⟩⟩
  | v :: vs, y :: xs, _, i + 1, x, ⟨F1, F2, h1, h2, h3⟩, e => by
    subst h1
    obtain ⟨u, G1, G2, a1, a2, a3, a4⟩ := HetO.at (i := i) h3 (by simpa using e)
    refine ⟨u, G1, F1 ++ G2, by simpa using a1, a2, ?_, fun W' x' v' F1' eb hk hc => ?_⟩
    · refine (List.Perm.append_left F1 a3).trans ?_
      rw [← List.append_assoc, ← List.append_assoc]
      exact List.Perm.append_right G2 List.perm_append_comm
    · obtain ⟨F', b1, b2⟩ := a4 W' x' v' F1' eb (fun a ha => hk a (List.mem_append_right _ ha)) hc
      refine ⟨F1 ++ F', ⟨F1, F', rfl, OP.loc _ h2 eb fun a ha => hk a (List.mem_append_left _ ha), b1⟩, ?_⟩
      refine (List.Perm.append_left F1 b2).trans ?_
      rw [← List.append_assoc, ← List.append_assoc]
      exact List.Perm.append_right G2 List.perm_append_comm
  | [], _ :: _, _, _, _, h, _ => h.elim
  | _ :: _, [], _, _, _, h, _ => h.elim
def hetO (ps : List OP) : OP := ⟨fun W v F => ∃ a vs F2, v = .ref a ∧ W.H a = some (.lst vs) ∧ F = a :: F2 ∧ HetO W vs ps F2, fun h e k => by
  obtain ⟨a, vs, F2, h1, h2, h3, h4⟩ := h
  subst h3
  exact ⟨a, vs, F2, h1, (k a List.mem_cons_self).trans h2, rfl, h4.loc e fun b hb => k b (List.mem_cons_of_mem _ hb)⟩⟩
/-! ### the slots -/
abbrev Ctx := List (Option OP)
def Holds : Ctx → St → Wd → List Addr → Prop
  | [], _, _, F => F = []
  | none :: Γ, σ, W, F => Holds Γ σ.tail W F
  | some o :: Γ, σ, W, F => ∃ v F1 F2, σ.head? = some (some v) ∧ F = F1 ++ F2 ∧ o.C W v F1 ∧ Holds Γ σ.tail W F2
theorem Holds.loc {W W' : Wd} (e : Ex W.B W'.B) : ∀ {Γ : Ctx} {σ : St} {F : List Addr}, Holds Γ σ W F → (∀ a ∈ F, W'.H a = W.H a) → Holds Γ σ W' F
  | [], _, _, h, _ => h
  | none :: Γ, σ, F, h, k => Holds.loc e (Γ := Γ) (σ := σ.tail) (F := F) h k
  | some o :: Γ, σ, _, ⟨v, F1, F2, h1, h2, h3, h4⟩, k => by
    subst h2
    exact ⟨v, F1, F2, h1, rfl, o.loc h3 e fun a ha => k a (List.mem_append_left _ ha), Holds.loc e (Γ := Γ) h4 fun a ha => k a (List.mem_append_right _ ha)⟩
/-- the entry at a place, and what may stand there instead -/
theorem Holds.at {W : Wd} : ∀ {Γ : Ctx} {σ : St} {F : List Addr} {i : Nat} {o : OP}, Holds Γ σ W F → Γ[i]? = some (some o) →
    ∃ v F1 F2, σ[i]? = some (some v) ∧ o.C W v F1 ∧ F.Perm (F1 ++ F2) ∧ ∀ (W' : Wd) (o' : OP) (v' : V) (F1' : List Addr), Ex W.B W'.B → (∀ a ∈ F2, W'.H a = W.H a) → o'.C W' v' F1' →
      ∃ F', Holds (Γ.set i (some o')) (σ.set i (some v')) W' F' ∧ F'.Perm (F1' ++ F2)
  | [], _, _, _, _, _, e => by simp at e
  | none :: Γ, σ, F, 0, o, h, e => by simp at e
  | none :: Γ, [], F, i + 1, o, h, e => by
    obtain ⟨u, G1, G2, a1, _⟩ := Holds.at (i := i) (Γ := Γ) (σ := []) h (by simpa using e)
    simp at a1
  | none :: Γ, s :: σ, F, i + 1, o, h, e => by
    obtain ⟨u, G1, G2, a1, a2, a3, a4⟩ := Holds.at (i := i) (Γ := Γ) (σ := σ) h (by simpa using e)
    exact ⟨u, G1, G2, by simpa using a1, a2, a3, fun W' o' v' F1' eb hk hc => a4 W' o' v' F1' eb hk hc⟩
  | some p :: Γ, [], F, i, o, ⟨v, F1, F2, h1, h2, h3, h4⟩, e => by simp at h1
  | some p :: Γ, s :: σ, F, 0, o, ⟨v, F1, F2, h1, h2, h3, h4⟩, e => by
    have : p = o := by simpa using e
    subst this h2
    refine ⟨v, F1, F2, by simpa using h1, h3, .refl _, fun W' o' v' F1' eb hk hc => ⟨F1' ++ F2, ⟨v', F1', F2, rfl, rfl, hc, Holds.loc eb (Γ := Γ) h4 hk⟩, .refl _⟩⟩
  | some p :: Γ, s :: σ, F, i + 1, o, ⟨v, F1, F2, h1, h2, h3, h4⟩, e => by
    subst h2
    obtain ⟨u, G1, G2, a1, a2, a3, a4⟩ := Holds.at (i := i) (Γ := Γ) (σ := σ) h4 (by simpa using e)
    refine ⟨u, G1, F1 ++ G2, by simpa using a1, a2, ?_, fun W' x' v' F1' eb hk hc => ?_⟩
    · refine (List.Perm.append_left F1 a3).trans ?_
      rw [← List.append_assoc, ← List.append_assoc]
      exact List.Perm.append_right G2 List.perm_append_comm
    · obtain ⟨F', b1, b2⟩ := a4 W' x' v' F1' eb (fun a ha => hk a (List.mem_append_right _ ha)) hc
      refine ⟨F1 ++ F', ⟨v, F1, F', h1, rfl, OP.loc _ h3 eb fun a ha => hk a (List.mem_append_left _ ha), b1⟩, ?_⟩
      refine (List.Perm.append_left F1 b2).trans ?_
      rw [← List.append_assoc, ← List.append_assoc]
      exact List.Perm.append_right G2 List.perm_append_comm
/-- a slot is stored anew -/
theorem Holds.put {W : Wd} {o : OP} {v : V} {F1 : List Addr} (hc : o.C W v F1) : ∀ {Γ : Ctx} {σ : St} {F : List Addr} {i : Nat}, Holds Γ σ W F → i < Γ.length → i < σ.length →
    ∃ F' G, Holds (Γ.set i (some o)) (σ.set i (some v)) W F' ∧ F'.Perm (F1 ++ G) ∧ ∃ G', F.Perm (G ++ G')
  | [], _, _, _, _, h, _ => by simp at h
  | _ :: _, [], _, _, _, _, h => by simp at h
  | none :: Γ, s :: σ, F, 0, h, _, _ => ⟨F1 ++ F, F, ⟨v, F1, F, rfl, rfl, hc, h⟩, .refl _, [], by rw [List.append_nil]⟩
  | some p :: Γ, s :: σ, F, 0, ⟨u, G1, G2, h1, h2, h3, h4⟩, _, _ => ⟨F1 ++ G2, G2, ⟨v, F1, G2, rfl, rfl, hc, h4⟩, .refl _, G1, by subst h2; exact List.perm_append_comm⟩
  | none :: Γ, s :: σ, F, i + 1, h, l1, l2 => by
    obtain ⟨F', G, a1, a2, a3⟩ := Holds.put hc (i := i) (Γ := Γ) (σ := σ) h (by simpa using l1) (by simpa using l2)
    exact ⟨F', G, a1, a2, a3⟩
  | some p :: Γ, s :: σ, F, i + 1, ⟨u, G1, G2, h1, h2, h3, h4⟩, l1, l2 => by
    obtain ⟨F', G, a1, a2, G', a3⟩ := Holds.put hc (i := i) (Γ := Γ) (σ := σ) h4 (by simpa using l1) (by simpa using l2)
    subst h2
    refine ⟨G1 ++ F', G1 ++ G, ⟨u, G1, F', h1, rfl, h3, a1⟩, ?_, G', ?_⟩
    · refine (List.Perm.append_left G1 a2).trans ?_
      rw [← List.append_assoc, ← List.append_assoc]
      exact List.Perm.append_right G List.perm_append_comm
    · rw [List.append_assoc]
      exact List.Perm.append_left G1 a3
/-- less is known -/
inductive Weak : Ctx → Ctx → Prop
  | nil : Weak [] []
  | same {e Γ Δ} : Weak Γ Δ → Weak (e :: Γ) (e :: Δ)
  | drop {e Γ Δ} : Weak Γ Δ → Weak (e :: Γ) (none :: Δ)
theorem Weak.refl : ∀ Γ : Ctx, Weak Γ Γ
  | [] => .nil
  | _ :: Γ => .same (Weak.refl Γ)
theorem Weak.len {Γ Δ : Ctx} (w : Weak Γ Δ) : Γ.length = Δ.length := by induction w <;> simp_all
theorem Weak.holds {W : Wd} {Γ Δ : Ctx} (w : Weak Γ Δ) : ∀ {σ : St} {F : List Addr}, Holds Γ σ W F → ∃ F' G, Holds Δ σ W F' ∧ F.Perm (F' ++ G) := by
  induction w with
  | nil => exact fun {σ F} h => ⟨[], F, rfl, .refl _⟩
  | @same e Γ Δ w ih =>
    intro σ F h
    cases e with
    | none => exact ih (σ := σ.tail) h
    | some o =>
      obtain ⟨v, F1, F2, h1, h2, h3, h4⟩ := h
      obtain ⟨F', G, a1, a2⟩ := ih (σ := σ.tail) h4
      subst h2
      refine ⟨F1 ++ F', G, ⟨v, F1, F', h1, rfl, h3, a1⟩, ?_⟩
      rw [List.append_assoc]
      exact List.Perm.append_left F1 a2
  | @drop e Γ Δ w ih =>
    intro σ F h
    cases e with
    | none => exact ih (σ := σ.tail) h
    | some o =>
      obtain ⟨v, F1, F2, h1, h2, h3, h4⟩ := h
      obtain ⟨F', G, a1, a2⟩ := ih (σ := σ.tail) h4
      subst h2
      refine ⟨F', G ++ F1, a1, ?_⟩
      rw [← List.append_assoc]
      exact (List.Perm.append_left F1 a2).trans List.perm_append_comm
structure Sta (Γ : Ctx) (σ : St) (W : Wd) (F : List Addr) : Prop where
  ok : Ex W.B W.H
  fp : FpOk W F
  len : σ.length = Γ.length
  hold : Holds Γ σ W F
theorem Sta.ext {Γ : Ctx} {σ : St} {W W' : Wd} {F : List Addr} (s : Sta Γ σ W F) (e : Ext W W') : Sta Γ σ W' F :=
  ⟨e.ok, s.fp.ext e, s.len, s.hold.loc e.b fun a ha => e.h.eq (s.fp.al a ha)⟩
theorem Sta.weak {Γ Δ : Ctx} {σ : St} {W : Wd} {F : List Addr} (s : Sta Γ σ W F) (w : Weak Γ Δ) : ∃ F', Sta Δ σ W F' ∧ ∀ a ∈ F', a ∈ F := by
  obtain ⟨F', G, a1, a2⟩ := w.holds s.hold
  exact ⟨F', ⟨s.ok, (s.fp.perm a2).left, s.len.trans w.len, a1⟩, fun a h => a2.mem_iff.mpr (List.mem_append_left _ h)⟩
/-- a shared slot -/
theorem Sta.get {Γ : Ctx} {σ : St} {W : Wd} {F : List Addr} {i : Nat} {p : SP} (s : Sta Γ σ W F) (h : Γ[i]? = some (some (sh p))) : ∃ v, σ[i]? = some (some v) ∧ p.P W.B v := by
  obtain ⟨v, F1, F2, h1, h2, _⟩ := s.hold.at h
  exact ⟨v, h1, h2.2⟩
theorem Sta.put {Γ : Ctx} {σ : St} {W : Wd} {F F1 : List Addr} {i : Nat} {o : OP} {v : V} (s : Sta Γ σ W F) (hi : i < Γ.length) (hc : o.C W v F1) (f : FpOk W (F ++ F1)) :
    ∃ F', Sta (Γ.set i (some o)) (σ.set i (some v)) W F' ∧ ∀ a ∈ F', a ∈ F ++ F1 := by
  obtain ⟨F', G, a1, a2, G', a3⟩ := Holds.put hc (i := i) s.hold hi (by rw [s.len]; exact hi)
  have f2 : FpOk W ((F1 ++ G) ++ G') := f.perm (by
    refine List.perm_append_comm.trans ?_
    rw [List.append_assoc]
    exact List.Perm.append_left F1 a3)
  refine ⟨F', ⟨s.ok, f2.left.perm a2.symm, by rw [List.length_set, List.length_set]; exact s.len, a1⟩, fun a h => ?_⟩
  rcases List.mem_append.mp (a2.mem_iff.mp h) with z | z
  · exact List.mem_append_right _ z
  · exact List.mem_append_left _ (a3.mem_iff.mpr (List.mem_append_left _ z))
end CC
set_option maxHeartbeats 4000000
/-! Judgements: a piece of Python and its mirror. -/
namespace CC
open PySem PySem.Spec L2
open PyProof.Rows hiding St
/-- what does not change while a def's body (or a comprehension's block) runs -/
structure Stc where
  P : Program
  w : World
  K : PySem.W.Frag
  mg : Str → Option Value
  base : Heap
  N : List Str
  sc : Scope
  k : Nat
  fn : Str → Bool
  prot : List Nat
  W : WX := fun _ _ _ _ => False
  calm : Bool := true
  top : Bool := true
  ex : Option (Addr × Addr × Option Addr) := none
structure Stc.In (S : Stc) (X : Cx) : Prop where
  prog : X.prog = S.P
  w : X.w = S.w
  K : X.K = S.K
  mg : X.mg = S.mg
  base : X.base = S.base
  N : X.N = S.N
  sc : X.env.scope = S.sc
  fn : X.fn = S.fn
  calm : X.calm = S.calm
  room : S.calm = true → Room S.k X.A
  un : X.A.units + 64 < cLine
  pass : PassesOwn (model X.prog X.w) X.A X.env X.xe
  tk : Takes X S.W
  top : S.top = true → X.stack = X.env :: X.outer ∧ X.env.frame = some X.env.locals
  ex : ∀ a C d, S.ex = some (a, C, d) → ∃ X' oe pn, X = Cx.suite X' a ((a, oe) :: pn) ∧ Zc (.ref C) d oe ∧ ∃ vs, oe.data = .fields vs
theorem takes_none {X : Cx} : Takes X (fun _ _ _ _ => False) := fun _ _ ⟨_, _, _, _, _, _, _, _, _, _, _, _, _, _, _, _, z⟩ => z.elim
abbrev Stc.blk (S : Stc) (scope : Scope) : Stc := { S with sc := relS scope S.sc, fn := fun x => scope.names.lookup x == some .cell, W := fun _ _ _ _ => False, top := false, ex := none }
theorem Stc.In.blk {S : Stc} {X : Cx} (h : S.In X) (scope : Scope) (s : Shared) (H : Hp) (C : Addr) (cl : List (Str × Addr)) (fp : List Addr) : (S.blk scope).In (X.blk s H scope (compEnvC scope cl C X.env) fp) :=
  ⟨h.prog, h.w, h.K, h.mg, h.base, h.N, by
    show relabel scope X.env = relS scope S.sc
    rw [← h.sc]
    rfl, rfl, h.calm, h.room, h.un, PassesOwn.never, takes_none, nofun, nofun⟩
/-- what an exception is like -/
structure XP where
  P : Hp → Value → Option Addr → Prop
  mono : ∀ {B B' c d}, P B c d → Ex B B' → P B' c d
/-! ### readings for every context at once -/
def tOf (S : Stc) (e : Expr) : TE := fun σ H Q => ∃ t : TE, (∀ X, S.In X → PE X e t) ∧ t σ H Q
def ttOf (S : Stc) (e : Expr) : TT := fun σ H Q => ∃ t : TT, (∀ X, S.In X → PT X e t) ∧ t σ H Q
def twOf (S : Stc) (e : Expr) : TT := fun σ H Q => ∃ t : TT, (∀ X, S.In X → PW X e t) ∧ t σ H Q
def taOf (S : Stc) (es : List Expr) : TA := fun σ H Q => ∃ t : TA, (∀ X, S.In X → PA X es t) ∧ t σ H Q
def tsOf (S : Stc) (st : Stmt) : TS := fun D σ H => ∃ t : TS, (∀ X, S.In X → PS X st t) ∧ t D σ H
def tbOf (S : Stc) (sts : List Stmt) : TS := fun D σ H => ∃ t : TS, (∀ X, S.In X → PSs X sts t) ∧ t D σ H
section
variable {S : Stc} {X : Cx}
theorem peO {e : Expr} (h : S.In X) : PE X e (tOf S e) := ⟨fun pins s σ H Q I ⟨_, p, q⟩ => (p X h).run pins s σ H Q I q⟩
theorem ptO {e : Expr} (h : S.In X) : PT X e (ttOf S e) := ⟨fun pins s σ H Q I ⟨_, p, q⟩ => (p X h).run pins s σ H Q I q⟩
theorem pwO {e : Expr} (h : S.In X) : PW X e (twOf S e) := ⟨fun wh pins s σ H Q I ⟨_, p, q⟩ => (p X h).run wh pins s σ H Q I q⟩
theorem paO {es : List Expr} (h : S.In X) : PA X es (taOf S es) := ⟨fun pos pins s σ H Q I ⟨_, p, q⟩ => (p X h).run pos pins s σ H Q I q⟩
theorem psO {st : Stmt} (h : S.In X) : PS X st (tsOf S st) := ⟨fun pins s σ H D I ⟨_, p, q⟩ => (p X h).run pins s σ H D I q⟩
theorem pbO {sts : List Stmt} (h : S.In X) : PSs X sts (tbOf S sts) := ⟨fun pins s σ H D I ⟨_, p, q⟩ => (p X h).run pins s σ H D I q⟩
end
def GlS (S : Stc) (x : Str) : Prop := S.sc.names.lookup x = some .globalImplicit
theorem GlS.gl {S : Stc} {X : Cx} {x : Str} (g : GlS S x) (h : S.In X) : Gl X x := by
  show X.env.scope.names.lookup x = some .globalImplicit
  rw [h.sc]
  exact g
theorem visS {S : Stc} {X : Cx} {x : Str} (g : Vis S.sc x) (h : S.In X) : Vis X.env.scope x := by rw [h.sc]; exact g
theorem locS {S : Stc} {X : Cx} {x : Str} (g : Loc S.sc x) (h : S.In X) : Loc X.env.scope x := by rw [h.sc]; exact g
theorem mgS {S : Stc} {X : Cx} {x : Str} {u : Option Value} (g : S.mg x = u) (h : S.In X) : X.mg x = u := by rw [h.mg]; exact g
theorem fnokS {S : Stc} {X : Cx} {CX : CXT} {k : Nat} {f : Addr} {fd : FuncData} {ps : List Str} {sp : Sp} (F : FnOk S.P S.w S.K S.mg S.base CX k f fd ps sp) (h : S.In X) : FnOk X.prog X.w X.K X.mg X.base CX k f fd ps sp := by
  rw [h.prog, h.w, h.K, h.mg, h.base]
  exact F
/-! ### the judgements -/
variable {α β γ δ τ ω ρ : Type}
/-- a value has come, things were added -/
def Got (R : OP) (W : Wd) (Q : VK) : Prop := ∀ v W' Fv, Ext W W' → (∀ a ∈ Fv, W.H a = none) → FpOk W' Fv → R.C W' v Fv → Q v W'.H
/-- a pure expression: its mirror m (none: no claim), what its value is -/
def JN (S : Stc) (e : Expr) (Γ : Ctx) (m : Option α) (R : α → OP) : Prop :=
  ∀ σ W F, Sta Γ σ W F → ∀ x, m = some x → ∀ Q : VK, Got (R x) W Q → tOf S e σ W.H Q
/-- .. read where it stands: what is owned stays with its owner -/
def JR (S : Stc) (e : Expr) (Γ : Ctx) (m : Option α) (R : α → OP) : Prop :=
  ∀ σ W F, Sta Γ σ W F → ∀ x, m = some x → ∀ Q : VK, (∀ v W', Ext W W' → (∃ F1, (R x).C W' v F1 ∧ ∀ a ∈ F1, W'.H a ≠ none) → Q v W'.H) → tOf S e σ W.H Q
/-- a pure test -/
def JT (S : Stc) (e : Expr) (Γ : Ctx) (m : Option Bool) : Prop :=
  ∀ σ W F, Sta Γ σ W F → ∀ b, m = some b → ∀ Q : Bool → Hp → Prop, (∀ W', Ext W W' → Q b W'.H) → ttOf S e σ W.H Q
def JW (S : Stc) (e : Expr) (Γ : Ctx) (m : Option Bool) : Prop :=
  ∀ σ W F, Sta Γ σ W F → ∀ b, m = some b → ∀ Q : Bool → Hp → Prop, (∀ W', Ext W W' → Q b W'.H) → twOf S e σ W.H Q
/-- pure arguments, all shared -/
def JA (S : Stc) (es : List Expr) (Γ : Ctx) (m : Option α) (R : α → List SP) : Prop :=
  ∀ σ W F, Sta Γ σ W F → ∀ x, m = some x → ∀ Q : List V → Hp → Prop, (∀ vs W', Ext W W' → Hets W'.B vs (R x) → Q vs W'.H) → taOf S es σ W.H Q
/-- an expression that changes what is owned: Γ by the state s -/
def JE (S : Stc) (e : Expr) (Γ : τ → Ctx) (s : τ) (m : Option (α × τ)) (R : α → OP) : Prop :=
  ∀ σ W F, Sta (Γ s) σ W F → ∀ x, m = some x → ∀ Q : VK, (∀ v W' F' Fv, Stp W F W' (F' ++ Fv) → Sta (Γ x.2) σ W' F' → FpOk W' (F' ++ Fv) → (R x.1).C W' v Fv → Q v W'.H) → tOf S e σ W.H Q
/-- how a block may end -/
inductive Kd where
  | nx (Γ : Ctx)
  | rt (Γ : Ctx) (R : OP)
  | bk (Γ : Ctx)
  | ct (Γ : Ctx)
  | xc (Γ : Ctx) (R : XP)
/-- the slots that must stay -/
def Keep (prot : List Nat) (σ σ' : St) : Prop := ∀ p ∈ prot, σ'[p]? = σ[p]?
theorem Keep.refl {prot : List Nat} {σ : St} : Keep prot σ σ := fun _ _ => rfl
theorem Keep.trans {prot : List Nat} {σ σ1 σ2 : St} (a : Keep prot σ σ1) (b : Keep prot σ1 σ2) : Keep prot σ σ2 := fun p h => (b p h).trans (a p h)
theorem Keep.set {prot : List Nat} {σ : St} {i : Nat} {v : Option V} (h : i ∉ prot) : Keep prot σ (σ.set i v) := fun p hp => List.getElem?_set_ne fun e => h (by rw [e]; exact hp)
theorem ncon {prot : List Nat} {i : Nat} (h : prot.contains i = false) : i ∉ prot := fun z => by
  rw [List.contains_iff_mem.mpr z] at h
  cases h
def Post (wx : WX) (prot : List Nat) (σ : St) (W : Wd) (F : List Addr) (D : Ends) : Kd → Prop
  | .nx Γ => ∀ σ' W' F', Keep prot σ σ' → Stp W F W' F' → Sta Γ σ' W' F' → D.nx σ' W'.H
  | .bk Γ => ∀ σ' W' F', Keep prot σ σ' → Stp W F W' F' → Sta Γ σ' W' F' → D.bk σ' W'.H
  | .ct Γ => ∀ σ' W' F', Keep prot σ σ' → Stp W F W' F' → Sta Γ σ' W' F' → D.ct σ' W'.H
  | .rt Γ R => ∀ v σ' W' F' Fv, Keep prot σ σ' → Stp W F W' (F' ++ Fv) → Sta Γ σ' W' F' → FpOk W' (F' ++ Fv) → R.C W' v Fv → D.rt v W'.H
  | .xc Γ R => ∀ c d σ' W' F', Keep prot σ σ' → Stp W F W' F' → Sta Γ σ' W' F' → R.P W'.B c d → wx c d σ' W'.H
/-- a block: its mirror, and how each outcome ends -/
def JB (S : Stc) (sts : List Stmt) (Γ : Ctx) (m : Option ω) (D : ω → Kd) : Prop :=
  ∀ σ W F, Sta Γ σ W F → ∀ x, m = some x → ∀ E : Ends, Post S.W S.prot σ W F E (D x) → tbOf S sts E σ W.H
/-- one statement -/
def JS (S : Stc) (st : Stmt) (Γ : Ctx) (m : Option ω) (D : ω → Kd) : Prop :=
  ∀ σ W F, Sta Γ σ W F → ∀ x, m = some x → ∀ E : Ends, Post S.W S.prot σ W F E (D x) → tsOf S st E σ W.H
theorem Post.before {wx : WX} {prot : List Nat} {σ σ1 : St} {W W1 : Wd} {F F1 : List Addr} {D : Ends} {k : Kd} (p : Post wx prot σ W F D k) (hk : Keep prot σ σ1) (hs : Stp W F W1 F1) : Post wx prot σ1 W1 F1 D k := by
  cases k with
  | nx Γ => exact fun σ' W' F' a b c => p σ' W' F' (hk.trans a) (hs.trans b) c
  | bk Γ => exact fun σ' W' F' a b c => p σ' W' F' (hk.trans a) (hs.trans b) c
  | ct Γ => exact fun σ' W' F' a b c => p σ' W' F' (hk.trans a) (hs.trans b) c
  | rt Γ R => exact fun v σ' W' F' Fv a b c d e => p v σ' W' F' Fv (hk.trans a) (hs.trans b) c d e
  | xc Γ R => exact fun v d σ' W' F' a b c e => p v d σ' W' F' (hk.trans a) (hs.trans b) c e
section
variable {S : Stc} {Γ Δ : Ctx} {a b c e : Expr} {es : List Expr} {pos : Pos}
theorem JN.cong {m m' : Option α} {R : α → OP} (h : JN S e Γ m R) (q : m = m') : JN S e Γ m' R := q ▸ h
theorem JB.cong {sts : List Stmt} {m m' : Option ω} {D : ω → Kd} (h : JB S sts Γ m D) (q : m = m') : JB S sts Γ m' D := q ▸ h
theorem JN.weak {m : Option α} {R : α → OP} (w : Weak Γ Δ) (h : JN S e Δ m R) : JN S e Γ m R := fun σ W F st x hx Q k => by
  obtain ⟨F', st', _⟩ := st.weak w
  exact h σ W F' st' x hx Q k
theorem JB.weak {sts : List Stmt} {m : Option ω} {D : ω → Kd} (w : Weak Γ Δ) (h : JB S sts Δ m D) : JB S sts Γ m D := fun σ W F st x hx E k => by
  obtain ⟨F', st', sub⟩ := st.weak w
  exact h σ W F' st' x hx E (k.before Keep.refl ((Stp.refl st.ok).perm sub))
/-- mirrors of the value and of the description -/
theorem JN.map {m : Option α} {R : α → OP} {R' : β → OP} {f : α → β} (h : JN S e Γ m R) (hR : ∀ x W v F, (R x).C W v F → (R' (f x)).C W v F) : JN S e Γ (m.bind fun x => some (f x)) R' := fun σ W F st y hy Q k => by
  cases hm : m with
  | none => rw [hm] at hy; cases hy
  | some x =>
    rw [hm] at hy
    cases hy
    exact h σ W F st x hm Q fun v W' Fv e fr fp r => k v W' Fv e fr fp (hR x W' v Fv r)
/-! ### what is owned becomes shared -/
theorem FpOk.head {W : Wd} {a : Addr} {F : List Addr} (f : FpOk W (a :: F)) : a ∉ F := (List.nodup_cons.mp f.nd).1
/-- freezing with the footprint's own facts -/
structure FrzN (R : OP) (P : SP) : Prop where
  run : ∀ {W v F}, R.C W v F → F.Nodup → (∀ a ∈ F, W.B a = none) → Ex W.B W.H → ∃ B', Ex W.B B' ∧ Ex B' W.H ∧ (∀ a, W.B a = none → a ∉ F → B' a = none) ∧ P.P B' v
theorem fz_sh {p : SP} : FrzN (sh p) p := ⟨fun {W v F} h _ _ ok => ⟨W.B, Ex.refl _, ok, fun _ h _ => h, h.2⟩⟩
theorem fz_owns {E : α → OP} {G : α → SP} (f : ∀ x, FrzN (E x) (G x)) : ∀ {vs : List V} {xs : List α} {W : Wd} {F : List Addr}, Owns E W vs xs F → F.Nodup → (∀ a ∈ F, W.B a = none) → Ex W.B W.H →
    ∃ B', Ex W.B B' ∧ Ex B' W.H ∧ (∀ a, W.B a = none → a ∉ F → B' a = none) ∧ Each G B' vs xs
  | [], [], W, F, _, _, _, ok => ⟨W.B, Ex.refl _, ok, fun _ h _ => h, trivial⟩
  | v :: vs, x :: xs, W, F, ⟨F1, F2, h1, h2, h3⟩, nd, fr, ok => by
    subst h1
    have nd' := List.nodup_append.mp nd
    obtain ⟨B1, a1, a2, a3, a4⟩ := (f x).run h2 nd'.1 (fun a ha => fr a (List.mem_append_left _ ha)) ok
    obtain ⟨B2, b1, b2, b3, b4⟩ := fz_owns f (W := ⟨W.H, B1⟩) (h3.loc (W' := ⟨W.H, B1⟩) a1 fun _ _ => rfl) nd'.2.1 (fun a ha => a3 a (fr a (List.mem_append_right _ ha)) fun z => nd'.2.2 a z a ha rfl) a2
    exact ⟨B2, a1.trans b1, b2, fun a h n => b3 a (a3 a h fun z => n (List.mem_append_left _ z)) fun z => n (List.mem_append_right _ z), SP.mono _ a4 b1, b4⟩
  | [], _ :: _, _, _, h, _, _, _ => h.elim
  | _ :: _, [], _, _, h, _, _, _ => h.elim
theorem fz_lst {E : α → OP} {G : α → SP} (f : ∀ x, FrzN (E x) (G x)) (xs : List α) : FrzN (lstO E xs) (lstS G xs) := ⟨fun {W v F} h nd fr ok => by
  obtain ⟨a, vs, F2, rfl, h2, rfl, h4⟩ := h
  have nd' := List.nodup_cons.mp nd
  obtain ⟨B1, a1, a2, a3, a4⟩ := fz_owns f h4 nd'.2 (fun b hb => fr b (List.mem_cons_of_mem _ hb)) ok
  have na : B1 a = none := a3 a (fr a List.mem_cons_self) nd'.1
  refine ⟨upd B1 a (.lst vs), a1.trans (Ex.new na), fun b o e => ?_, fun b hb n => ?_, a, vs, rfl, upd_same, a4.mono (Ex.new na)⟩
  · by_cases z : b = a
    · subst z
      rw [upd_same] at e
      rw [h2]
      exact e
    · rw [upd_ne z] at e
      exact a2 b o e
  · have z : b ≠ a := fun z => n (z ▸ List.mem_cons_self)
    rw [upd_ne z]
    exact a3 b hb fun q => n (List.mem_cons_of_mem _ q)⟩
theorem fz_het {ps : List OP} {qs : List SP} : ∀ {vs : List V} {ps : List OP} {qs : List SP} {W : Wd} {F : List Addr}, HetO W vs ps F → Paired FrzN ps qs → F.Nodup → (∀ a ∈ F, W.B a = none) → Ex W.B W.H →
    ∃ B', Ex W.B B' ∧ Ex B' W.H ∧ (∀ a, W.B a = none → a ∉ F → B' a = none) ∧ Hets B' vs qs
  | [], [], _, W, F, _, .nil, _, _, ok => ⟨W.B, Ex.refl _, ok, fun _ h _ => h, trivial⟩
  | v :: vs, x :: xs, _, W, F, ⟨F1, F2, h1, h2, h3⟩, .cons f fs, nd, fr, ok => by
    subst h1
    have nd' := List.nodup_append.mp nd
    obtain ⟨B1, a1, a2, a3, a4⟩ := f.run h2 nd'.1 (fun a ha => fr a (List.mem_append_left _ ha)) ok
    obtain ⟨B2, b1, b2, b3, b4⟩ := fz_het (ps := ps) (qs := qs) (W := ⟨W.H, B1⟩) (h3.loc (W' := ⟨W.H, B1⟩) a1 fun _ _ => rfl) fs nd'.2.1 (fun a ha => a3 a (fr a (List.mem_append_right _ ha)) fun z => nd'.2.2 a z a ha rfl) a2
    exact ⟨B2, a1.trans b1, b2, fun a h n => b3 a (a3 a h fun z => n (List.mem_append_left _ z)) fun z => n (List.mem_append_right _ z), SP.mono _ a4 b1, b4⟩
  | [], _ :: _, _, _, _, h, _, _, _, _ => h.elim
  | _ :: _, [], _, _, _, h, _, _, _, _ => h.elim
/-- a fresh value frozen on the way -/
theorem JN.frz {m : Option α} {R : α → OP} {P : α → SP} (f : ∀ x, FrzN (R x) (P x)) (h : JN S e Γ m R) : JN S e Γ m fun x => sh (P x) := fun σ W F st x hx Q k =>
  h σ W F st x hx Q fun v W' Fv ext fresh fp r => by
    obtain ⟨B', b1, b2, b3, b4⟩ := (f x).run r fp.nd fp.fr ext.ok
    have e2 : Ext W ⟨W'.H, B'⟩ := ⟨b2, ext.h, ext.b.trans b1, fun a h1 h2 => b3 a (ext.fr a h1 h2) fun z => h1 (fresh a z)⟩
    exact k v ⟨W'.H, B'⟩ [] e2 (fun _ h => (List.not_mem_nil h).elim) FpOk.nil ⟨rfl, b4⟩
theorem FrzN.lst (E : α → SP) : ∀ xs : List α, FrzN (lstO (fun x => sh (E x)) xs) (lstS E xs) := fz_lst fun _ => fz_sh
theorem FrzN.lst2 (E : α → SP) : ∀ xs : List (List α), FrzN (lstO (fun ys => lstO (fun x => sh (E x)) ys) xs) (lstS (lstS E) xs) := fz_lst fun ys => fz_lst (fun _ => fz_sh) ys
/-- a slot frozen -/
theorem JB.frz {sts : List Stmt} {m : Option ω} {D : ω → Kd} {i : Nat} {o : OP} {p : SP} (hi : Γ[i]? = some (some o)) (f : FrzN o p) (h : JB S sts (Γ.set i (some (sh p))) m D) : JB S sts Γ m D := fun σ W F st x hx E k => by
  obtain ⟨v, F1, F2, a1, a2, a3, a4⟩ := st.hold.at hi
  have fp := st.fp.perm a3
  obtain ⟨B', b1, b2, b3, b4⟩ := f.run a2 fp.left.nd fp.left.fr st.ok
  obtain ⟨F', c1, c2⟩ := a4 ⟨W.H, B'⟩ (sh p) v [] b1 (fun _ _ => rfl) ⟨rfl, b4⟩
  have sub : ∀ a ∈ F', a ∈ F2 := fun a ha => by simpa using c2.mem_iff.mp ha
  have fp' : FpOk ⟨W.H, B'⟩ F' := by
    refine FpOk.perm (F := F2) ?_ (by simpa using c2.symm)
    exact ⟨fp.right.nd, fp.right.al, fun a ha => b3 a (fp.right.fr a ha) fun z => fp.disj a z ha⟩
  have hset : σ.set i (some v) = σ := by
    refine List.ext_getElem? fun j => ?_
    by_cases e : i = j
    · subst e
      rw [a1, List.getElem?_set_self (List.getElem?_eq_some_iff.mp a1).1]
    · rw [List.getElem?_set_ne e]
  rw [hset] at c1
  refine h σ ⟨W.H, B'⟩ F' ⟨b2, fp', by rw [List.length_set]; exact st.len, c1⟩ x hx E (k.before Keep.refl ?_)
  refine ⟨b2, b1, fun a o h _ => h, fun a h => h, fun a h1 h2 n => b3 a h2 fun z => n (a3.mem_iff.mpr (List.mem_append_left _ z)), fun a ha => .inl (a3.mem_iff.mpr (List.mem_append_right _ (sub a ha)))⟩
/-! ### names and constants -/
theorem jn_var {E : α → SP} {a : α} {x : Str} (i : Nat) (hi : Γ[i]? = some (some (sh (E a))) := by rfl) (hN : S.N[i]? = some x := by rfl) (hv : Vis S.sc x := by first | exact Or.inl rfl | exact Or.inr (Or.inl rfl) | exact Or.inr (Or.inr rfl))
    (hd : (x == ("__debug__" : Str)) = false := by decide) (hcd : (x == ("__classdict__" : Str)) = false := by decide) : JN S (.Name x pos) Γ (some a) fun a => sh (E a) := fun σ W F st y hy Q k => by
  cases hy
  obtain ⟨v, h1, h2⟩ := st.get hi
  exact ⟨tVar i, fun X hX => pe_var (by rw [hX.N]; exact hN) (visS hv hX) hd hcd, v, h1, k v W [] (Ext.refl st.ok) (fun _ h => (List.not_mem_nil h).elim) FpOk.nil ⟨rfl, h2⟩⟩
theorem jr_var {R : α → OP} {a : α} {x : Str} (i : Nat) (hi : Γ[i]? = some (some (R a)) := by rfl) (hN : S.N[i]? = some x := by rfl) (hv : Vis S.sc x := by first | exact Or.inl rfl | exact Or.inr (Or.inl rfl) | exact Or.inr (Or.inr rfl))
    (hd : (x == ("__debug__" : Str)) = false := by decide) (hcd : (x == ("__classdict__" : Str)) = false := by decide) : JR S (.Name x pos) Γ (some a) R := fun σ W F st y hy Q k => by
  cases hy
  obtain ⟨v, F1, F2, h1, h2, h3, _⟩ := st.hold.at hi
  exact ⟨tVar i, fun X hX => pe_var (by rw [hX.N]; exact hN) (visS hv hX) hd hcd, v, h1, k v W (Ext.refl st.ok) ⟨F1, h2, fun a ha => st.fp.al a (h3.mem_iff.mpr (List.mem_append_left _ ha))⟩⟩
theorem jr_of {m : Option α} {R : α → OP} (h : JN S e Γ m R) : JR S e Γ m R := fun σ W F st x hx Q k => h σ W F st x hx Q fun v W' Fv e _ fp r => k v W' e ⟨Fv, r, fp.al⟩
theorem jn_of {m : Option α} {P : α → SP} (h : JR S e Γ m fun x => sh (P x)) : JN S e Γ m fun x => sh (P x) := fun σ W F st x hx Q k => h σ W F st x hx Q fun v W' e r => by
  obtain ⟨F1, r, _⟩ := r
  exact k v W' [] e (fun _ h => (List.not_mem_nil h).elim) FpOk.nil ⟨rfl, r.2⟩
theorem jn_c {v : V} {E : α → SP} {a : α} (hp : ∀ X, S.In X → PE X e (tC v)) (hv : ∀ B, (E a).P B v) : JN S e Γ (some a) fun a => sh (E a) := fun σ W F st y hy Q k => by
  cases hy
  exact ⟨tC v, hp, k v W [] (Ext.refl st.ok) (fun _ h => (List.not_mem_nil h).elim) FpOk.nil ⟨rfl, hv _⟩⟩
theorem jn_int {i j} : JN S (.Constant (.int i) j pos) Γ (some i) fun a => sh (intS a) := jn_c (fun _ _ => pe_int) fun _ => rfl
theorem jn_bl {b j} : JN S (.Constant (.bool b) j pos) Γ (some b) fun a => sh (boolS a) := jn_c (fun _ _ => pe_bl) fun _ => rfl
theorem jn_str {x j} : JN S (.Constant (.str x) j pos) Γ (some x) fun a => sh (strS a) := jn_c (fun _ _ => pe_str) fun _ => rfl
theorem jn_non {j} : JN S (.Constant .none j pos) Γ (some ()) fun _ => sh nonS := jn_c (E := fun _ => nonS) (fun _ _ => pe_non) fun _ => rfl
/-! ### operators -/
/-- a two-place operation on shared values -/
def OpV (r : R2) (E : α → SP) (G : β → SP) (f : α → β → Option γ) (R : γ → OP) : Prop :=
  ∀ W x y v u z, Ex W.B W.H → (E x).P W.B v → (G y).P W.B u → f x y = some z → ∀ Q : VK, Got (R z) W Q → r v u W.H Q
theorem Got.val {p : SP} {W : Wd} {Q : VK} {v : V} (k : Got (sh p) W Q) (ok : Ex W.B W.H) (h : p.P W.B v) : Q v W.H := k v W [] (Ext.refl ok) (fun _ h => (List.not_mem_nil h).elim) FpOk.nil ⟨rfl, h⟩
theorem Got.ext {R : OP} {W W1 : Wd} {Q : VK} (k : Got R W Q) (e : Ext W W1) : Got R W1 Q := fun v W' Fv e1 fr fp r => k v W' Fv (e.trans e1) (fun a ha => e.h.back (fr a ha)) fp r
theorem run2 {ma : Option α} {mb : Option β} {f : α → β → Option γ} {z : γ} (h : (ma.bind fun x => mb.bind fun y => f x y) = some z) : ∃ x y, ma = some x ∧ mb = some y ∧ f x y = some z := by
  cases ma with
  | none => cases h
  | some x =>
    cases mb with
    | none => cases h
    | some y => exact ⟨x, y, rfl, rfl, h⟩
theorem run1 {ma : Option α} {f : α → Option γ} {z : γ} (h : (ma.bind fun x => f x) = some z) : ∃ x, ma = some x ∧ f x = some z := by
  cases ma with
  | none => cases h
  | some x => exact ⟨x, rfl, h⟩
theorem tOp_run {r : R2} {E : α → SP} {G : β → SP} {f : α → β → Option γ} {R : γ → OP} {ma : Option α} {mb : Option β} (ha : JN S a Γ ma fun x => sh (E x)) (hb : JN S b Γ mb fun y => sh (G y)) (hr : OpV r E G f R)
    {σ : L2.St} {W : Wd} {F : List Addr} (st : Sta Γ σ W F) {z : γ} (hz : (ma.bind fun x => mb.bind fun y => f x y) = some z) {Q : VK} (k : Got (R z) W Q) : tOp r (tOf S a) (tOf S b) σ W.H Q := by
  obtain ⟨x, y, h1, h2, h3⟩ := run2 hz
  refine ha σ W F st x h1 _ fun v W1 F1 e1 _ _ r1 => ?_
  refine hb σ W1 F (st.ext e1) y h2 _ fun u W2 F2 e2 _ _ r2 => ?_
  exact hr W2 x y v u z e2.ok (SP.mono _ r1.2 e2.b) r2.2 h3 Q (k.ext (e1.trans e2))
theorem jn_bin {op : Operator} {r : R2} {E : α → SP} {G : β → SP} {f : α → β → Option γ} {R : γ → OP} {ma : Option α} {mb : Option β} (ho : ∀ X, S.In X → OpR X (binaryOp op) r) (hr : OpV r E G f R)
    (ha : JN S a Γ ma fun x => sh (E x)) (hb : JN S b Γ mb fun y => sh (G y)) : JN S (.BinOp a op b pos) Γ (ma.bind fun x => mb.bind fun y => f x y) R := fun σ W F st z hz Q k =>
  ⟨tOp r (tOf S a) (tOf S b), fun X hX => pe_op (ho X hX) (peO hX) (peO hX), tOp_run ha hb hr st hz k⟩
theorem jn_cmp {op : CmpOp} {r : R2} {E : α → SP} {G : β → SP} {f : α → β → Option γ} {R : γ → OP} {ma : Option α} {mb : Option β} (ho : ∀ X, S.In X → OpR X (compareOp op) r) (hr : OpV r E G f R)
    (ha : JN S a Γ ma fun x => sh (E x)) (hb : JN S b Γ mb fun y => sh (G y)) (hm : behindInMarks op b = false := by first | exact nomark _ | rfl) : JN S (.Compare a [op] [b] pos) Γ (ma.bind fun x => mb.bind fun y => f x y) R := fun σ W F st z hz Q k =>
  ⟨tOp r (tOf S a) (tOf S b), fun X hX => pe_cmpR (ho X hX) (peO hX) (peO hX) hm, tOp_run ha hb hr st hz k⟩
theorem jt_cmp {op : CmpOp} {r : R2} {E : α → SP} {G : β → SP} {f : α → β → Option Bool} {ma : Option α} {mb : Option β} (ho : ∀ X, S.In X → OpR X (compareOp op) r) (hr : OpV r E G f fun z => sh (boolS z))
    (ha : JN S a Γ ma fun x => sh (E x)) (hb : JN S b Γ mb fun y => sh (G y)) (hm : behindInMarks op b = false := by first | exact nomark _ | rfl) : JT S (.Compare a [op] [b] pos) Γ (ma.bind fun x => mb.bind fun y => f x y) := fun σ W F st z hz Q k =>
  ⟨tTest (tOp r (tOf S a) (tOf S b)), fun X hX => pt_cmpR (ho X hX) (peO hX) (peO hX) hm, tOp_run ha hb hr st hz fun v W' Fv e _ _ h => ⟨z, h.2, k W' e⟩⟩
/-- a subscript of something read where it stands -/
def IxV (r : R2) (R0 : α → OP) (G : β → SP) (f : α → β → Option γ) (R : γ → OP) : Prop :=
  ∀ W x y v u z F1, Ex W.B W.H → (R0 x).C W v F1 → (G y).P W.B u → f x y = some z → ∀ Q : VK, (∀ t, (∃ F2, (R z).C W t F2 ∧ ∀ a ∈ F2, a ∈ F1) → Q t W.H) → r v u W.H Q
theorem jr_ix {r : R2} {R0 : α → OP} {G : β → SP} {f : α → β → Option γ} {R : γ → OP} {ma : Option α} {mb : Option β} (ho : ∀ X, S.In X → IxR X r) (hr : IxV r R0 G f R)
    (ha : JR S a Γ ma R0) (hb : JN S b Γ mb fun y => sh (G y)) (hs : PlainIx b := by exact fun _ _ => rfl) : JR S (.Subscript a b pos) Γ (ma.bind fun x => mb.bind fun y => f x y) R := fun σ W F st z hz Q k => by
  refine ⟨tOp r (tOf S a) (tOf S b), fun X hX => pe_ix (ho X hX) (peO hX) (peO hX) hs, ?_⟩
  obtain ⟨x, y, h1, h2, h3⟩ := run2 hz
  refine ha σ W F st x h1 _ fun v W1 e1 ⟨F1, r1, al1⟩ => ?_
  refine hb σ W1 F (st.ext e1) y h2 _ fun u W2 F2 e2 _ _ r2 => ?_
  have r1' : (R0 x).C W2 v F1 := OP.loc _ r1 e2.b fun a ha => e2.h.eq (al1 a ha)
  exact hr W2 x y v u z F1 e2.ok r1' r2.2 h3 _ fun t ⟨F3, q1, q2⟩ => k t W2 (e1.trans e2) ⟨F3, q1, fun a ha => e2.h.ne (al1 a (q2 a ha))⟩
theorem jn_un {op : UnaryOp} {r : V → Hp → VK → Prop} {E : α → SP} {f : α → Option γ} {R : γ → OP} {ma : Option α} (ho : ∀ X, S.In X → UnR X (unaryOp op) r)
    (hr : ∀ W x v z, Ex W.B W.H → (E x).P W.B v → f x = some z → ∀ Q : VK, Got (R z) W Q → r v W.H Q) (ha : JN S a Γ ma fun x => sh (E x)) : JN S (.UnaryOp op a pos) Γ (ma.bind fun x => f x) R := fun σ W F st z hz Q k => by
  refine ⟨tUn r (tOf S a), fun X hX => pe_un (ho X hX) (peO hX), ?_⟩
  obtain ⟨x, h1, h3⟩ := run1 hz
  exact ha σ W F st x h1 _ fun v W1 F1 e1 _ _ r1 => hr W1 x v z e1.ok r1.2 h3 Q (k.ext e1)
theorem jn_neg {ma : Option Int} (ha : JN S a Γ ma fun x => sh (intS x)) : JN S (.UnaryOp .USub a pos) Γ (ma.bind fun x => some (-x)) fun z => sh (intS z) :=
  jn_un (f := fun x : Int => some (-x)) (fun _ _ => un_neg) (fun W x v z ok h e Q k => by cases e; cases h; exact ⟨x, rfl, k.val ok rfl⟩) ha
/-! ### tests -/
theorem jt_val {m : Option Bool} (h : JN S e Γ m fun z => sh (boolS z)) (he : ∀ env whole, isTrue e env whole = (do let v ← whole; standAt e.pos; holding [v] (truthy v)) := by intro _ _; rfl) : JT S e Γ m := fun σ W F st z hz Q k =>
  ⟨tB (tOf S e), fun X hX => pt_val (peO hX) (he _), h σ W F st z hz _ fun v W' Fv e _ _ r => ⟨z, r.2, k W' e⟩⟩
theorem jt_not {m : Option Bool} (h : JT S e Γ m) : JT S (.UnaryOp .Not e pos) Γ (m.bind fun x => some (!x)) := fun σ W F st z hz Q k => by
  obtain ⟨x, h1, h2⟩ := run1 hz
  cases h2
  exact ⟨tNot (ttOf S e), fun X hX => pt_not (ptO hX), h σ W F st x h1 _ fun W' e => k W' e⟩
theorem jw_and1 {m : Option Bool} (h : JT S a Γ m) : JW S (.BoolOp .And [a] pos) Γ m := fun σ W F st z hz Q k => ⟨ttOf S a, fun X hX => pw_and1 (ptO hX), h σ W F st z hz _ k⟩
theorem jw_or1 {m : Option Bool} (h : JT S a Γ m) : JW S (.BoolOp .Or [a] pos) Γ m := fun σ W F st z hz Q k => ⟨ttOf S a, fun X hX => pw_or1 (ptO hX), h σ W F st z hz _ k⟩
theorem jw_and {ma mb : Option Bool} (ha : JT S a Γ ma) (hb : JW S (.BoolOp .And (b :: es) pos) Γ mb) : JW S (.BoolOp .And (a :: b :: es) pos) Γ (ma.bind fun x => bif x then mb else some false) := fun σ W F st z hz Q k => by
  obtain ⟨x, h1, h2⟩ := run1 hz
  refine ⟨tAnd (ttOf S a) (twOf S (.BoolOp .And (b :: es) pos)), fun X hX => pw_and (ptO hX) (pwO hX), ha σ W F st x h1 _ fun W' e => ?_⟩
  cases x with
  | true => exact iteT (hb σ W' F (st.ext e) z h2 Q fun W'' e' => k W'' (e.trans e'))
  | false =>
    cases h2
    exact iteF (k W' e)
theorem jw_or {ma mb : Option Bool} (ha : JT S a Γ ma) (hb : JW S (.BoolOp .Or (b :: es) pos) Γ mb) : JW S (.BoolOp .Or (a :: b :: es) pos) Γ (ma.bind fun x => bif x then some true else mb) := fun σ W F st z hz Q k => by
  obtain ⟨x, h1, h2⟩ := run1 hz
  refine ⟨tOr (ttOf S a) (twOf S (.BoolOp .Or (b :: es) pos)), fun X hX => pw_or (ptO hX) (pwO hX), ha σ W F st x h1 _ fun W' e => ?_⟩
  cases x with
  | false => exact iteF (hb σ W' F (st.ext e) z h2 Q fun W'' e' => k W'' (e.trans e'))
  | true =>
    cases h2
    exact iteT (k W' e)
theorem jt_w {m : Option Bool} (h : JW S e Γ m) : JT S e Γ m := fun σ W F st z hz Q k => ⟨twOf S e, fun X hX => (pwO hX).pt, h σ W F st z hz Q k⟩
/-- as values: all True or False -/
theorem jn_one {op : BoolOp} {m : Option α} {R : α → OP} (h : JN S a Γ m R) : JN S (.BoolOp op [a] pos) Γ m R := fun σ W F st z hz Q k => ⟨tOf S a, fun X hX => pe_one (peO hX), h σ W F st z hz Q k⟩
theorem jn_and {ma mb : Option Bool} (ha : JN S a Γ ma fun z => sh (boolS z)) (hb : JN S (.BoolOp .And (b :: es) pos) Γ mb fun z => sh (boolS z)) :
    JN S (.BoolOp .And (a :: b :: es) pos) Γ (ma.bind fun x => bif x then mb else some false) fun z => sh (boolS z) := fun σ W F st z hz Q k => by
  obtain ⟨x, h1, h2⟩ := run1 hz
  refine ⟨tAndV (tOf S a) (tOf S (.BoolOp .And (b :: es) pos)), fun X hX => pe_and (peO hX) (peO hX), ha σ W F st x h1 _ fun v W' Fv e _ _ r => ⟨x, r.2, ?_⟩⟩
  cases x with
  | true => exact iteT (hb σ W' F (st.ext e) z h2 Q (k.ext e))
  | false =>
    cases h2
    exact iteF ((k.ext e).val e.ok rfl)
theorem jn_or {ma mb : Option Bool} (ha : JN S a Γ ma fun z => sh (boolS z)) (hb : JN S (.BoolOp .Or (b :: es) pos) Γ mb fun z => sh (boolS z)) :
    JN S (.BoolOp .Or (a :: b :: es) pos) Γ (ma.bind fun x => bif x then some true else mb) fun z => sh (boolS z) := fun σ W F st z hz Q k => by
  obtain ⟨x, h1, h2⟩ := run1 hz
  refine ⟨tOrV (tOf S a) (tOf S (.BoolOp .Or (b :: es) pos)), fun X hX => pe_or (peO hX) (peO hX), ha σ W F st x h1 _ fun v W' Fv e _ _ r => ⟨x, r.2, ?_⟩⟩
  cases x with
  | false => exact iteF (hb σ W' F (st.ext e) z h2 Q (k.ext e))
  | true =>
    cases h2
    exact iteT ((k.ext e).val e.ok rfl)
theorem jn_notV {m : Option Bool} (h : JN S e Γ m fun z => sh (boolS z)) : JN S (.UnaryOp .Not e pos) Γ (m.bind fun x => some (!x)) fun z => sh (boolS z) := fun σ W F st z hz Q k => by
  obtain ⟨x, h1, h2⟩ := run1 hz
  cases h2
  exact ⟨tNotV (tOf S e), fun X hX => pe_not (peO hX), h σ W F st x h1 _ fun v W' Fv e _ _ r => ⟨x, r.2, (k.ext e).val e.ok rfl⟩⟩
theorem jn_if {mc : Option Bool} {ma mb : Option α} {R : α → OP} (hc : JT S c Γ mc) (ha : JN S a Γ ma R) (hb : JN S b Γ mb R) : JN S (.IfExp c a b pos) Γ (mc.bind fun x => bif x then ma else mb) R := fun σ W F st z hz Q k => by
  obtain ⟨x, h1, h2⟩ := run1 hz
  refine ⟨tIf (ttOf S c) (tOf S a) (tOf S b), fun X hX => pe_ifExp (ptO hX) (peO hX) (peO hX), hc σ W F st x h1 _ fun W' e => ?_⟩
  cases x with
  | true => exact iteT (ha σ W' F (st.ext e) z h2 Q (k.ext e))
  | false => exact iteF (hb σ W' F (st.ext e) z h2 Q (k.ext e))
/-! ### arguments, displays, calls -/
theorem ja_nil : JA S [] Γ (some ()) fun _ => [] := fun σ W F st x hx Q k => ⟨tNil, fun _ _ => pa_nil, k [] W (Ext.refl st.ok) trivial⟩
theorem ja_cons {ma : Option α} {mb : Option β} {E : α → SP} {G : β → List SP} (ha : JN S e Γ ma fun x => sh (E x)) (hb : JA S es Γ mb G) (hs : ∀ env, starEach (e :: es) env = (false, eval e env) :: starEach es env := by intro _; rfl) :
    JA S (e :: es) Γ (ma.bind fun x => mb.bind fun y => some (x, y)) fun p => E p.1 :: G p.2 := fun σ W F st z hz Q k => by
  obtain ⟨x, y, h1, h2, h3⟩ := run2 hz
  cases h3
  refine ⟨tCons (tOf S e) (taOf S es), fun X hX => pa_cons (peO hX) (paO hX) (hs _), ?_⟩
  refine ha σ W F st x h1 _ fun v W1 F1 e1 _ _ r1 => ?_
  exact hb σ W1 F (st.ext e1) y h2 _ fun vs W2 e2 h => k (v :: vs) W2 (e1.trans e2) ⟨SP.mono _ r1.2 e2.b, h⟩
theorem jn_tup {m : Option α} {R : α → List SP} {p : SP → Prop} (h : JA S es Γ m R) {k : Nat} (hl : ∀ x, (R x).length ≤ 1000 := by intro _; decide) : JN S (.Tuple es k pos) Γ m fun x => sh (htupS (R x)) := fun σ W F st x hx Q kk =>
  ⟨tTup (taOf S es), fun X hX => pe_tup (paO hX), h σ W F st x hx _ fun vs W' e hh => by
    refine ⟨Nat.le_trans (by rw [hh.len]; exact hl x) (by decide), fun q hq => ?_⟩
    have e2 := Ext.newB e.ok (o := .tup vs) hq
    exact kk (.ref q) ⟨upd W'.H q (.tup vs), upd W'.B q (.tup vs)⟩ [] (e.trans e2) (fun _ h => (List.not_mem_nil h).elim) FpOk.nil ⟨rfl, q, vs, rfl, upd_same, hh.mono e2.b⟩⟩
/-- a call of a builtin by values -/
theorem jn_callB {x : Str} {id : String} {p : Pos} {r : List V → Hp → VK → Prop} {m : Option α} {G : α → List SP} {f : α → Option γ} {R : γ → OP} (hc : ∀ X, S.In X → CallR X (.builtin id) r)
    (hr : ∀ W x vs z, Ex W.B W.H → Hets W.B vs (G x) → f x = some z → ∀ Q : VK, Got (R z) W Q → r vs W.H Q) (hm : S.mg x = none) (ha : JA S (e :: es) Γ m G)
    (hg : GlS S x := by rfl) (hv : bootBuiltins x = some (.builtin id) := by decide +kernel) (hn : x ≠ "__name__" := by decide) (hdb : (x == ("__debug__" : Str)) = false := by decide)
    (he : ∀ env, starEach (e :: es) env = (false, eval e env) :: starEach es env := by intro _; rfl) (hpl : ∀ env, (backTo pos (starEach es env)).any (·.1) = false := by intro _; rfl) : JN S (.Call (.Name x p) (e :: es) [] pos) Γ (m.bind fun y => f y) R := fun σ W F st z hz Q k => by
  obtain ⟨y, h1, h2⟩ := run1 hz
  exact ⟨tCB r (taOf S (e :: es)), fun X hX => pe_callB (hc X hX) (hg.gl hX) (mgS hm hX) hv (paO hX) hn hdb (he _) (hpl _), ha σ W F st y h1 _ fun vs W' e hh => hr W' y vs z e.ok hh h2 Q (k.ext e)⟩
theorem jn_callTy {x : Str} {T : String} {p : Pos} {r : List V → Hp → VK → Prop} {m : Option α} {G : α → List SP} {f : α → Option γ} {R : γ → OP} (hc : ∀ X, S.In X → CallR X (.type T) r)
    (hr : ∀ W x vs z, Ex W.B W.H → Hets W.B vs (G x) → f x = some z → ∀ Q : VK, Got (R z) W Q → r vs W.H Q) (hm : S.mg x = none) (ha : JA S (e :: es) Γ m G)
    (hg : GlS S x := by rfl) (hv : bootBuiltins x = some (.type T) := by decide +kernel) (hn : x ≠ "__name__" := by decide) (hdb : (x == ("__debug__" : Str)) = false := by decide)
    (he : ∀ env, starEach (e :: es) env = (false, eval e env) :: starEach es env := by intro _; rfl) (hpl : ∀ env, (backTo pos (starEach es env)).any (·.1) = false := by intro _; rfl) : JN S (.Call (.Name x p) (e :: es) [] pos) Γ (m.bind fun y => f y) R := fun σ W F st z hz Q k => by
  obtain ⟨y, h1, h2⟩ := run1 hz
  exact ⟨tCB r (taOf S (e :: es)), fun X hX => pe_callTy (hc X hX) (hg.gl hX) (mgS hm hX) hv (paO hX) hn hdb (he _) (hpl _), ha σ W F st y h1 _ fun vs W' e hh => hr W' y vs z e.ok hh h2 Q (k.ext e)⟩
end
end CC
set_option maxHeartbeats 4000000
/-! Walks, comprehensions, loops, calls. -/
namespace CC
open PySem PySem.Spec L2
open PyProof.Rows hiding St
variable {α β γ δ τ ω ρ : Type}
/-- the length up to which lists are claimed -/
def LIM : Nat := 1000000
theorem lim_le {n : Nat} (h : n ≤ LIM) : n ≤ sizeLine := Nat.le_trans h (by decide)
theorem lim_lt {n : Nat} (h : n < LIM) : n < sizeLine := Nat.lt_of_lt_of_le h (by decide)
/-! ### walks -/
def ItOk (J : It) (C : Wd → Prop) (xs : List α) (E : α → SP) : Prop :=
  ∀ W1, C W1 → (∀ i x, xs[i]? = some x → J.go i W1.H ∧ ∀ v H', J.yld i W1.H v H' → ∃ W2, W2.H = H' ∧ Ext W1 W2 ∧ (E x).P W2.B v) ∧ ∀ i, xs.length ≤ i → J.stop i W1.H
def tiOf (S : Stc) (tg iter : Expr) : TI := fun σ H R => ∃ wi : TI, (∀ X, S.In X → PI X tg iter wi) ∧ wi σ H R
theorem piO {S : Stc} {X : Cx} {tg e : Expr} (h : S.In X) : PI X tg e (tiOf S tg e) := ⟨fun pins s σ H R I ⟨_, p, q⟩ => (p X h).run pins s σ H R I q⟩
/-- a walk over what is shared -/
def JI (S : Stc) (tg iter : Expr) (Γ : Ctx) (m : Option (List α)) (E : α → SP) : Prop :=
  ∀ σ W F, Sta Γ σ W F → ∀ xs, m = some xs → ∀ R : It → Hp → Prop, (∀ J W', Ext W W' → ItOk J (fun W1 => Ex W1.B W1.H ∧ Ex W'.B W1.B) xs E → R J W'.H) → tiOf S tg iter σ W.H R
/-- .. over what stands as it stands now -/
def JIc (S : Stc) (tg iter : Expr) (Γ : Ctx) (m : Option (List α)) (E : α → SP) : Prop :=
  ∀ σ W F, Sta Γ σ W F → ∀ xs, m = some xs → ∀ R : It → Hp → Prop, (∀ J W', Ext W W' → ItOk J (fun W1 => Ext W' W1) xs E → R J W'.H) → tiOf S tg iter σ W.H R
section
variable {S : Stc} {Γ Δ : Ctx} {a b c e tg iter elt : Expr} {es ifs : List Expr} {pos : Pos}
theorem jic_of {m : Option (List α)} {E : α → SP} (h : JI S tg iter Γ m E) : JIc S tg iter Γ m E := fun σ W F st xs hx R k => h σ W F st xs hx R fun J W' e ok => k J W' e fun W1 e1 => ok W1 ⟨e1.ok, e1.b⟩
theorem ok_list {K : PySem.W.Frag} {C : Wd → Prop} {p : Addr} {xs : List α} {E : α → SP} (h : ∀ W1, C W1 → Ex W1.B W1.H ∧ ∃ vs, W1.H p = some (.lst vs) ∧ Each E W1.B vs xs) : ItOk (Itl K p) C xs E := fun W1 c => by
  obtain ⟨ok, vs, h1, h2⟩ := h W1 c
  have hq : SqL K W1.H p vs := .inl (.inl h1)
  refine ⟨fun i x hx => ?_, fun i hi => ⟨vs, hq, by rw [h2.len]; exact hi⟩⟩
  obtain ⟨v, hv, pv⟩ := h2.get hx
  refine ⟨⟨vs, v, hq, hv⟩, fun u H' ⟨e1, e2⟩ => ⟨W1, e1.symm, Ext.refl ok, ?_⟩⟩
  have q := e2 vs hq
  rw [hv] at q
  cases q
  exact pv
theorem ok_tup {K : PySem.W.Frag} {C : Wd → Prop} {p : Addr} {xs : List α} {E : α → SP} (h : ∀ W1, C W1 → Ex W1.B W1.H ∧ ∃ vs, W1.H p = some (.tup vs) ∧ Each E W1.B vs xs) : ItOk (Itt K p) C xs E := fun W1 c => by
  obtain ⟨ok, vs, h1, h2⟩ := h W1 c
  have hq : SqT K W1.H p vs := .inl (.inl h1)
  refine ⟨fun i x hx => ?_, fun i hi => ⟨vs, hq, by rw [h2.len]; exact hi⟩⟩
  obtain ⟨v, hv, pv⟩ := h2.get hx
  refine ⟨⟨vs, v, hq, hv⟩, fun u H' ⟨e1, e2⟩ => ⟨W1, e1.symm, Ext.refl ok, ?_⟩⟩
  have q := e2 vs hq
  rw [hv] at q
  cases q
  exact pv
theorem ji_lst {m : Option (List α)} {E : α → SP} (h : JN S iter Γ m fun xs => sh (lstS E xs)) : JI S tg iter Γ m E := fun σ W F st xs hx R k => by
  refine ⟨iList S.K (tOf S iter), fun X hX => hX.K ▸ pi_list (peO hX), h σ W F st xs hx _ fun v W' Fv ext _ _ r => ?_⟩
  obtain ⟨_, a, vs, rfl, h2, h3⟩ := r
  refine ⟨a, rfl, ⟨vs, .inl (.inl (ext.ok a _ h2))⟩, k _ W' ext (ok_list fun W1 c => ⟨c.1, vs, c.1 a _ (c.2 a _ h2), h3.mono c.2⟩)⟩
theorem ji_tup {m : Option (List α)} {E : α → SP} (h : JN S iter Γ m fun xs => sh (tupS E xs)) : JI S tg iter Γ m E := fun σ W F st xs hx R k => by
  refine ⟨iTup S.K (tOf S iter), fun X hX => hX.K ▸ pi_tup (peO hX), h σ W F st xs hx _ fun v W' Fv ext _ _ r => ?_⟩
  obtain ⟨_, a, vs, rfl, h2, h3⟩ := r
  refine ⟨a, rfl, ⟨vs, .inl (.inl (ext.ok a _ h2))⟩, k _ W' ext (ok_tup fun W1 c => ⟨c.1, vs, c.1 a _ (c.2 a _ h2), h3.mono c.2⟩)⟩
theorem ji_scr {m : Option (List Int)} (h : JN S iter Γ m fun xs => sh (scrS S.K xs)) : JI S tg iter Γ m intS := fun σ W F st xs hx R k => by
  refine ⟨iList S.K (tOf S iter), fun X hX => hX.K ▸ pi_list (peO hX), h σ W F st xs hx _ fun v W' Fv ext _ _ r => ?_⟩
  obtain ⟨_, a, rfl, h2⟩ := r
  have mv : ∀ {B : Hp} {W1 : Wd}, SqL S.K B a (xs.map V.int) → Ex B W1.H → SqL S.K W1.H a (xs.map V.int) := fun {B W1} h e => by
    rcases h with (h | ⟨o, h⟩) | h
    · exact .inl (.inl (e _ _ h))
    · exact .inl (.inr ⟨o, e _ _ h⟩)
    · exact .inr h
  refine ⟨a, rfl, ⟨_, mv (W1 := W') h2 ext.ok⟩, k _ W' ext fun W1 c => ?_⟩
  have hq := mv (W1 := W1) h2 (c.2.trans c.1)
  refine ⟨fun i x hx => ?_, fun i hi => ⟨_, hq, by rw [List.length_map]; exact hi⟩⟩
  have hv : (xs.map V.int)[i]? = some (.int x) := by rw [List.getElem?_map, hx]; rfl
  refine ⟨⟨_, _, hq, hv⟩, fun u H' ⟨e1, e2⟩ => ⟨W1, e1.symm, Ext.refl c.1, ?_⟩⟩
  have q := e2 _ hq
  rw [hv] at q
  cases q
  rfl
/-- over a list of one's own, as it stands -/
theorem jic_own {m : Option (List α)} {E : α → SP} (h : JR S iter Γ m fun xs => lstO (fun x => sh (E x)) xs) : JIc S tg iter Γ m E := fun σ W F st xs hx R k => by
  refine ⟨iList S.K (tOf S iter), fun X hX => hX.K ▸ pi_list (peO hX), h σ W F st xs hx _ fun v W' ext ⟨F1, r, _⟩ => ?_⟩
  obtain ⟨a, vs, F2, rfl, h2, _, h4⟩ := r
  obtain ⟨_, h5⟩ := h4.each
  exact ⟨a, rfl, ⟨vs, .inl (.inl h2)⟩, k _ W' ext (ok_list fun W1 c => ⟨c.ok, vs, c.h a _ h2, h5.mono c.b⟩)⟩
/-- range -/
def rng (lo hi : Int) : Option (List Int) := if hi - lo ≤ LIM ∧ -LIM ≤ lo ∧ lo ≤ LIM ∧ -LIM ≤ hi ∧ hi ≤ LIM then some ((List.range (hi - lo).toNat).map fun i : Nat => lo + (i : Int)) else none
theorem ok_rng {lo : Int} {n : Nat} {C : Wd → Prop} (hC : ∀ W1, C W1 → Ex W1.B W1.H) : ItOk (Itr lo n) C ((List.range n).map fun i : Nat => lo + (i : Int)) intS := fun W1 c => by
  refine ⟨fun i x hx => ?_, fun i hi => by
    show n ≤ i
    simpa using hi⟩
  have hi : i < n := by
    have := (List.getElem?_eq_some_iff.mp hx).1
    simpa using this
  have e : lo + (i : Int) = x := by
    rw [List.getElem?_map, List.getElem?_range hi] at hx
    exact Option.some.inj hx
  exact ⟨hi, fun v H' ⟨e1, e2⟩ => ⟨W1, e1.symm, Ext.refl (hC W1 c), by rw [e2, e]; rfl⟩⟩
theorem ji_rng1 {p : Pos} {m : Option Int} (hm : S.mg "range" = none) (h : JN S a Γ m fun x => sh (intS x)) (hg : GlS S "range" := by rfl) (hs : ∀ env, starEach [a] env = [(false, eval a env)] := by intro _; rfl) :
    JI S tg (.Call (.Name "range" p) [a] [] pos) Γ (m.bind fun n => rng 0 n) intS := fun σ W F st xs hx R k => by
  obtain ⟨n, h1, h2⟩ := run1 hx
  unfold rng at h2
  split at h2
  · rename_i hb
    cases h2
    refine ⟨iRng1 (tCons (tOf S a) tNil), fun X hX => pi_range1 (hg.gl hX) (mgS hm hX) (pa_cons (peO hX) pa_nil (hs _)) (hs _), h σ W F st n h1 _ fun v W' Fv ext _ _ r => ?_⟩
    obtain ⟨_, rfl⟩ := r
    have z : (LIM : Int) = 1000000 := rfl
    refine ⟨n, rfl, by omega, by omega, ?_⟩
    have e : (n - 0).toNat = n.toNat := by rw [Int.sub_zero]
    rw [← e]
    exact k _ W' ext (ok_rng fun W1 c => c.1)
  · cases h2
theorem ji_rng2 {p : Pos} {m m' : Option Int} (hm : S.mg "range" = none) (h : JN S a Γ m fun x => sh (intS x)) (h' : JN S b Γ m' fun x => sh (intS x)) (hg : GlS S "range" := by rfl) (hs : ∀ env, starEach [a, b] env = [(false, eval a env), (false, eval b env)] := by intro _; rfl)
    (hs2 : ∀ env, starEach [b] env = [(false, eval b env)] := by intro _; rfl) : JI S tg (.Call (.Name "range" p) [a, b] [] pos) Γ (m.bind fun lo => m'.bind fun hi => rng lo hi) intS := fun σ W F st xs hx R k => by
  obtain ⟨lo, hi, h1, h1', h2⟩ := run2 hx
  unfold rng at h2
  split at h2
  · rename_i hb
    cases h2
    refine ⟨iRng2 (tCons (tOf S a) (tCons (tOf S b) tNil)), fun X hX => pi_range2 (hg.gl hX) (mgS hm hX) (pa_cons (peO hX) (pa_cons (peO hX) pa_nil (hs2 _)) ((hs _).trans (by rw [hs2]))) (hs _) (hs2 _), h σ W F st lo h1 _ fun v W1 Fv ext _ _ r => ?_⟩
    obtain ⟨_, rfl⟩ := r
    refine h' σ W1 F (st.ext ext) hi h1' _ fun v W2 Fv ext2 _ _ r => ?_
    obtain ⟨_, rfl⟩ := r
    have z : (LIM : Int) = 1000000 := rfl
    exact ⟨lo, hi, rfl, by omega, k _ W2 (ext.trans ext2) (ok_rng fun W1 c => c.1)⟩
  · cases h2
/-! ### targets -/
def tgOf (S : Stc) (tg : Expr) : TG := fun v σ H Q => ∃ g : TG, (∀ X, S.In X → PG X tg g) ∧ g v σ H Q
theorem pgO {S : Stc} {X : Cx} {tg : Expr} (h : S.In X) : PG X tg (tgOf S tg) := ⟨fun pins s σ H v u Q I r ⟨_, p, q⟩ => (p X h).run pins s σ H v u Q I r q⟩
/-- a target that stores into the slots ws -/
def JG (S : Stc) (tg : Expr) (E : α → SP) (up : α → Ctx → Ctx) (ws : List Nat) : Prop :=
  ∀ Γ σ W F x v, Sta Γ σ W F → (∀ i ∈ ws, i < Γ.length) → (E x).P W.B v → ∀ Q : L2.St → Hp → Prop, (∀ σ' F', (∀ vs : List Nat, (∀ i ∈ ws, i ∈ vs) → wipe σ' vs = wipe σ vs) → Keep S.prot σ σ' → Sta (up x Γ) σ' W F' → (∀ a ∈ F', a ∈ F) → Q σ' W.H) → tgOf S tg v σ W.H Q
theorem wipe_set {i : Nat} {x : Option V} : ∀ {vs : List Nat} {σ : L2.St}, i ∈ vs → wipe (σ.set i x) vs = wipe σ vs
  | [], _, h => by simp at h
  | v :: vs, σ, h => by
    show (wipe (σ.set i x) vs).set v none = (wipe σ vs).set v none
    by_cases hi : i ∈ vs
    · rw [wipe_set hi]
    · have e : i = v := by simpa [hi] using h
      subst e
      have go : ∀ (ws : List Nat) (σ : L2.St), i ∉ ws → wipe (σ.set i x) ws = (wipe σ ws).set i x := by
        intro ws
        induction ws with
        | nil => intro σ _; rfl
        | cons w ws ih =>
          intro σ hn
          have h1 : w ≠ i := fun z => hn (z ▸ List.mem_cons_self)
          show (wipe (σ.set i x) ws).set w none = ((wipe σ ws).set w none).set i x
          rw [ih σ fun z => hn (List.mem_cons_of_mem _ z), List.set_comm _ _ h1.symm]
      rw [go vs σ hi, List.set_set]
theorem set_keeps {Γ : Ctx} {σ : L2.St} {W : Wd} {F : List Addr} {i : Nat} {p : SP} {v : V} (st : Sta Γ σ W F) (hi : i < Γ.length) (h : p.P W.B v) : ∃ F', Sta (Γ.set i (some (sh p))) (σ.set i (some v)) W F' ∧ ∀ a ∈ F', a ∈ F := by
  obtain ⟨F', s', sub⟩ := st.put (o := sh p) (F1 := []) hi ⟨rfl, h⟩ (by rw [List.append_nil]; exact st.fp)
  exact ⟨F', s', fun a ha => by simpa using sub a ha⟩
theorem jg_name {E : α → SP} {x : Str} {pos : Pos} (i : Nat) (nd : S.N.Nodup) (hN : S.N[i]? = some x := by rfl) (hx : Loc S.sc x := by first | exact Or.inl rfl | exact Or.inr rfl) (hp : (S.prot.contains i) = false := by rfl)
    (hf : S.fn x = true ∨ S.sc.names.lookup x = some .local := by first | exact .inl rfl | exact .inr rfl) : JG S (.Name x pos) E (fun a Γ => Γ.set i (some (sh (E a)))) [i] := fun Γ σ W F y v st hl h Q k => by
  refine ⟨gName i, fun X hX => pg_name (by rw [hX.N]; exact nd) (by rw [hX.N]; exact hN) (locS hx hX) (by rw [hX.fn, hX.sc]; exact hf), ?_⟩
  obtain ⟨F', s', sub⟩ := set_keeps st (hl i (by simp)) h
  exact k _ F' (fun vs hv => wipe_set (hv i (by simp))) (Keep.set (ncon hp)) s' sub
/-- a name that is not read any more -/
theorem jg_pair {E : α → SP} {G : β → SP} {x y : Str} {pos p1 p2 : Pos} {k : Nat} (i j : Nat) (nd : S.N.Nodup) (hN : S.N[i]? = some x := by rfl) (hM : S.N[j]? = some y := by rfl) (hx : Loc S.sc x := by first | exact Or.inl rfl | exact Or.inr rfl) (hy : Loc S.sc y := by first | exact Or.inl rfl | exact Or.inr rfl)
    (hp : (S.prot.contains i) = false := by rfl) (hq : (S.prot.contains j) = false := by rfl) (hf : S.fn x = true ∨ S.sc.names.lookup x = some .local := by first | exact .inl rfl | exact .inr rfl) (hf2 : S.fn y = true ∨ S.sc.names.lookup y = some .local := by first | exact .inl rfl | exact .inr rfl)
    (hs : ∀ env, (assignEach [Expr.Name x p1, .Name y p2] env).map (·.2) = assign (.Name x p1) env :: (assignEach [Expr.Name y p2] env).map (·.2) := by intro _; rfl) (hs2 : ∀ env, (assignEach [Expr.Name y p2] env).map (·.2) = assign (.Name y p2) env :: (assignEach [] env).map (·.2) := by intro _; rfl)
    (hn : ∀ env, (assignEach [Expr.Name x p1, .Name y p2] env).length = 2 := by intro _; rfl) (hst : ∀ env, (assignEach [Expr.Name x p1, .Name y p2] env).findIdx? (·.1) = none := by intro _; rfl) (hcm : S.calm = true := by rfl) :
    JG S (.Tuple [.Name x p1, .Name y p2] k pos) (prS E G) (fun a Γ => (Γ.set i (some (sh (E a.1)))).set j (some (sh (G a.2)))) [i, j] := fun Γ σ W F q v st hl h Q kk => by
  refine ⟨gTup S.K 2 (gCons (gName i) (gCons (gName j) gNil)), fun X hX => hX.K ▸ pg_tup (hX.calm.trans hcm) (pgs_cons (pg_name (by rw [hX.N]; exact nd) (by rw [hX.N]; exact hN) (locS hx hX) (by rw [hX.fn, hX.sc]; exact hf)) (pgs_cons (pg_name (by rw [hX.N]; exact nd) (by rw [hX.N]; exact hM) (locS hy hX) (by rw [hX.fn, hX.sc]; exact hf2)) pgs_nil (hs2 _)) (hs _)) (hn _) (hst _), ?_⟩
  obtain ⟨a, vs, rfl, h2, h3⟩ := h
  match vs, h3 with
  | [u, w], ⟨p1, p2, _⟩ =>
    refine ⟨a, [u, w], rfl, .inl (.inl (st.ok a _ h2)), rfl, u, [w], rfl, w, [], rfl, rfl, ?_⟩
    obtain ⟨F1, s1, sub1⟩ := set_keeps st (hl i (by simp)) p1
    obtain ⟨F2, s2, sub2⟩ := set_keeps s1 (by rw [List.length_set]; exact hl j (by simp)) p2
    refine kk _ F2 (fun vs hv => ?_) ((Keep.set (ncon hp)).trans (Keep.set (ncon hq))) s2 fun b hb => sub1 b (sub2 b hb)
    rw [wipe_set (hv j (by simp)), wipe_set (hv i (by simp))]
/-! ### comprehensions -/
/-- the items that pass, turned -/
def compGo (t : α → Option Bool) (f : α → Option β) : List α → Option (List β)
  | [] => some []
  | x :: xs => (t x).bind fun b => bif b then (f x).bind fun y => (compGo t f xs).bind fun ys => some (y :: ys) else compGo t f xs
def compM (t : α → Option Bool) (f : α → Option β) (xs : List α) : Option (List β) := if xs.length ≤ LIM then compGo t f xs else none
def mapGo (f : α → Option β) : List α → Option (List β)
  | [] => some []
  | x :: xs => (f x).bind fun y => (mapGo f xs).bind fun ys => some (y :: ys)
def mapM (f : α → Option β) (xs : List α) : Option (List β) := if xs.length ≤ LIM then mapGo f xs else none
theorem compGo_yes (f : α → Option β) : ∀ xs : List α, compGo (fun _ => some true) f xs = mapGo f xs
  | [] => rfl
  | x :: xs => by
    show (f x).bind _ = (f x).bind _
    rw [compGo_yes f xs]
def ttsOf (S : Stc) (ifs : List Expr) : TT := fun σ H Q => ∃ t : TT, (∀ X, S.In X → PTs X ifs t) ∧ t σ H Q
theorem ptsO {S : Stc} {X : Cx} {ifs : List Expr} (h : S.In X) : PTs X ifs (ttsOf S ifs) := ⟨fun pins s σ H Q I ⟨_, p, q⟩ => (p X h).run pins s σ H Q I q⟩
def JTs (S : Stc) (ifs : List Expr) (Γ : Ctx) (m : Option Bool) : Prop :=
  ∀ σ W F, Sta Γ σ W F → ∀ b, m = some b → ∀ Q : Bool → Hp → Prop, (∀ W', Ext W W' → Q b W'.H) → ttsOf S ifs σ W.H Q
theorem jts_nil : JTs S [] Γ (some true) := fun σ W F st b hb Q k => by
  cases hb
  exact ⟨tYes, fun _ _ => pts_nil, k W (Ext.refl st.ok)⟩
theorem jts_one {m : Option Bool} (h : JT S c Γ m) : JTs S [c] Γ m := fun σ W F st b hb Q k => ⟨ttOf S c, fun X hX => pts_one (ptO hX), h σ W F st b hb Q k⟩
/-- the block's own slots forgotten -/
def wipeC (Γ : Ctx) : List Nat → Ctx
  | [] => Γ
  | v :: vs => (wipeC Γ vs).set v none
theorem wipeC_len (Γ : Ctx) : ∀ vs, (wipeC Γ vs).length = Γ.length
  | [] => rfl
  | v :: vs => by
    show ((wipeC Γ vs).set v none).length = _
    rw [List.length_set, wipeC_len Γ vs]
theorem Holds.wipe1 {W : Wd} : ∀ {Γ : Ctx} {σ : L2.St} {F : List Addr} (i : Nat), Holds Γ σ W F → ∃ F' G, Holds (Γ.set i none) (σ.set i none) W F' ∧ F.Perm (F' ++ G)
  | [], σ, F, i, h => ⟨[], F, rfl, .refl _⟩
  | none :: Γ, σ, F, 0, h => ⟨F, [], by
      show Holds Γ (σ.set 0 none).tail W F
      cases σ <;> exact h, by rw [List.append_nil]⟩
  | some o :: Γ, σ, F, 0, ⟨v, F1, F2, h1, h2, h3, h4⟩ => ⟨F2, F1, by
      show Holds Γ (σ.set 0 none).tail W F2
      cases σ <;> exact h4, by subst h2; exact List.perm_append_comm⟩
  | none :: Γ, σ, F, i + 1, h => by
    cases σ with
    | nil =>
      obtain ⟨F', G, a1, a2⟩ := Holds.wipe1 (Γ := Γ) (σ := []) i h
      exact ⟨F', G, a1, a2⟩
    | cons s σ =>
      obtain ⟨F', G, a1, a2⟩ := Holds.wipe1 (Γ := Γ) (σ := σ) i h
      exact ⟨F', G, a1, a2⟩
  | some o :: Γ, σ, F, i + 1, ⟨v, F1, F2, h1, h2, h3, h4⟩ => by
    cases σ with
    | nil => simp at h1
    | cons s σ =>
      obtain ⟨F', G, a1, a2⟩ := Holds.wipe1 (Γ := Γ) (σ := σ) i h4
      subst h2
      refine ⟨F1 ++ F', G, ⟨v, F1, F', h1, rfl, h3, a1⟩, ?_⟩
      rw [List.append_assoc]
      exact List.Perm.append_left F1 a2
theorem Sta.wipe {Γ : Ctx} {σ : L2.St} {W : Wd} {F : List Addr} (st : Sta Γ σ W F) : ∀ vs : List Nat, ∃ F', Sta (wipeC Γ vs) (L2.wipe σ vs) W F' ∧ ∀ a ∈ F', a ∈ F
  | [] => ⟨F, st, fun _ h => h⟩
  | v :: vs => by
    obtain ⟨F1, s1, sub1⟩ := st.wipe vs
    obtain ⟨F', G, a1, a2⟩ := s1.hold.wipe1 v
    exact ⟨F', ⟨st.ok, (s1.fp.perm a2).left, by
      show ((L2.wipe σ vs).set v none).length = ((wipeC Γ vs).set v none).length
      rw [List.length_set, List.length_set]; exact s1.len, a1⟩, fun a h => sub1 a (a2.mem_iff.mpr (List.mem_append_left _ h))⟩
/-- a comprehension's parts, and its reading -/
def JC (S : Stc) (elt tg iter : Expr) (ifs : List Expr) (scope : Scope) (Γ : Ctx) (m : Option α) (R : α → OP) : Prop :=
  ∃ own : List (Str × Nat), BlkOk S.N S.sc scope own ∧ ∀ σ W F, Sta Γ σ W F → ∀ x, m = some x → ∀ Q : VK, Got (R x) W Q → tLc (tiOf S tg iter) (tgOf (S.blk scope) tg) (ttsOf (S.blk scope) ifs) (tOf (S.blk scope) elt) (own.map (·.2)) σ W.H Q
theorem jn_lc {scope : Scope} {m : Option α} {R : α → OP} (nd : S.N.Nodup) (h : JC S elt tg iter ifs scope Γ m R) (hs : ∀ env x, foldedSetIterable iter env x = pure x := by intro _ _; rfl) (hcm : S.calm = true := by rfl) : JN S (.ListComp elt [⟨tg, iter, ifs, 0⟩] scope pos) Γ m R := fun σ W F st x hx Q k => by
  obtain ⟨own, ok, go⟩ := h
  exact ⟨_, fun X hX => pe_lc (hX.calm.trans hcm) (by rw [hX.N]; exact nd) (piO hX) (by rw [hX.N, hX.sc]; exact ok) (fun s H C cl fp => pgO (hX.blk scope s H C cl fp)) (fun s H C cl fp => ptsO (hX.blk scope s H C cl fp)) (fun s H C cl fp => peO (hX.blk scope s H C cl fp)) (hs _), go σ W F st x hx Q k⟩
theorem compGo_len {t : α → Option Bool} {f : α → Option β} : ∀ {xs : List α} {ys : List β}, compGo t f xs = some ys → ys.length ≤ xs.length
  | [], ys, h => by cases h; exact Nat.le_refl _
  | x :: xs, ys, h => by
    obtain ⟨b, h1, h2⟩ := run1 (f := fun b => bif b then (f x).bind fun y => (compGo t f xs).bind fun ys => some (y :: ys) else compGo t f xs) h
    cases b with
    | true =>
      obtain ⟨y, ys', h3, h4, h5⟩ := run2 (f := fun y ys => some (y :: ys)) h2
      cases h5
      exact Nat.succ_le_succ (compGo_len h4)
    | false => exact Nat.le_succ_of_le (compGo_len (xs := xs) h2)
/-- the block's turns, over a walk -/
theorem jc_of {scope : Scope} {mi : Option (List α)} {E : α → SP} {up : α → Ctx → Ctx} {ws : List Nat} {mt : α → Option Bool} {me : α → Option β} {R : β → OP} (own : List (Str × Nat)) (hi : JIc S tg iter Γ mi E) (ok : blkC S.N S.sc scope own = true) (hg : JG (S.blk scope) tg E up ws)
    (hw : ∀ i ∈ ws, i ∈ own.map (·.2)) (hl : ∀ i ∈ ws, i < Γ.length) (ht : ∀ x, JTs (S.blk scope) ifs (up x (wipeC Γ (own.map (·.2)))) (mt x)) (he : ∀ x, JN (S.blk scope) elt (up x (wipeC Γ (own.map (·.2)))) (me x) R) :
    JC S elt tg iter ifs scope Γ (mi.bind fun xs => compM mt me xs) fun ys => lstO R ys := by
  refine ⟨own, blkOk_by ok, fun σ W F st ys hx Q k => ?_⟩
  obtain ⟨xs, h1, h2⟩ := run1 hx
  unfold compM at h2
  split at h2
  · rename_i hlen
    refine hi σ W F st xs h1 _ fun J W' ext iok => fun D hD => ?_
    have st' := st.ext ext
    -- the invariant: what is made so far, what is left
    refine ⟨fun i m H => m = xs.length - i ∧ i ≤ xs.length ∧ ∃ (W1 : Wd) (acc : List V) (as : List β) (bs : List β) (Fa : List Addr), W1.H = H ∧ Ext W' W1 ∧ W1.H D = some (.lst acc) ∧ W1.B D = none ∧ as.length ≤ i ∧
      compGo mt me (xs.drop i) = some bs ∧ as ++ bs = ys ∧ Owns R W1 acc as Fa ∧ FpOk W1 Fa ∧ D ∉ Fa ∧ ∀ a ∈ Fa, W'.H a = none, ⟨xs.length, by simp, Nat.zero_le _, ⟨upd W'.H D (.lst []), W'.B⟩, [], [], ys, [], rfl, Ext.new ext.ok hD, upd_same, ext.ok.back hD, Nat.le_refl _, by simpa using h2, rfl, rfl, FpOk.nil, by simp, by simp⟩, ?_⟩
    rintro i m H ⟨rfl, hi', W1, acc, as, bs, Fa, rfl, e1, d1, d2, la, c1, c2, o1, o2, o3, o4⟩
    obtain ⟨iok1, iok2⟩ := iok W1 e1
    by_cases hlt : i < xs.length
    · obtain ⟨g1, g2⟩ := iok1 i xs[i] (List.getElem?_eq_getElem hlt)
      refine .inr ⟨g1, fun H' => ∃ m', m' < xs.length - i ∧ (m' = xs.length - (i + 1) ∧ i + 1 ≤ xs.length ∧ ∃ (W1 : Wd) (acc : List V) (as : List β) (bs : List β) (Fa : List Addr), W1.H = H' ∧ Ext W' W1 ∧ W1.H D = some (.lst acc) ∧ W1.B D = none ∧ as.length ≤ i + 1 ∧
        compGo mt me (xs.drop (i + 1)) = some bs ∧ as ++ bs = ys ∧ Owns R W1 acc as Fa ∧ FpOk W1 Fa ∧ D ∉ Fa ∧ ∀ a ∈ Fa, W'.H a = none), fun H' h => h, fun v H' y => ?_⟩
      obtain ⟨W2, rfl, e2, p2⟩ := g2 v H' y
      have hDrop : xs.drop i = xs[i] :: xs.drop (i + 1) := List.drop_eq_getElem_cons hlt
      rw [hDrop] at c1
      obtain ⟨b, t1, t2⟩ := run1 (f := fun b => bif b then (me xs[i]).bind fun y => (compGo mt me (xs.drop (i + 1))).bind fun ys => some (y :: ys) else compGo mt me (xs.drop (i + 1))) c1
      obtain ⟨Fw, sw, subw⟩ := (st'.ext (e1.trans e2)).wipe (own.map (·.2))
      refine hg _ _ W2 Fw xs[i] v sw (fun j hj => by rw [wipeC_len]; exact hl j hj) p2 _ fun σ2 F2 wp _ s2 sub2 => ⟨?_, ?_⟩
      · rw [wp _ hw]
        exact wipe_wipe σ (own.map (·.2))
      refine ht xs[i] σ2 W2 F2 s2 b t1 _ fun W3 e3 => ?_
      have eAll : Ext W1 W3 := e2.trans e3
      cases b with
      | true =>
        obtain ⟨y1, ys1, t3, t4, t5⟩ := run2 (f := fun y ys => some (y :: ys)) t2
        cases t5
        refine iteT (he xs[i] σ2 W3 F2 (s2.ext e3) y1 t3 _ fun u W4 Fu e4 fr4 fp4 r4 => ?_)
        have eA : Ext W1 W4 := eAll.trans e4
        have hD4 : W4.H D = some (.lst acc) := eA.h D _ d1
        have hB4 : W4.B D = none := eA.fr D (by rw [d1]; exact fun z => nomatch z) d2
        have ha4 : acc.length < LIM := by
          have := o1.len
          omega
        refine ⟨acc, hD4, lim_lt ha4, xs.length - (i + 1), by omega, rfl, hlt, ⟨upd W4.H D (.lst (acc ++ [u])), W4.B⟩, acc ++ [u], as ++ [y1], ys1, Fa ++ Fu, rfl, ?_, upd_same, hB4, ?_, t4, by rw [List.append_assoc]; exact c2, ?_, ?_, ?_, ?_⟩
        · have q := e1.trans eA
          refine ⟨fun a o h => ?_, fun a o h => ?_, q.b, q.fr⟩
          · have z : a ≠ D := fun z => by
              rw [z] at h
              rw [show W4.B D = some o from h] at hB4
              cases hB4
            show upd W4.H D _ a = some o
            rw [upd_ne z]
            exact q.ok a o h
          · show upd W4.H D _ a = some o
            rw [upd_ne (ne_of_none h hD)]
            exact q.h a o h
        · rw [List.length_append, List.length_singleton]
          omega
        · have nD : ∀ a ∈ Fa ++ Fu, a ≠ D := fun a ha z => by
            rcases List.mem_append.mp ha with h | h
            · exact o3 (z ▸ h)
            · have q := e3.h.back (fr4 a h)
              rw [z] at q
              have q2 := e2.h.back q
              rw [d1] at q2
              cases q2
          have A1 : Owns R W4 acc as Fa := o1.loc eA.b fun a ha => eA.h.eq (o2.al a ha)
          have A2 : Owns R W4 [u] [y1] Fu := ⟨Fu, [], (List.append_nil _).symm, r4, rfl⟩
          have A3 : Owns R W4 (acc ++ [u]) (as ++ [y1]) (Fa ++ Fu) := A1.app A2
          refine Owns.loc (W := W4) (W' := ⟨upd W4.H D (.lst (acc ++ [u])), W4.B⟩) (fun _ _ h => h) A3 fun a ha => ?_
          show upd W4.H D (.lst (acc ++ [u])) a = W4.H a
          exact upd_ne (nD a ha)
        · have fpA : FpOk W4 (Fa ++ Fu) := (o2.ext eAll).fresh e4 fp4 fr4
          refine ⟨fpA.nd, fun a ha => ?_, fpA.fr⟩
          show upd W4.H D _ a ≠ none
          by_cases z : a = D
          · rw [z, upd_same]
            exact fun z => nomatch z
          · rw [upd_ne z]
            exact fpA.al a ha
        · intro h
          rcases List.mem_append.mp h with h | h
          · exact o3 h
          · have q := e3.h.back (fr4 D h)
            have q2 := e2.h.back q
            rw [d1] at q2
            cases q2
        · intro a ha
          rcases List.mem_append.mp ha with h | h
          · exact o4 a h
          · exact (e1.trans eAll).h.back (fr4 a h)
      | false =>
        refine iteF ⟨xs.length - (i + 1), by omega, rfl, hlt, W3, acc, as, bs, Fa, rfl, e1.trans eAll, eAll.h D _ d1, eAll.fr D (by rw [d1]; exact fun z => nomatch z) d2, by omega, t2, c2, o1.loc eAll.b fun a ha => eAll.h.eq (o2.al a ha), o2.ext eAll, o3, o4⟩
    · have ei : i = xs.length := by omega
      subst ei
      rw [List.drop_length] at c1
      cases c1
      rw [List.append_nil] at c2
      subst c2
      refine .inl ⟨iok2 _ (Nat.le_refl _), k (.ref D) W1 (D :: Fa) (ext.trans e1) (fun a ha => ?_) ?_ ⟨D, acc, Fa, rfl, d1, rfl, o1⟩⟩
      · rcases List.mem_cons.mp ha with z | z
        · rw [z]; exact ext.h.back hD
        · exact ext.h.back (o4 a z)
      · refine ⟨List.nodup_cons.mpr ⟨o3, o2.nd⟩, fun a ha => ?_, fun a ha => ?_⟩
        · rcases List.mem_cons.mp ha with z | z
          · rw [z, d1]; exact fun z => nomatch z
          · exact o2.al a z
        · rcases List.mem_cons.mp ha with z | z
          · rw [z]; exact d2
          · exact o2.fr a z
  · cases h2
where
  wipe_wipe (σ : L2.St) : ∀ vs : List Nat, L2.wipe (L2.wipe σ vs) vs = L2.wipe σ vs := by
    intro vs
    have go : ∀ (us : List Nat), (∀ i ∈ us, i ∈ vs) → L2.wipe (L2.wipe σ us) vs = L2.wipe σ vs := by
      intro us
      induction us with
      | nil => intro _; rfl
      | cons u us ih =>
        intro h
        show L2.wipe ((L2.wipe σ us).set u none) vs = _
        rw [wipe_set (h u List.mem_cons_self)]
        exact ih fun i hi => h i (List.mem_cons_of_mem _ hi)
    exact go vs fun _ h => h
end
end CC
set_option maxHeartbeats 4000000
/-! Statements, loops, defs. -/
namespace CC
open PySem PySem.Spec L2
open PyProof.Rows hiding St
variable {α β γ δ τ ω ρ υ : Type}
/-! ### a def's promise -/
def spP (G : α → List SP) (fM : α → Option ρ) (R : ρ → OP) : Sp := fun vs H Q _ => ∃ x W r, W.H = H ∧ Ex W.B W.H ∧ Hets W.B vs (G x) ∧ fM x = some r ∧ Got (R r) W Q
/-- the first argument is owned, and changed -/
def spS (O : τ → OP) (G : α → List SP) (fM : α → τ → Option (ρ × τ)) (R : ρ → OP) : Sp := fun vs H Q _ => ∃ x s W F v0 vr r, vs = v0 :: vr ∧ W.H = H ∧ Ex W.B W.H ∧ FpOk W F ∧ (O s).C W v0 F ∧ Hets W.B vr (G x) ∧ fM x s = some r ∧
  ∀ v W' F' Fv, Stp W F W' (F' ++ Fv) → FpOk W' (F' ++ Fv) → (O r.2).C W' v0 F' → (R r.1).C W' v Fv → Q v W'.H
section
variable {S : Stc} {Γ Δ : Ctx} {a b c e tg iter elt : Expr} {es ifs : List Expr} {pos : Pos} {st : Stmt} {rest A B : List Stmt}
theorem passE0 {X : Cx} : Passes CX0 X E0 := fun _ _ _ _ _ _ _ h => h.elim
theorem bindsS {S : Stc} {X : Cx} {fd : FuncData} {ps : List Str} {ds : List Value} (h : S.In X) (b : Binds S.K fd ps ds) : Binds X.K fd ps ds := by rw [h.K]; exact b
theorem jn_call {x : Str} {p : Pos} {f : Addr} {fd : FuncData} {ps : List Str} {k : Nat} {G : α → List SP} {fM : α → Option ρ} {R : ρ → OP} {m : Option α} (Fn : FnOk S.P S.w S.K S.mg S.base CX0 k f fd ps (spP G fM R)) (hm : S.mg x = some (.ref f)) (kp : PySem.W.keepIn S.K (.ref f) = true) (hb : Binds S.K fd ps [])
    (hk : k ≤ S.k) (ha : JA S (e :: es) Γ m G) (hg : GlS S x := by rfl) (hdb : (x == ("__debug__" : Str)) = false := by decide) (he : ∀ env, starEach (e :: es) env = (false, eval e env) :: starEach es env := by intro _; rfl) (hpl : ∀ env, (backTo pos (starEach es env)).any (·.1) = false := by intro _; rfl) (hcm : S.calm = true := by rfl) :
    JN S (.Call (.Name x p) (e :: es) [] pos) Γ (m.bind fun y => fM y) R := fun σ W F st z hz Q kk => by
  obtain ⟨y, h1, h2⟩ := run1 hz
  refine ⟨tCall (spP G fM R) [] E0 (taOf S (e :: es)), fun X hX => pe_call (fnokS Fn hX) ((hX.room hcm).mono hk) (hg.gl hX) (mgS hm hX) (by rw [hX.K]; exact kp) (bindsS hX hb) .nil passE0 (paO hX) hdb (he _) (hpl _), ha σ W F st y h1 _ fun vs W' ext hh => ?_⟩
  show spP G fM R (vs ++ []) W'.H Q E0
  rw [List.append_nil]
  exact ⟨y, W', z, rfl, ext.ok, hh, h2, kk.ext ext⟩
/-! ### statements -/
def NoNx : Kd → Prop
  | .nx _ => False
  | _ => True
theorem jb_one {m : Option ω} {D : ω → Kd} (h : JS S st Γ m D) : JB S [st] Γ m D := fun σ W F sta x hx E k => ⟨tsOf S st, fun X hX => pss_one (psO hX), h σ W F sta x hx E k⟩
/-- the end of a block that falls through -/
theorem jb_nil {x : ω} {D : ω → Kd} (hD : D x = .nx Δ) (w : Weak Γ Δ) : JB S [] Γ (some x) D := fun σ W F sta y hy E k => by
  cases hy
  obtain ⟨F', s', sub⟩ := sta.weak w
  rw [hD] at k
  exact ⟨tNext, fun _ _ => pss_nil, k σ W F' Keep.refl ((Stp.refl sta.ok).perm sub) s'⟩
theorem post_nox {wx : WX} {prot : List Nat} {σ : L2.St} {W : Wd} {F : List Addr} {E : Ends} {N : L2.St → Hp → Prop} {k : Kd} (h : Post wx prot σ W F E k) (n : NoNx k) : Post wx prot σ W F { E with nx := N } k := by
  cases k with
  | nx Γ => exact n.elim
  | bk Γ => exact h
  | ct Γ => exact h
  | rt Γ R => exact h
  | xc Γ R => exact h
/-- one statement, then the rest -/
theorem jb_cons {ms : Option α} {Ds : α → Ctx} {mr : α → Option ω} {D : ω → Kd} (h : JS S st Γ ms fun x => .nx (Ds x)) (hr : ∀ x, JB S rest (Ds x) (mr x) D) : JB S (st :: rest) Γ (ms.bind fun x => mr x) D := fun σ W F sta z hz E k => by
  obtain ⟨x, h1, h2⟩ := run1 hz
  refine ⟨tSeq (tsOf S st) (tbOf S rest), fun X hX => pss_cons (psO hX) (pbO hX), ?_⟩
  exact h σ W F sta x h1 { E with nx := tbOf S rest E } fun σ' W' F' kp stp sta' => hr x σ' W' F' sta' z h2 E (k.before kp stp)
/-- an if whose branch never falls through -/
theorem jb_ifx {mc : Option Bool} {ma : Option υ} {mr : Option ω} {D : ω → Kd} {D' : υ → Kd} (ι : υ → ω) (hc : JT S c Γ mc) (ha : JB S A Γ ma D') (hι : ∀ x, D (ι x) = D' x) (hn : ∀ x, NoNx (D' x)) (hr : JB S rest Γ mr D) :
    JB S (.If c A [] pos :: rest) Γ (mc.bind fun b => bif b then ma.bind fun x => some (ι x) else mr) D := fun σ W F sta z hz E k => by
  obtain ⟨x, h1, h2⟩ := run1 hz
  refine ⟨tSeq (tIfS (ttOf S c) (tbOf S A) tNext) (tbOf S rest), fun X hX => pss_cons (ps_if (ptO hX) (pbO hX) pss_nil) (pbO hX), ?_⟩
  refine hc σ W F sta x h1 _ fun W' ext => ?_
  have stp : Stp W F W' F := by have := ext.stp (F := F) (Fv := []) (by simp); rwa [List.append_nil] at this
  cases x with
  | true =>
    obtain ⟨y, h3, h4⟩ := run1 h2
    cases h4
    refine iteT (ha σ W' F (sta.ext ext) y h3 _ ?_)
    rw [hι] at k
    exact post_nox (k.before Keep.refl stp) (hn y)
  | false => exact iteF (hr σ W' F (sta.ext ext) z h2 E (k.before Keep.refl stp))
/-- the same, the outcome being the block's own -/
theorem jb_ifr {mc : Option Bool} {ma mr : Option ω} {D : ω → Kd} (hc : JT S c Γ mc) (ha : JB S A Γ ma D) (hn : ∀ x, NoNx (D x)) (hr : JB S rest Γ mr D) : JB S (.If c A [] pos :: rest) Γ (mc.bind fun b => bif b then ma else mr) D := fun σ W F sta z hz E k => by
  obtain ⟨x, h1, h2⟩ := run1 hz
  refine ⟨tSeq (tIfS (ttOf S c) (tbOf S A) tNext) (tbOf S rest), fun X hX => pss_cons (ps_if (ptO hX) (pbO hX) pss_nil) (pbO hX), ?_⟩
  refine hc σ W F sta x h1 _ fun W' ext => ?_
  have stp : Stp W F W' F := by have := ext.stp (F := F) (Fv := []) (by simp); rwa [List.append_nil] at this
  cases x with
  | true => exact iteT (ha σ W' F (sta.ext ext) z h2 _ (post_nox (k.before Keep.refl stp) (hn z)))
  | false => exact iteF (hr σ W' F (sta.ext ext) z h2 E (k.before Keep.refl stp))
/-- an if that cannot be taken -/
theorem jb_ifF {mr : Option ω} {D : ω → Kd} (hc : JT S c Γ (some false)) (hr : JB S rest Γ mr D) : JB S (.If c A [] pos :: rest) Γ mr D := fun σ W F sta z hz E k => by
  refine ⟨tSeq (tIfS (ttOf S c) tNever tNext) (tbOf S rest), fun X hX => pss_cons (ps_if (ptO hX) pss_never pss_nil) (pbO hX), ?_⟩
  refine hc σ W F sta false rfl _ fun W' ext => ?_
  have stp : Stp W F W' F := by have := ext.stp (F := F) (Fv := []) (by simp); rwa [List.append_nil] at this
  exact iteF (hr σ W' F (sta.ext ext) z hz E (k.before Keep.refl stp))
/-- an if that is taken and does not fall through -/
theorem jb_ifT {ma : Option ω} {D : ω → Kd} (hc : JT S c Γ (some true)) (ha : JB S A Γ ma D) (hn : ∀ x, NoNx (D x)) : JB S (.If c A [] pos :: rest) Γ ma D := fun σ W F sta z hz E k => by
  refine ⟨tSeq (tIfS (ttOf S c) (tbOf S A) tNext) tNever, fun X hX => pss_cons (ps_if (ptO hX) (pbO hX) pss_nil) pss_never, ?_⟩
  refine hc σ W F sta true rfl _ fun W' ext => ?_
  have stp : Stp W F W' F := by have := ext.stp (F := F) (Fv := []) (by simp); rwa [List.append_nil] at this
  exact iteT (ha σ W' F (sta.ext ext) z hz _ (post_nox (k.before Keep.refl stp) (hn z)))
/-- if .. else -/
theorem js_if {mc : Option Bool} {ma mb : Option ω} {D : ω → Kd} (hc : JT S c Γ mc) (ha : JB S A Γ ma D) (hb : JB S B Γ mb D) : JS S (.If c A B pos) Γ (mc.bind fun b => bif b then ma else mb) D := fun σ W F sta z hz E k => by
  obtain ⟨x, h1, h2⟩ := run1 hz
  refine ⟨tIfS (ttOf S c) (tbOf S A) (tbOf S B), fun X hX => ps_if (ptO hX) (pbO hX) (pbO hX), ?_⟩
  refine hc σ W F sta x h1 _ fun W' ext => ?_
  have stp : Stp W F W' F := by have := ext.stp (F := F) (Fv := []) (by simp); rwa [List.append_nil] at this
  cases x with
  | true => exact iteT (ha σ W' F (sta.ext ext) z h2 _ (k.before Keep.refl stp))
  | false => exact iteF (hb σ W' F (sta.ext ext) z h2 _ (k.before Keep.refl stp))
theorem jb_ret {m : Option α} {R : α → OP} (w : Weak Γ Δ) (h : JN S e Γ m R) : JB S (.Return (some e) pos :: rest) Γ m fun r => .rt Δ (R r) := fun σ W F sta x hx E k => by
  refine ⟨tSeq (tRet (tOf S e)) tNever, fun X hX => pss_cons (ps_ret (peO hX)) pss_never, h σ W F sta x hx _ fun v W' Fv ext fr fp r => ?_⟩
  obtain ⟨F', s', sub⟩ := (sta.ext ext).weak w
  have fpA : FpOk W' (F ++ Fv) := sta.fp.fresh ext fp fr
  have fpB : FpOk W' (F' ++ Fv) := s'.fp.app fpA.right fun a ha => fpA.disj a (sub a ha)
  refine k v σ W' F' Fv Keep.refl ((ext.stp fr).perm fun a ha => ?_) s' fpB r
  rcases List.mem_append.mp ha with h | h
  · exact List.mem_append_left _ (sub a h)
  · exact List.mem_append_right _ h
theorem jb_cont {x : ω} {D : ω → Kd} (hD : D x = .ct Δ) (w : Weak Γ Δ) : JB S (.Continue pos :: rest) Γ (some x) D := fun σ W F sta y hy E k => by
  cases hy
  obtain ⟨F', s', sub⟩ := sta.weak w
  rw [hD] at k
  exact ⟨tSeq tCont tNever, fun _ _ => pss_cons ps_continue pss_never, k σ W F' Keep.refl ((Stp.refl sta.ok).perm sub) s'⟩
theorem jb_brk {x : ω} {D : ω → Kd} (hD : D x = .bk Δ) (w : Weak Γ Δ) : JB S (.Break pos :: rest) Γ (some x) D := fun σ W F sta y hy E k => by
  cases hy
  obtain ⟨F', s', sub⟩ := sta.weak w
  rw [hD] at k
  exact ⟨tSeq tBreak tNever, fun _ _ => pss_cons ps_break pss_never, k σ W F' Keep.refl ((Stp.refl sta.ok).perm sub) s'⟩
/-- name = e -/
theorem sta_set {σ : L2.St} {W W' : Wd} {F Fv : List Addr} {i : Nat} {o : OP} {v : V} (sta : Sta Γ σ W F) (ext : Ext W W') (fr : ∀ a ∈ Fv, W.H a = none) (fp : FpOk W' Fv) (r : o.C W' v Fv) (hi : (Γ[i]?).isSome = true) :
    ∃ F', Sta (Γ.set i (some o)) (σ.set i (some v)) W' F' ∧ Stp W F W' F' := by
  have hl : i < Γ.length := by
    cases h : Γ[i]? with
    | none => rw [h] at hi; cases hi
    | some o => exact (List.getElem?_eq_some_iff.mp h).1
  obtain ⟨F', s', sub⟩ := (sta.ext ext).put hl r (sta.fp.fresh ext fp fr)
  exact ⟨F', s', (ext.stp fr).perm sub⟩
theorem js_set {x : Str} {pos' : Pos} {m : Option α} {R : α → OP} (i : Nat) (nd : S.N.Nodup) (h : JN S e Γ m R) (hi : (Γ[i]?).isSome = true := by rfl) (hN : S.N[i]? = some x := by rfl) (hx : Loc S.sc x := by first | exact Or.inl rfl | exact Or.inr rfl) (hp : (S.prot.contains i) = false := by rfl)
    (hs : ∀ env, swapsWith e (some (.Name x pos')) pos.line env = pure false := by intro _; rfl) (hf : S.fn x = true ∨ S.sc.names.lookup x = some .local := by first | exact .inl rfl | exact .inr rfl) : JS S (.Assign [.Name x pos'] e pos) Γ m fun a => .nx (Γ.set i (some (R a))) := fun σ W F sta y hy E k => by
  refine ⟨tAsg (tOf S e) (gName i), fun X hX => ps_set (by rw [hX.N]; exact nd) (by rw [hX.N]; exact hN) (locS hx hX) (peO hX) (hs _) (by rw [hX.fn, hX.sc]; exact hf), h σ W F sta y hy _ fun v W' Fv ext fr fp r => ?_⟩
  obtain ⟨F', s', stp⟩ := sta_set sta ext fr fp r hi
  exact k _ W' F' (Keep.set (ncon hp)) stp s'
theorem js_setLc {x : Str} {py spos : Pos} {scope : Scope} {m : Option α} {R : α → OP} (i : Nat) (nd : S.N.Nodup) (h : JC S elt tg iter ifs scope Γ m R) (hi : (Γ[i]?).isSome = true := by rfl) (hN : S.N[i]? = some x := by rfl) (hx : S.sc.names.lookup x = some .local := by rfl) (hp : (S.prot.contains i) = false := by rfl)
    (hk : S.sc.kind = .function := by rfl) (hl : (py.line == pos.line) = true := by rfl) (hown : (scope.names.any fun (n, k) => n == x && (k == .local || k == .cell)) = false := by decide +kernel) (hs : ∀ env x, foldedSetIterable iter env x = pure x := by intro _ _; rfl) (hcm : S.calm = true := by rfl) :
    JS S (.Assign [.Name x py] (.ListComp elt [⟨tg, iter, ifs, 0⟩] scope pos) spos) Γ m fun a => .nx (Γ.set i (some (R a))) := fun σ W F sta y hy E k => by
  obtain ⟨own, ok, go⟩ := h
  refine ⟨_, fun X hX => ps_setLc (hX.calm.trans hcm) (by rw [hX.N]; exact nd) (by rw [hX.N]; exact hN) (by rw [hX.sc]; exact hx) (sw_true (by rw [hX.sc]; exact hk) (by rw [hX.sc]; exact hx) hl hown) (piO hX) (by rw [hX.N, hX.sc]; exact ok) (fun s H C cl fp => pgO (hX.blk scope s H C cl fp)) (fun s H C cl fp => ptsO (hX.blk scope s H C cl fp)) (fun s H C cl fp => peO (hX.blk scope s H C cl fp)) (hs _), go σ W F sta y hy _ fun v W' Fv ext fr fp r => ?_⟩
  obtain ⟨F', s', stp⟩ := sta_set sta ext fr fp r hi
  exact k _ W' F' (Keep.set (ncon hp)) stp s'
/-- target = e, a target of names -/
theorem js_asg {m : Option α} {E : α → SP} {up : α → Ctx → Ctx} {ws : List Nat} (h : JN S e Γ m fun x => sh (E x)) (hg : JG S tg E up ws) (hl : ∀ i ∈ ws, i < Γ.length) (hs : ∀ env, swapsWithSole [tg] e pos.line env = pure false := by intro _; rfl) (hw : ∀ env, swappedStores [tg] e env = pure none := by intro _; rfl)
    (h1 : ∀ env, (assignEach [tg] env).map (·.2) = [assign tg env] := by intro _; rfl) : JS S (.Assign [tg] e pos) Γ m fun a => .nx (up a Γ) := fun σ W F sta y hy Ed k => by
  refine ⟨tAsg (tOf S e) (tgOf S tg), fun X hX => ps_asg (peO hX) (pgO hX) (hs _) (hw _) (h1 _), h σ W F sta y hy _ fun v W' Fv ext fr fp r => ?_⟩
  refine hg Γ σ W' F y v (sta.ext ext) hl r.2 _ fun σ' F' _ kp s' sub => ?_
  have stp : Stp W F W' F := by have := ext.stp (F := F) (Fv := []) (by simp); rwa [List.append_nil] at this
  exact k σ' W' F' kp (stp.perm sub) s'
/-! ### for -/
inductive Out (τ ρ : Type) where
  | nx (s : τ)
  | rt (r : ρ)
  | bk (s : τ)
  | ct (s : τ)
def Out.k (o : Out τ ρ) (f : τ → Option ω) (g : ρ → Option ω) : Option ω := match o with
  | .nx s => f s
  | .ct s => f s
  | .bk s => f s
  | .rt r => g r
/-- behind a turn -/
def Out.step (o : Out τ ρ) (k : τ → Option (Out τ ρ)) : Option (Out τ ρ) := match o with
  | .nx s => k s
  | .ct s => k s
  | .bk s => some (.nx s)
  | .rt r => some (.rt r)
def loopGo (f : α → τ → Option (Out τ ρ)) : List α → τ → Option (Out τ ρ)
  | [], s => some (.nx s)
  | x :: xs, s => (f x s).bind fun o => o.step fun s' => loopGo f xs s'
def foldGo (f : α → τ → Option τ) : List α → τ → Option τ
  | [], s => some s
  | x :: xs, s => (f x s).bind fun s' => foldGo f xs s'
/-- the ends of a loop's body, of the loop -/
def DL (Γl : τ → Ctx) (T : ρ → Kd) : Out τ ρ → Kd
  | .nx s => .nx (Γl s)
  | .ct s => .ct (Γl s)
  | .bk s => .bk (Γl s)
  | .rt r => T r
def DF (Γl : τ → Ctx) (T : ρ → Kd) : Out τ ρ → Kd
  | .nx s => .nx (Γl s)
  | .ct s => .nx (Γl s)
  | .bk s => .nx (Γl s)
  | .rt r => T r
theorem js_for {mi : Option (List α)} {E : α → SP} {up : α → Ctx → Ctx} {ws : List Nat} {Γl : τ → Ctx} {T : ρ → Kd} {f : α → τ → Option (Out τ ρ)} (s0 : τ) (hi : JI S tg iter Γ mi E) (hg : JG S tg E up ws) (w : Weak Γ (Γl s0)) (hl : ∀ s, ∀ i ∈ ws, i < (Γl s).length)
    (hT : ∀ r, NoNx (T r) ∧ (∀ Δ, T r ≠ .bk Δ) ∧ ∀ Δ, T r ≠ .ct Δ) (hb : ∀ x s, JB S A (up x (Γl s)) (f x s) (DL Γl T)) (hs : ∀ env x, foldedSetIterable iter env x = pure x := by intro _ _; rfl) (hcm : S.calm = true := by rfl) : JS S (.For tg iter A [] pos) Γ (mi.bind fun xs => loopGo f xs s0) (DF Γl T) := fun σ W F sta z hz Ed k => by
  obtain ⟨xs, h1, h2⟩ := run1 hz
  refine ⟨tFor (tiOf S tg iter) (tgOf S tg) (tbOf S A), fun X hX => ps_for hX.pass (hX.calm.trans hcm) (piO hX) (pgO hX) (pbO hX) (hs _), ?_⟩
  refine hi σ W F sta xs h1 _ fun J W' ext iok => ?_
  have stp0 : Stp W F W' F := by have := ext.stp (F := F) (Fv := []) (by simp); rwa [List.append_nil] at this
  obtain ⟨F0, sa0, sub0⟩ := (sta.ext ext).weak w
  refine ⟨fun i m σ1 H => m = xs.length - i ∧ i ≤ xs.length ∧ ∃ (W1 : Wd) (F1 : List Addr) (s : τ), W1.H = H ∧ Keep S.prot σ σ1 ∧ Stp W' F W1 F1 ∧ Sta (Γl s) σ1 W1 F1 ∧ loopGo f (xs.drop i) s = some z,
    ⟨xs.length, by simp, Nat.zero_le _, W', F0, s0, rfl, Keep.refl, (Stp.refl ext.ok).perm sub0, sa0, by simpa using h2⟩, ?_⟩
  rintro i m σ1 H ⟨rfl, hi', W1, F1, s, rfl, kp, stp, sa, go⟩
  obtain ⟨iok1, iok2⟩ := iok W1 ⟨sa.ok, stp.b⟩
  by_cases hlt : i < xs.length
  · obtain ⟨g1, g2⟩ := iok1 i xs[i] (List.getElem?_eq_getElem hlt)
    refine .inr ⟨g1, fun σ' H' => ∃ m', m' < xs.length - i ∧ (m' = xs.length - (i + 1) ∧ i + 1 ≤ xs.length ∧ ∃ (W1 : Wd) (F1 : List Addr) (s : τ), W1.H = H' ∧ Keep S.prot σ σ' ∧ Stp W' F W1 F1 ∧ Sta (Γl s) σ' W1 F1 ∧ loopGo f (xs.drop (i + 1)) s = some z), fun σ' H' h => h, fun v H' y => ?_⟩
    obtain ⟨W2, rfl, e2, p2⟩ := g2 v H' y
    have stp2 : Stp W1 F1 W2 F1 := by have := e2.stp (F := F1) (Fv := []) (by simp); rwa [List.append_nil] at this
    refine hg (Γl s) σ1 W2 F1 xs[i] v (sa.ext e2) (hl s) p2 _ fun σ2 F2 _ kp2 sa2 sub2 => ?_
    rw [List.drop_eq_getElem_cons hlt] at go
    obtain ⟨o, o1, o2⟩ := run1 (f := fun o : Out τ ρ => o.step fun s' => loopGo f (xs.drop (i + 1)) s') go
    have stpA : Stp W' F W2 F2 := (stp.trans stp2).perm sub2
    refine hb xs[i] s σ2 W2 F2 sa2 o o1 _ ?_
    cases o with
    | nx s' => exact fun σ3 W3 F3 k3 t3 a3 => ⟨xs.length - (i + 1), by omega, rfl, hlt, W3, F3, s', rfl, (kp.trans kp2).trans k3, stpA.trans t3, a3, o2⟩
    | ct s' => exact fun σ3 W3 F3 k3 t3 a3 => ⟨xs.length - (i + 1), by omega, rfl, hlt, W3, F3, s', rfl, (kp.trans kp2).trans k3, stpA.trans t3, a3, o2⟩
    | bk s' =>
      cases o2
      exact fun σ3 W3 F3 k3 t3 a3 => k σ3 W3 F3 ((kp.trans kp2).trans k3) (stp0.trans (stpA.trans t3)) a3
    | rt r =>
      cases o2
      obtain ⟨n1, n2, n3⟩ := hT r
      have k' : Post S.W S.prot σ W F Ed (T r) := k
      show Post S.W S.prot σ2 W2 F2 _ (T r)
      have k'' := k'.before (kp.trans kp2) (stp0.trans stpA)
      generalize hq : T r = q at k'' n1
      cases q with
      | nx Γ => exact n1.elim
      | bk Γ => exact absurd hq (n2 Γ)
      | ct Γ => exact absurd hq (n3 Γ)
      | rt Γ R => exact k''
      | xc Γ R => exact k''
  · have ei : i = xs.length := by omega
    subst ei
    rw [List.drop_length] at go
    cases go
    exact .inl ⟨iok2 _ (Nat.le_refl _), k σ1 W1 F1 kp (stp0.trans stp) sa⟩
theorem loopGo_fold {f : α → τ → Option τ} : ∀ (xs : List α) (s : τ), loopGo (ρ := Empty) (fun x s => (f x s).bind fun s' => some (.nx s')) xs s = (foldGo f xs s).bind fun s' => some (.nx s')
  | [], s => rfl
  | x :: xs, s => by
    show ((f x s).bind fun s' => some (Out.nx s')).bind _ = ((f x s).bind fun s' => foldGo f xs s').bind _
    cases f x s with
    | none => rfl
    | some s' => exact loopGo_fold xs s'
theorem JB.map {sts : List Stmt} {m : Option α} {D : ω → Kd} {g : α → ω} {D' : α → Kd} (h : JB S sts Γ m D') (hD : ∀ x, D (g x) = D' x) : JB S sts Γ (m.bind fun x => some (g x)) D := fun σ W F sta z hz E k => by
  obtain ⟨x, h1, h2⟩ := run1 hz
  cases h2
  rw [hD] at k
  exact h σ W F sta x h1 E k
theorem js_forS {mi : Option (List α)} {E : α → SP} {up : α → Ctx → Ctx} {ws : List Nat} {Γl : τ → Ctx} {f : α → τ → Option τ} (s0 : τ) (hi : JI S tg iter Γ mi E) (hg : JG S tg E up ws) (w : Weak Γ (Γl s0)) (hl : ∀ s, ∀ i ∈ ws, i < (Γl s).length)
    (hb : ∀ x s, JB S A (up x (Γl s)) (f x s) fun s' => .nx (Γl s')) (hs : ∀ env x, foldedSetIterable iter env x = pure x := by intro _ _; rfl) (hcm : S.calm = true := by rfl) : JS S (.For tg iter A [] pos) Γ (mi.bind fun xs => foldGo f xs s0) fun s => .nx (Γl s) := fun σ W F sta z hz Ed k => by
  have h := js_for (ρ := Empty) (T := fun r => nomatch r) (f := fun x s => (f x s).bind fun s' => some (.nx s')) (pos := pos) s0 hi hg w hl (fun r => nomatch r) (fun x s => JB.map (hb x s) fun s' => rfl) hs hcm
  refine h σ W F sta (.nx z) ?_ Ed k
  obtain ⟨xs, h1, h2⟩ := run1 hz
  rw [h1]
  show loopGo _ xs s0 = _
  rw [loopGo_fold, h2]
  rfl
/-- a statement that may return, then the rest -/
theorem jb_consO {ms : Option (Out τ υ)} {Γl : τ → Ctx} {T : υ → Kd} {mr : τ → Option ω} {D : ω → Kd} (ι : υ → ω) (h : JS S st Γ ms (DF Γl T)) (hι : ∀ r, D (ι r) = T r) (hT : ∀ r, NoNx (T r)) (hr : ∀ s, JB S rest (Γl s) (mr s) D) :
    JB S (st :: rest) Γ (ms.bind fun o => o.k mr fun r => some (ι r)) D := fun σ W F sta z hz E k => by
  obtain ⟨o, h1, h2⟩ := run1 hz
  refine ⟨tSeq (tsOf S st) (tbOf S rest), fun X hX => pss_cons (psO hX) (pbO hX), ?_⟩
  refine h σ W F sta o h1 { E with nx := tbOf S rest E } ?_
  cases o with
  | nx s => exact fun σ' W' F' kp stp sta' => hr s σ' W' F' sta' z h2 E (k.before kp stp)
  | ct s => exact fun σ' W' F' kp stp sta' => hr s σ' W' F' sta' z h2 E (k.before kp stp)
  | bk s => exact fun σ' W' F' kp stp sta' => hr s σ' W' F' sta' z h2 E (k.before kp stp)
  | rt r =>
    cases h2
    rw [hι] at k
    exact post_nox k (hT r)
/-! ### while -/
def whileGo (c : τ → Option Bool) (f : τ → Option (Out τ ρ)) : Nat → τ → Option (Out τ ρ)
  | 0, _ => none
  | n + 1, s => (c s).bind fun b => bif b then (f s).bind fun o => o.step fun s' => whileGo c f n s' else some (.nx s)
theorem js_while {Γl : τ → Ctx} {T : ρ → Kd} {mc : τ → Option Bool} {f : τ → Option (Out τ ρ)} (n : Nat) (s0 : τ) (w : Weak Γ (Γl s0)) (hT : ∀ r, NoNx (T r) ∧ (∀ Δ, T r ≠ .bk Δ) ∧ ∀ Δ, T r ≠ .ct Δ) (hc : ∀ s, JT S c (Γl s) (mc s)) (hb : ∀ s, JB S A (Γl s) (f s) (DL Γl T)) :
    JS S (.While c A [] pos) Γ (whileGo mc f n s0) (DF Γl T) := fun σ W F sta z hz Ed k => by
  refine ⟨tWhile (ttOf S c) (tbOf S A), fun X hX => ps_while hX.pass (ptO hX) (pbO hX), ?_⟩
  obtain ⟨F0, sa0, sub0⟩ := sta.weak w
  refine ⟨fun m σ1 H => ∃ (W1 : Wd) (F1 : List Addr) (s : τ), W1.H = H ∧ Keep S.prot σ σ1 ∧ Stp W F W1 F1 ∧ Sta (Γl s) σ1 W1 F1 ∧ whileGo mc f m s = some z, ⟨n, W, F0, s0, rfl, Keep.refl, (Stp.refl sta.ok).perm sub0, sa0, hz⟩, ?_⟩
  rintro m σ1 H ⟨W1, F1, s, rfl, kp, stp, sa, go⟩
  cases m with
  | zero => cases go
  | succ m =>
    obtain ⟨b, b1, b2⟩ := run1 (f := fun b => bif b then (f s).bind fun o : Out τ ρ => o.step fun s' => whileGo mc f m s' else some (.nx s)) go
    refine hc s σ1 W1 F1 sa b b1 _ fun W2 e2 => ?_
    have stp2 : Stp W1 F1 W2 F1 := by have := e2.stp (F := F1) (Fv := []) (by simp); rwa [List.append_nil] at this
    have stpA := stp.trans stp2
    cases b with
    | true =>
      obtain ⟨o, o1, o2⟩ := run1 (f := fun o : Out τ ρ => o.step fun s' => whileGo mc f m s') b2
      refine iteT ⟨fun σ' H' => ∃ m', m' < m + 1 ∧ ∃ (W1 : Wd) (F1 : List Addr) (s : τ), W1.H = H' ∧ Keep S.prot σ σ' ∧ Stp W F W1 F1 ∧ Sta (Γl s) σ' W1 F1 ∧ whileGo mc f m' s = some z, fun σ' H' h => h, ?_⟩
      refine hb s σ1 W2 F1 (sa.ext e2) o o1 _ ?_
      cases o with
      | nx s' => exact fun σ3 W3 F3 k3 t3 a3 => ⟨m, Nat.lt_succ_self m, W3, F3, s', rfl, kp.trans k3, stpA.trans t3, a3, o2⟩
      | ct s' => exact fun σ3 W3 F3 k3 t3 a3 => ⟨m, Nat.lt_succ_self m, W3, F3, s', rfl, kp.trans k3, stpA.trans t3, a3, o2⟩
      | bk s' =>
        cases o2
        exact fun σ3 W3 F3 k3 t3 a3 => k σ3 W3 F3 (kp.trans k3) (stpA.trans t3) a3
      | rt r =>
        cases o2
        obtain ⟨n1, n2, n3⟩ := hT r
        have k' : Post S.W S.prot σ W F Ed (T r) := k
        show Post S.W S.prot σ1 W2 F1 _ (T r)
        have k'' := k'.before kp stpA
        generalize hq : T r = q at k'' n1
        cases q with
        | nx Γ => exact n1.elim
        | bk Γ => exact absurd hq (n2 Γ)
        | ct Γ => exact absurd hq (n3 Γ)
        | rt Γ R => exact k''
        | xc Γ R => exact k''
    | false =>
      cases b2
      exact iteF (k σ1 W2 F1 kp stpA (sa.ext e2))
/-! ### writing into what is owned -/
theorem set_back {σ : L2.St} {i : Nat} {v : V} (h : σ[i]? = some (some v)) : σ.set i (some v) = σ := by
  refine List.ext_getElem? fun j => ?_
  by_cases e : i = j
  · subst e
    rw [h, List.getElem?_set_self (List.getElem?_eq_some_iff.mp h).1]
  · rw [List.getElem?_set_ne e]
/-- the owned slot i is rewritten: its own addresses F1 become F1' (with some of the owned temporaries G), all else stays -/
theorem sta_own {σ : L2.St} {W W' : Wd} {F F1 F2 F1' : List Addr} {i : Nat} {o' : OP} {v : V} (G : List Addr) (sta : Sta Γ σ W F) (fpG : FpOk W (F ++ G)) (h1 : σ[i]? = some (some v)) (hp : F.Perm (F1 ++ F2))
    (re : ∀ (W' : Wd) (o' : OP) (v' : V) (F1' : List Addr), Ex W.B W'.B → (∀ a ∈ F2, W'.H a = W.H a) → o'.C W' v' F1' → ∃ F', Holds (Γ.set i (some o')) (σ.set i (some v')) W' F' ∧ F'.Perm (F1' ++ F2))
    (ok : Ex W'.B W'.H) (eb : W'.B = W.B) (hh : ∀ a, a ∉ F1 → W.H a ≠ none → W'.H a = W.H a) (al : ∀ a, W.H a ≠ none → W'.H a ≠ none) (fp1 : FpOk W' F1') (fr1 : ∀ a ∈ F1', a ∈ F1 ∨ a ∈ G ∨ W.H a = none) (r : o'.C W' v F1') :
    ∃ F', Sta (Γ.set i (some o')) σ W' F' ∧ Stp W (F ++ G) W' F' := by
  have fp := sta.fp.perm hp
  have ne2 : ∀ a ∈ F2, a ∉ F1 := fun a ha h => fp.disj a h ha
  obtain ⟨F', c1, c2⟩ := re W' o' v F1' (by rw [eb]; exact Ex.refl _) (fun a ha => hh a (ne2 a ha) (fp.right.al a ha)) r
  rw [set_back h1] at c1
  have fpB : FpOk W' (F1' ++ F2) := fp1.app ⟨fp.right.nd, fun a ha => al a (fp.right.al a ha), fun a ha => by rw [eb]; exact fp.right.fr a ha⟩ fun a ha h => by
    rcases fr1 a ha with z | z | z
    · exact ne2 a h z
    · exact fpG.disj a (hp.mem_iff.mpr (List.mem_append_right _ h)) z
    · exact fp.right.al a h z
  refine ⟨F', ⟨ok, fpB.perm c2.symm, by rw [List.length_set]; exact sta.len, c1⟩, ok, by rw [eb]; exact Ex.refl _, fun a o h n => ?_, al, fun a _ h2 _ => by rw [eb]; exact h2, fun a ha => ?_⟩
  · rw [hh a (fun z => n (List.mem_append_left _ (hp.mem_iff.mpr (List.mem_append_left _ z)))) (by rw [h]; exact fun z => nomatch z)]
    exact h
  · rcases List.mem_append.mp (c2.mem_iff.mp ha) with z | z
    · rcases fr1 a z with q | q | q
      · exact .inl (List.mem_append_left _ (hp.mem_iff.mpr (List.mem_append_left _ q)))
      · exact .inl (List.mem_append_right _ q)
      · exact .inr q
    · exact .inl (List.mem_append_left _ (hp.mem_iff.mpr (List.mem_append_right _ z)))
/-- one address of an owned thing is written -/
theorem wr_ok {W : Wd} {p : Addr} {o : HO} (ok : Ex W.B W.H) (hB : W.B p = none) : Ex W.B (upd W.H p o) := fun a u h => by
  have z : a ≠ p := fun z => by rw [z, hB] at h; cases h
  rw [upd_ne z]
  exact ok a u h
theorem wr_al {W : Wd} {p : Addr} {o : HO} : ∀ a, W.H a ≠ none → upd W.H p o a ≠ none := fun a h => by
  by_cases z : a = p
  · rw [z, upd_same]; exact fun z => nomatch z
  · rw [upd_ne z]; exact h
def appM (xs : List α) (x : α) : Option (List α) := if xs.length < LIM then some (xs ++ [x]) else none
theorem js_app {x : Str} {p0 apos cpos spos : Pos} {E : α → OP} {xs : List α} {m : Option α} (i : Nat) (h : JN S e Γ m E) (hi : Γ[i]? = some (some (lstO E xs)) := by rfl) (hN : S.N[i]? = some x := by rfl) (hv : Vis S.sc x := by first | exact Or.inl rfl | exact Or.inr (Or.inl rfl) | exact Or.inr (Or.inr rfl))
    (hd : (x == ("__debug__" : Str)) = false := by decide) (hcd : (x == ("__classdict__" : Str)) = false := by decide)
    (hbase : ∀ env, attributeBase (.Name x p0) "append" env (eval (.Name x p0) env) = eval (.Name x p0) env := by intro _; rfl)
    (hfew : ∀ env, ((backTo cpos (starEach [e] env)).all (fun x => !x.1) && (backToKw cpos (keywordEach [] env)).all (fun x => x.1.isSome) && decide ([e].length + ([] : List Keyword).length + (if ([] : List Keyword).isEmpty then 0 else 1) < 30)) = true := by intro _; rfl)
    (hline : (apos.endLine == cpos.line) = true := by rfl) (hs : ∀ env, starEach [e] env = (false, eval e env) :: starEach [] env := by intro _; rfl) (hsw : ∀ env, swapsWith (.Call (.Attribute (.Name x p0) "append" apos) [e] [] cpos) none spos.line env = pure false := by intro _; rfl) :
    JS S (.Expr (.Call (.Attribute (.Name x p0) "append" apos) [e] [] cpos) spos) Γ (m.bind fun y => appM xs y) fun ys => .nx (Γ.set i (some (lstO E ys))) := fun σ W F sta z hz Ed k => by
  obtain ⟨y, h1, h2⟩ := run1 hz
  unfold appM at h2
  split at h2
  · rename_i hlen
    cases h2
    refine ⟨tDrop (tBM S.K "list" rAppend (tVar i) (tCons (tOf S e) tNil)), fun X hX => ps_expr (hX.K ▸ pe_bm PySem.F.plainAttrs_list PySem.F.slot_list_append PySem.F.type_list_append mt_append (pe_var (by rw [hX.N]; exact hN) (visS hv hX) hd hcd) (pa_cons (peO hX) pa_nil (hs _)) (hbase _) (hfew _) hline (hs _) rfl) (hsw _), ?_⟩
    obtain ⟨v, F1, F2, a1, a2, a3, a4⟩ := sta.hold.at hi
    obtain ⟨p, vs, G2, rfl, b2, rfl, b4⟩ := id a2
    refine ⟨.ref p, a1, .inl ⟨rfl, vs, .inl (.inl b2)⟩, h σ W F sta y h1 _ fun u W1 Fv ext fr fp r => ?_⟩
    have sta1 := sta.ext ext
    obtain ⟨v', F1', F2', c1, c2, c3, c4⟩ := sta1.hold.at hi
    have ev : v' = .ref p := by rw [a1] at c1; exact (Option.some.inj (Option.some.inj c1)).symm
    subst ev
    obtain ⟨p', vs', G2', e1, d2, rfl, d4⟩ := c2
    cases e1
    have hp1 : W1.H p = some (.lst vs) := ext.h p _ b2
    have evs : vs' = vs := by
      rw [hp1] at d2
      cases d2
      rfl
    subst evs
    have hB : W1.B p = none := (sta1.fp.perm c3).fr p (by simp)
    have fpA : FpOk W1 ((p :: G2') ++ Fv) := by
      have q : FpOk W1 (F ++ Fv) := sta.fp.fresh ext fp fr
      have q2 : FpOk W1 (((p :: G2') ++ F2') ++ Fv) := q.perm (List.Perm.append_right Fv c3)
      refine FpOk.left (F' := F2') (q2.perm ?_)
      rw [List.append_assoc, List.append_assoc]
      exact List.Perm.append_left _ List.perm_append_comm
    have q : FpOk W1 (F ++ Fv) := sta.fp.fresh ext fp fr
    refine ⟨p, vs', u, rfl, rfl, hp1, lim_lt (by rw [d4.len]; exact hlen), ?_⟩
    have nP : ∀ a ∈ G2' ++ Fv, a ≠ p := fun a ha z => (List.nodup_cons.mp fpA.nd).1 (z ▸ ha)
    have A3 : Owns E W1 (vs' ++ [u]) (xs ++ [y]) (G2' ++ Fv) := d4.app ⟨Fv, [], (List.append_nil _).symm, r, rfl⟩
    have A4 : Owns E ⟨upd W1.H p (.lst (vs' ++ [u])), W1.B⟩ (vs' ++ [u]) (xs ++ [y]) (G2' ++ Fv) := Owns.loc (W := W1) (W' := ⟨upd W1.H p (.lst (vs' ++ [u])), W1.B⟩) (fun _ _ h => h) A3 fun a ha => by
      show upd W1.H p (.lst (vs' ++ [u])) a = W1.H a
      exact upd_ne (nP a ha)
    obtain ⟨F', s', stp⟩ := sta_own (W' := ⟨upd W1.H p (.lst (vs' ++ [u])), W1.B⟩) (F1' := p :: (G2' ++ Fv)) (o' := lstO E (xs ++ [y])) Fv sta1 q c1 c3 c4 (wr_ok ext.ok hB) rfl (fun a ha _ => upd_ne fun z => ha (z ▸ List.mem_cons_self)) wr_al
      ⟨fpA.nd, fun a ha => wr_al a (fpA.al a ha), fpA.fr⟩ (fun a ha => by
        rcases List.mem_cons.mp ha with z | z
        · exact .inl (z ▸ List.mem_cons_self)
        · rcases List.mem_append.mp z with z | z
          · exact .inl (List.mem_cons_of_mem _ z)
          · exact .inr (.inl z)) ⟨p, vs' ++ [u], G2' ++ Fv, rfl, upd_same, rfl, A4⟩
    exact k σ _ F' Keep.refl ((ext.stp fr).trans stp) s'
  · cases h2
end
end CC
set_option maxHeartbeats 4000000
/-! Operations by values; writing; defs; state. -/
namespace CC
open PySem PySem.Spec L2
open PyProof.Rows hiding St
variable {α β γ δ τ ω ρ υ : Type}
/-! ### operations -/
theorem ov_I0 {g : Int → Int → V} {h : Int → Int → γ} {E : γ → SP} (hg : ∀ i j B, (E (h i j)).P B (g i j)) : OpV (rI0 g) intS intS (fun i j => some (h i j)) fun z => sh (E z) := fun W x y v u z ok hx hy e Q k => by
  cases e
  cases hx
  cases hy
  exact ⟨x, y, rfl, rfl, k.val ok (hg _ _ _)⟩
theorem ov_I {C : Int → Int → Prop} {g : Int → Int → V} {h : Int → Int → Option γ} {E : γ → SP} (hc : ∀ i j z, h i j = some z → C i j ∧ ∀ B, (E z).P B (g i j)) : OpV (rI C g) intS intS h fun z => sh (E z) := fun W x y v u z ok hx hy e Q k => by
  cases hx
  cases hy
  exact ⟨x, y, rfl, rfl, (hc _ _ _ e).1, k.val ok ((hc _ _ _ e).2 _)⟩
def addO (x y : Int) : Option Int := some (x + y)
def subO (x y : Int) : Option Int := some (x - y)
def mulO (x y : Int) : Option Int := if (-(2 ^ 64) < x ∧ x < 2 ^ 64) ∨ (-(2 ^ 64) < y ∧ y < 2 ^ 64) then some (x * y) else none
def divO (x y : Int) : Option Int := if 0 < y ∧ y < 1073741824 then some (x / y) else none
def modO (x y : Int) : Option Int := if 0 < y then some (x % y) else none
theorem ov_add : OpV (rI0 fun i j => .int (i + j)) intS intS (fun x y => some (x + y)) fun z => sh (intS z) := ov_I0 fun _ _ _ => rfl
theorem ov_sub : OpV (rI0 fun i j => .int (i - j)) intS intS (fun x y => some (x - y)) fun z => sh (intS z) := ov_I0 fun _ _ _ => rfl
theorem ov_mul : OpV (rI CMul fun i j => .int (i * j)) intS intS mulO fun z => sh (intS z) := ov_I fun i j z h => by
  unfold mulO at h
  split at h
  · cases h
    rename_i c
    exact ⟨c, fun _ => rfl⟩
  · cases h
theorem ov_div : OpV (rI CDiv fun i j => .int (i / j)) intS intS divO fun z => sh (intS z) := ov_I fun i j z h => by
  unfold divO at h
  split at h
  · cases h
    rename_i c
    exact ⟨c, fun _ => rfl⟩
  · cases h
theorem ov_mod : OpV (rI (fun _ j => 0 < j) fun i j => .int (i % j)) intS intS modO fun z => sh (intS z) := ov_I fun i j z h => by
  unfold modO at h
  split at h
  · cases h
    rename_i c
    exact ⟨c, fun _ => rfl⟩
  · cases h
theorem ov_lt : OpV (rI0 fun i j => .bl (decide (i < j))) intS intS (fun x y => some (decide (x < y))) fun z => sh (boolS z) := ov_I0 fun _ _ _ => rfl
theorem ov_le : OpV (rI0 fun i j => .bl (decide (i ≤ j))) intS intS (fun x y => some (decide (x ≤ y))) fun z => sh (boolS z) := ov_I0 fun _ _ _ => rfl
theorem ov_gt : OpV (rI0 fun i j => .bl (decide (j < i))) intS intS (fun x y => some (decide (y < x))) fun z => sh (boolS z) := ov_I0 fun _ _ _ => rfl
theorem ov_ge : OpV (rI0 fun i j => .bl (decide (j ≤ i))) intS intS (fun x y => some (decide (y ≤ x))) fun z => sh (boolS z) := ov_I0 fun _ _ _ => rfl
theorem ov_eqI : OpV rEq intS intS (fun x y => some (decide (x = y))) fun z => sh (boolS z) := fun W x y v u z ok hx hy e Q k => by
  cases e
  cases hx
  cases hy
  refine ⟨rfl, k.val ok ?_⟩
  show V.bl (decide (V.int x = V.int y)) = V.bl (decide (x = y))
  simp
theorem ov_neI : OpV rNe intS intS (fun x y => some (!decide (x = y))) fun z => sh (boolS z) := fun W x y v u z ok hx hy e Q k => by
  cases e
  cases hx
  cases hy
  refine ⟨rfl, k.val ok ?_⟩
  show V.bl (!decide (V.int x = V.int y)) = V.bl (!decide (x = y))
  simp
theorem ov_eqB : OpV rEq boolS boolS (fun x y => some (decide (x = y))) fun z => sh (boolS z) := fun W x y v u z ok hx hy e Q k => by
  cases e
  cases hx
  cases hy
  refine ⟨rfl, k.val ok ?_⟩
  show V.bl (decide (V.bl x = V.bl y)) = V.bl (decide (x = y))
  simp
theorem ov_neB : OpV rNe boolS boolS (fun x y => some (!decide (x = y))) fun z => sh (boolS z) := fun W x y v u z ok hx hy e Q k => by
  cases e
  cases hx
  cases hy
  refine ⟨rfl, k.val ok ?_⟩
  show V.bl (!decide (V.bl x = V.bl y)) = V.bl (!decide (x = y))
  simp
theorem ov_neS : OpV rNe strS strS (fun x y => some (!decide (x = y))) fun z => sh (boolS z) := fun W x y v u z ok hx hy e Q k => by
  cases e
  cases hx
  cases hy
  refine ⟨rfl, k.val ok ?_⟩
  show V.bl (!decide (V.str x = V.str y)) = V.bl (!decide (x = y))
  simp
theorem ov_eqS : OpV rEq strS strS (fun x y => some (decide (x = y))) fun z => sh (boolS z) := fun W x y v u z ok hx hy e Q k => by
  cases e
  cases hx
  cases hy
  refine ⟨rfl, k.val ok ?_⟩
  show V.bl (decide (V.str x = V.str y)) = V.bl (decide (x = y))
  simp
/-- None or not, by what the value is known to be -/
class NotNon (E : α → SP) : Prop where
  out : ∀ x B v, (E x).P B v → v ≠ .non
instance : NotNon intS := ⟨fun x B v h z => by cases h; cases z⟩
instance : NotNon boolS := ⟨fun x B v h z => by cases h; cases z⟩
instance : NotNon strS := ⟨fun x B v h z => by cases h; cases z⟩
instance {E : α → SP} : NotNon (lstS E) := ⟨fun x B v h z => by obtain ⟨a, _, rfl, _⟩ := h; cases z⟩
instance {E : α → SP} : NotNon (tupS E) := ⟨fun x B v h z => by obtain ⟨a, _, rfl, _⟩ := h; cases z⟩
instance {E : α → SP} {G : β → SP} : NotNon (prS E G) := ⟨fun x B v h z => by obtain ⟨a, _, rfl, _⟩ := h; cases z⟩
theorem ov_isN0 {E : α → SP} [n : NotNon E] : OpV (fun x y H Q => y = .non ∧ Q (.bl (decide (x = .non))) H) E (fun _ : Unit => nonS) (fun _ _ => some false) fun z => sh (boolS z) := fun W x y v u z ok hx hy e Q k => by
  cases e
  cases hy
  refine ⟨rfl, ?_⟩
  rw [decide_eq_false (n.out x _ _ hx)]
  exact k.val ok rfl
theorem ov_notN0 {E : α → SP} [n : NotNon E] : OpV (fun x y H Q => y = .non ∧ Q (.bl (!decide (x = .non))) H) E (fun _ : Unit => nonS) (fun _ _ => some true) fun z => sh (boolS z) := fun W x y v u z ok hx hy e Q k => by
  cases e
  cases hy
  refine ⟨rfl, ?_⟩
  rw [decide_eq_false (n.out x _ _ hx)]
  exact k.val ok rfl
theorem ov_isNO {E : α → SP} [n : NotNon E] : OpV (fun x y H Q => y = .non ∧ Q (.bl (decide (x = .non))) H) (optS E) (fun _ : Unit => nonS) (fun x _ => some x.isNone) fun z => sh (boolS z) := fun W x y v u z ok hx hy e Q k => by
  cases e
  cases hy
  refine ⟨rfl, ?_⟩
  cases x with
  | none =>
    cases hx
    exact k.val ok rfl
  | some x =>
    rw [decide_eq_false (n.out x _ _ hx)]
    exact k.val ok rfl
theorem ov_notNO {E : α → SP} [n : NotNon E] : OpV (fun x y H Q => y = .non ∧ Q (.bl (!decide (x = .non))) H) (optS E) (fun _ : Unit => nonS) (fun x _ => some x.isSome) fun z => sh (boolS z) := fun W x y v u z ok hx hy e Q k => by
  cases e
  cases hy
  refine ⟨rfl, ?_⟩
  cases x with
  | none =>
    cases hx
    exact k.val ok rfl
  | some x =>
    rw [decide_eq_false (n.out x _ _ hx)]
    exact k.val ok rfl
section
variable {S : Stc}
theorem oAdd : ∀ X, S.In X → OpR X (binaryOp .Add) (rI0 fun i j => .int (i + j)) := fun _ _ => op_add
theorem oSub : ∀ X, S.In X → OpR X (binaryOp .Sub) (rI0 fun i j => .int (i - j)) := fun _ _ => op_sub
theorem oMul : ∀ X, S.In X → OpR X (binaryOp .Mult) (rI CMul fun i j => .int (i * j)) := fun _ _ => op_mul
theorem oDiv : ∀ X, S.In X → OpR X (binaryOp .FloorDiv) (rI CDiv fun i j => .int (i / j)) := fun _ _ => op_fdiv
theorem oMod : ∀ X, S.In X → OpR X (binaryOp .Mod) (rI (fun _ j => 0 < j) fun i j => .int (i % j)) := fun _ _ => op_mod
theorem oLt : ∀ X, S.In X → OpR X (compareOp .Lt) (rI0 fun i j => .bl (decide (i < j))) := fun _ _ => op_lt
theorem oLe : ∀ X, S.In X → OpR X (compareOp .LtE) (rI0 fun i j => .bl (decide (i ≤ j))) := fun _ _ => op_le
theorem oGt : ∀ X, S.In X → OpR X (compareOp .Gt) (rI0 fun i j => .bl (decide (j < i))) := fun _ _ => op_gt
theorem oGe : ∀ X, S.In X → OpR X (compareOp .GtE) (rI0 fun i j => .bl (decide (j ≤ i))) := fun _ _ => op_ge
theorem oEq : ∀ X, S.In X → OpR X (compareOp .Eq) rEq := fun _ _ => op_eq
theorem oNe : ∀ X, S.In X → OpR X (compareOp .NotEq) rNe := fun _ _ => op_ne
theorem oIsN : ∀ X, S.In X → OpR X (compareOp .Is) (fun x y H Q => y = .non ∧ Q (.bl (decide (x = .non))) H) := fun _ _ => op_isN
theorem oNotN : ∀ X, S.In X → OpR X (compareOp .IsNot) (fun x y H Q => y = .non ∧ Q (.bl (!decide (x = .non))) H) := fun _ _ => op_notN
theorem oIxL : ∀ X, S.In X → IxR X (rIxL S.K) := fun _ h => h.K ▸ ix_list
theorem oIxT : ∀ X, S.In X → IxR X (rIxT S.K) := fun _ h => h.K ▸ ix_tup
end
theorem atI_each {E : α → SP} {B : Hp} {vs : List V} {xs : List α} {i : Int} {x : α} (h : Each E B vs xs) (e : atI xs i = some x) : ∃ v, atI vs i = some v ∧ (E x).P B v := by
  unfold atI at e ⊢
  rw [h.len]
  cases q : ixN xs.length i with
  | none => rw [q] at e; cases e
  | some j =>
    rw [q] at e
    exact h.get e
theorem atI_owns {E : α → OP} {W : Wd} {vs : List V} {xs : List α} {F : List Addr} {i : Int} {x : α} (h : Owns E W vs xs F) (e : atI xs i = some x) : ∃ v F1, atI vs i = some v ∧ (E x).C W v F1 ∧ ∀ a ∈ F1, a ∈ F := by
  unfold atI at e ⊢
  rw [h.len]
  cases q : ixN xs.length i with
  | none => rw [q] at e; cases e
  | some j =>
    rw [q] at e
    obtain ⟨v, F1, F2, h1, h2, h3, _⟩ := h.at e
    exact ⟨v, F1, h1, h2, fun a ha => h3.mem_iff.mpr (List.mem_append_left _ ha)⟩
theorem iv_lstO {K : PySem.W.Frag} {E : α → OP} : IxV (rIxL K) (lstO E) intS (fun xs i => atI xs i) E := fun W x y v u z F1 ok hx hy e Q k => by
  cases hy
  obtain ⟨a, vs, F2, rfl, h2, rfl, h4⟩ := hx
  obtain ⟨t, F3, q1, q2, q3⟩ := atI_owns h4 e
  exact ⟨a, vs, y, t, rfl, rfl, .inl (.inl h2), q1, k t ⟨F3, q2, fun b hb => List.mem_cons_of_mem _ (q3 b hb)⟩⟩
theorem iv_lst {K : PySem.W.Frag} {E : α → SP} : IxV (rIxL K) (fun xs => sh (lstS E xs)) intS (fun xs i => atI xs i) fun x => sh (E x) := fun W x y v u z F1 ok hx hy e Q k => by
  cases hy
  obtain ⟨_, a, vs, rfl, h2, h4⟩ := hx
  obtain ⟨t, q1, q2⟩ := atI_each h4 e
  exact ⟨a, vs, y, t, rfl, rfl, .inl (.inl (ok a _ h2)), q1, k t ⟨[], ⟨rfl, q2⟩, by simp⟩⟩
theorem iv_tup {K : PySem.W.Frag} {E : α → SP} : IxV (rIxT K) (fun xs => sh (tupS E xs)) intS (fun xs i => atI xs i) fun x => sh (E x) := fun W x y v u z F1 ok hx hy e Q k => by
  cases hy
  obtain ⟨_, a, vs, rfl, h2, h4⟩ := hx
  obtain ⟨t, q1, q2⟩ := atI_each h4 e
  exact ⟨a, vs, y, t, rfl, rfl, .inl (.inl (ok a _ h2)), q1, k t ⟨[], ⟨rfl, q2⟩, by simp⟩⟩
theorem iv_scr {K : PySem.W.Frag} : IxV (rIxL K) (fun xs => sh (scrS K xs)) intS (fun xs i => atI xs i) fun x => sh (intS x) := fun W x y v u z F1 ok hx hy e Q k => by
  cases hy
  obtain ⟨_, a, rfl, h2⟩ := hx
  have hq : SqL K W.H a (x.map V.int) := by
    rcases h2 with (h | ⟨o, h⟩) | h
    · exact .inl (.inl (ok _ _ h))
    · exact .inl (.inr ⟨o, ok _ _ h⟩)
    · exact .inr h
  have e : atI x y = some z := e
  have e' : atI (x.map V.int) y = some (.int z) := by
    unfold atI at e ⊢
    rw [List.length_map]
    cases q : ixN x.length y with
    | none => rw [q] at e; cases e
    | some j =>
      rw [q] at e
      show (x.map V.int)[j]? = some (.int z)
      rw [List.getElem?_map, show x[j]? = some z from e]
      rfl
  exact ⟨a, _, y, .int z, rfl, rfl, hq, e', k _ ⟨[], ⟨rfl, rfl⟩, by simp⟩⟩
section
variable {S : Stc} {Γ Δ : Ctx} {a b c e tg iter elt : Expr} {es ifs : List Expr} {pos : Pos} {st : Stmt} {rest A B : List Stmt}
/-- an item of a tuple (of a list) of several kinds, at a written place -/
theorem atI_k {vs : List V} {k : Nat} {v : V} (h : vs[k]? = some v) : atI vs (k : Int) = some v := atI_nat h
theorem jn_ixT {ps : α → List SP} {E : β → SP} {g : α → β} {m : Option α} {j : Int} {kk p'} (k : Nat) (h : JN S a Γ m fun x => sh (htupS (ps x))) (hk : ∀ x, (ps x)[k]? = some (E (g x)) := by intro _; rfl) (hj : j = (k : Int) := by rfl) :
    JN S (.Subscript a (.Constant (.int j) kk p') pos) Γ (m.bind fun x => some (g x)) fun z => sh (E z) := fun σ W F sta z hz Q kq => by
  obtain ⟨x, h1, h2⟩ := run1 hz
  cases h2
  refine ⟨tOp (rIxT S.K) (tOf S a) (tC (.int j)), fun X hX => pe_ix (oIxT X hX) (peO hX) pe_int (fun _ _ => rfl), h σ W F sta x h1 _ fun v W' Fv ext _ _ r => ?_⟩
  obtain ⟨_, p, vs, rfl, q2, q3⟩ := r
  obtain ⟨u, u1, u2⟩ := q3.get (hk x)
  exact ⟨p, vs, j, u, rfl, rfl, .inl (.inl (ext.ok p _ q2)), by rw [hj]; exact atI_k u1, (kq.ext ext).val ext.ok u2⟩
theorem jn_ixH {ps : α → List SP} {E : β → SP} {g : α → β} {m : Option α} {j : Int} {kk p'} (k : Nat) (h : JN S a Γ m fun x => sh (hlstS (ps x))) (hk : ∀ x, (ps x)[k]? = some (E (g x)) := by intro _; rfl) (hj : j = (k : Int) := by rfl) :
    JN S (.Subscript a (.Constant (.int j) kk p') pos) Γ (m.bind fun x => some (g x)) fun z => sh (E z) := fun σ W F sta z hz Q kq => by
  obtain ⟨x, h1, h2⟩ := run1 hz
  cases h2
  refine ⟨tOp (rIxL S.K) (tOf S a) (tC (.int j)), fun X hX => pe_ix (oIxL X hX) (peO hX) pe_int (fun _ _ => rfl), h σ W F sta x h1 _ fun v W' Fv ext _ _ r => ?_⟩
  obtain ⟨_, p, vs, rfl, q2, q3⟩ := r
  obtain ⟨u, u1, u2⟩ := q3.get (hk x)
  exact ⟨p, vs, j, u, rfl, rfl, .inl (.inl (ext.ok p _ q2)), by rw [hj]; exact atI_k u1, (kq.ext ext).val ext.ok u2⟩
/-- .. of an owned list of several kinds -/
theorem jr_ixO {ps : α → List OP} {R : β → OP} {g : α → β} {m : Option α} {j : Int} {kk p'} (k : Nat) (h : JR S a Γ m fun x => hetO (ps x)) (hk : ∀ x, (ps x)[k]? = some (R (g x)) := by intro _; rfl) (hj : j = (k : Int) := by rfl) :
    JR S (.Subscript a (.Constant (.int j) kk p') pos) Γ (m.bind fun x => some (g x)) R := fun σ W F sta z hz Q kq => by
  obtain ⟨x, h1, h2⟩ := run1 hz
  cases h2
  refine ⟨tOp (rIxL S.K) (tOf S a) (tC (.int j)), fun X hX => pe_ix (oIxL X hX) (peO hX) pe_int (fun _ _ => rfl), h σ W F sta x h1 _ fun v W' ext ⟨F1, r, al⟩ => ?_⟩
  obtain ⟨p, vs, F2, rfl, q2, rfl, q3⟩ := r
  obtain ⟨u, G1, G2, u1, u2, u3, _⟩ := q3.at (hk x)
  exact ⟨p, vs, j, u, rfl, rfl, .inl (.inl q2), by rw [hj]; exact atI_k u1, kq u W' ext ⟨G1, u2, fun b hb => al b (List.mem_cons_of_mem _ (u3.mem_iff.mpr (List.mem_append_left _ hb)))⟩⟩
/-- len -/
theorem len_lstO {E : α → OP} {m : Option (List α)} {p : Pos} (hm : S.mg "len" = none) (h : JR S a Γ m (lstO E)) (hg : GlS S "len" := by rfl) (hs : ∀ env, starEach [a] env = [(false, eval a env)] := by intro _; rfl) : JN S (.Call (.Name "len" p) [a] [] pos) Γ (m.bind fun xs => some (xs.length : Int)) fun z => sh (intS z) := fun σ W F sta z hz Q kq => by
  obtain ⟨x, h1, h2⟩ := run1 hz
  cases h2
  refine ⟨tCB (fun xs H Q => ∃ p ys, xs = [.ref p] ∧ (SqL S.K H p ys ∨ SqT S.K H p ys) ∧ Q (.int ys.length) H) (tCons (tOf S a) tNil), fun X hX => pe_callB (hX.K ▸ call_len_seq) (hg.gl hX) (mgS hm hX) PySem.boot_len (pa_cons (peO hX) pa_nil (hs _)) (by decide) (by decide) (hs _) rfl, h σ W F sta x h1 _ fun v W' ext ⟨F1, r, al⟩ => ?_⟩
  obtain ⟨p, vs, F2, rfl, q2, rfl, q3⟩ := r
  exact ⟨p, vs, rfl, .inl (.inl (.inl q2)), (kq.ext ext).val ext.ok (by rw [q3.len]; rfl)⟩
theorem hets1 {B : Hp} {vs : List V} {p : SP} (h : Hets B vs [p]) : ∃ v, vs = [v] ∧ p.P B v := by
  match vs, h with
  | [v], ⟨h, _⟩ => exact ⟨v, rfl, h⟩
theorem hets2 {B : Hp} {vs : List V} {p q : SP} (h : Hets B vs [p, q]) : ∃ v u, vs = [v, u] ∧ p.P B v ∧ q.P B u := by
  match vs, h with
  | [v, u], ⟨h, h', _⟩ => exact ⟨v, u, rfl, h, h'⟩
/-- f(x), a builtin of one shared argument -/
theorem jn_b1 {x : Str} {id : String} {p : Pos} {r : List V → Hp → VK → Prop} {m : Option α} {E : α → SP} {f : α → Option γ} {R : γ → OP} (hc : ∀ X, S.In X → CallR X (.builtin id) r)
    (hr : ∀ W x v z, Ex W.B W.H → (E x).P W.B v → f x = some z → ∀ Q : VK, Got (R z) W Q → r [v] W.H Q) (hm : S.mg x = none) (ha : JN S a Γ m fun x => sh (E x))
    (hg : GlS S x := by rfl) (hv : bootBuiltins x = some (.builtin id) := by decide +kernel) (hn : x ≠ "__name__" := by decide) (hdb : (x == ("__debug__" : Str)) = false := by decide)
    (hs : ∀ env, starEach [a] env = [(false, eval a env)] := by intro _; rfl) : JN S (.Call (.Name x p) [a] [] pos) Γ (m.bind fun y => f y) R := fun σ W F sta z hz Q k => by
  obtain ⟨y, h1, h2⟩ := run1 hz
  exact ⟨tCB r (tCons (tOf S a) tNil), fun X hX => pe_callB (hc X hX) (hg.gl hX) (mgS hm hX) hv (pa_cons (peO hX) pa_nil (hs _)) hn hdb (hs _) rfl, ha σ W F sta y h1 _ fun v W' Fv e _ _ hh => hr W' y v z e.ok hh.2 h2 Q (k.ext e)⟩
theorem jn_t1 {x : Str} {T : String} {p : Pos} {r : List V → Hp → VK → Prop} {m : Option α} {E : α → SP} {f : α → Option γ} {R : γ → OP} (hc : ∀ X, S.In X → CallR X (.type T) r)
    (hr : ∀ W x v z, Ex W.B W.H → (E x).P W.B v → f x = some z → ∀ Q : VK, Got (R z) W Q → r [v] W.H Q) (hm : S.mg x = none) (ha : JN S a Γ m fun x => sh (E x))
    (hg : GlS S x := by rfl) (hv : bootBuiltins x = some (.type T) := by decide +kernel) (hn : x ≠ "__name__" := by decide) (hdb : (x == ("__debug__" : Str)) = false := by decide)
    (hs : ∀ env, starEach [a] env = [(false, eval a env)] := by intro _; rfl) : JN S (.Call (.Name x p) [a] [] pos) Γ (m.bind fun y => f y) R := fun σ W F sta z hz Q k => by
  obtain ⟨y, h1, h2⟩ := run1 hz
  exact ⟨tCB r (tCons (tOf S a) tNil), fun X hX => pe_callTy (hc X hX) (hg.gl hX) (mgS hm hX) hv (pa_cons (peO hX) pa_nil (hs _)) hn hdb (hs _) rfl, ha σ W F sta y h1 _ fun v W' Fv e _ _ hh => hr W' y v z e.ok hh.2 h2 Q (k.ext e)⟩
theorem len_lst {E : α → SP} {m : Option (List α)} {p : Pos} (hm : S.mg "len" = none) (h : JN S a Γ m fun x => sh (lstS E x)) (hg : GlS S "len" := by rfl) (hs : ∀ env, starEach [a] env = [(false, eval a env)] := by intro _; rfl) : JN S (.Call (.Name "len" p) [a] [] pos) Γ (m.bind fun xs => some (xs.length : Int)) fun z => sh (intS z) :=
  jn_b1 (r := fun xs H Q => ∃ p ys, xs = [.ref p] ∧ (SqL S.K H p ys ∨ SqT S.K H p ys) ∧ Q (.int ys.length) H) (f := fun xs : List α => some (xs.length : Int)) (fun X hX => hX.K ▸ call_len_seq) (fun W x v z ok hh e Q k => by
    cases e
    obtain ⟨p, vs, rfl, q2, q3⟩ := hh
    exact ⟨p, vs, rfl, .inl (.inl (.inl (ok p _ q2))), k.val ok (by rw [q3.len]; rfl)⟩) hm h hg PySem.boot_len (by decide) (by decide) hs
theorem len_tup {E : α → SP} {m : Option (List α)} {p : Pos} (hm : S.mg "len" = none) (h : JN S a Γ m fun x => sh (tupS E x)) (hg : GlS S "len" := by rfl) (hs : ∀ env, starEach [a] env = [(false, eval a env)] := by intro _; rfl) : JN S (.Call (.Name "len" p) [a] [] pos) Γ (m.bind fun xs => some (xs.length : Int)) fun z => sh (intS z) :=
  jn_b1 (r := fun xs H Q => ∃ p ys, xs = [.ref p] ∧ (SqL S.K H p ys ∨ SqT S.K H p ys) ∧ Q (.int ys.length) H) (f := fun xs : List α => some (xs.length : Int)) (fun X hX => hX.K ▸ call_len_seq) (fun W x v z ok hh e Q k => by
    cases e
    obtain ⟨p, vs, rfl, q2, q3⟩ := hh
    exact ⟨p, vs, rfl, .inr (.inl (.inl (ok p _ q2))), k.val ok (by rw [q3.len]; rfl)⟩) hm h hg PySem.boot_len (by decide) (by decide) hs
theorem int_int {m : Option Int} {p : Pos} (hm : S.mg "int" = none) (h : JN S a Γ m fun x => sh (intS x)) (hg : GlS S "int" := by rfl) (hs : ∀ env, starEach [a] env = [(false, eval a env)] := by intro _; rfl) : JN S (.Call (.Name "int" p) [a] [] pos) Γ (m.bind fun x => some x) fun z => sh (intS z) :=
  jn_t1 (f := fun x : Int => some x) (fun X hX => call_int1) (fun W x v z ok hh e Q k => by
    cases e
    cases hh
    exact .inl ⟨_, rfl, k.val ok rfl⟩) hm h hg (by decide +kernel) (by decide) (by decide) hs
def b2i (b : Bool) : Int := if b then 1 else 0
theorem int_bool {m : Option Bool} {p : Pos} (hm : S.mg "int" = none) (h : JN S a Γ m fun x => sh (boolS x)) (hg : GlS S "int" := by rfl) (hs : ∀ env, starEach [a] env = [(false, eval a env)] := by intro _; rfl) : JN S (.Call (.Name "int" p) [a] [] pos) Γ (m.bind fun x => some (b2i x)) fun z => sh (intS z) :=
  jn_t1 (f := fun x : Bool => some (b2i x)) (fun X hX => call_int1) (fun W x v z ok hh e Q k => by
    cases e
    cases hh
    exact .inr ⟨_, rfl, k.val ok rfl⟩) hm h hg (by decide +kernel) (by decide) (by decide) hs
def absI (i : Int) : Int := if i < 0 then -i else i
theorem abs_int {m : Option Int} {p : Pos} (hm : S.mg "abs" = none) (h : JN S a Γ m fun x => sh (intS x)) (hg : GlS S "abs" := by rfl) (hs : ∀ env, starEach [a] env = [(false, eval a env)] := by intro _; rfl) : JN S (.Call (.Name "abs" p) [a] [] pos) Γ (m.bind fun x => some (absI x)) fun z => sh (intS z) :=
  jn_b1 (f := fun x : Int => some (absI x)) (fun X hX => call_abs) (fun W x v z ok hh e Q k => by
    cases e
    cases hh
    exact ⟨_, rfl, k.val ok rfl⟩) hm h hg (by decide +kernel) (by decide) (by decide) hs
theorem sum_scr {m : Option (List Int)} {p : Pos} (hm : S.mg "sum" = none) (h : JN S a Γ m fun x => sh (scrS S.K x)) (hg : GlS S "sum" := by rfl) (hs : ∀ env, starEach [a] env = [(false, eval a env)] := by intro _; rfl) (hcm : S.calm = true := by rfl) : JN S (.Call (.Name "sum" p) [a] [] pos) Γ (m.bind fun x => some x.sum) fun z => sh (intS z) :=
  jn_b1 (f := fun x : List Int => some x.sum) (fun X hX => hX.K ▸ cr_sum (hX.calm.trans hcm)) (fun W x v z ok hh e Q k => by
    cases e
    obtain ⟨a, rfl, h2⟩ := hh
    refine ⟨a, x, rfl, ?_, k.val ok rfl⟩
    rcases h2 with (h | ⟨o, h⟩) | h
    · exact .inl (.inl (ok _ _ h))
    · exact .inl (.inr ⟨o, ok _ _ h⟩)
    · exact .inr h) hm h hg (by decide +kernel) (by decide) (by decide) hs
theorem fp_one {W : Wd} {l : Addr} {o : HO} (h : W.B l = none) : FpOk ⟨upd W.H l o, W.B⟩ [l] :=
  ⟨by simp, fun a ha => by
    rw [List.mem_singleton.mp ha]
    show upd W.H l o l ≠ none
    rw [upd_same]
    exact Option.some_ne_none _, fun a ha => by
    rw [List.mem_singleton.mp ha]
    exact h⟩
theorem Got.newL {W : Wd} {Q : VK} {E : α → SP} {xs : List α} {vs : List V} (k : Got (lstO (fun x => sh (E x)) xs) W Q) (ok : Ex W.B W.H) (h : Each E W.B vs xs) : ∀ l, W.H l = none → Q (.ref l) (upd W.H l (.lst vs)) := fun l hl =>
  k (.ref l) ⟨upd W.H l (.lst vs), W.B⟩ [l] (Ext.new ok hl) (fun a ha => by rw [List.mem_singleton.mp ha]; exact hl) (fp_one (ok.back hl)) ⟨l, vs, [], rfl, upd_same, rfl, Owns.of_each h⟩
theorem Got.newT {W : Wd} {Q : VK} {E : α → SP} {xs : List α} {vs : List V} (k : Got (sh (tupS E xs)) W Q) (ok : Ex W.B W.H) (h : Each E W.B vs xs) : ∀ l, W.H l = none → Q (.ref l) (upd W.H l (.tup vs)) := fun l hl =>
  k (.ref l) ⟨upd W.H l (.tup vs), upd W.B l (.tup vs)⟩ [] (Ext.newB ok hl) (by simp) FpOk.nil ⟨rfl, l, vs, rfl, upd_same, h.mono (Ext.newB ok hl).b⟩
theorem list_scr {m : Option (List Int)} {p : Pos} (hm : S.mg "list" = none) (h : JN S a Γ m fun x => sh (scrS S.K x)) (hg : GlS S "list" := by rfl) (hs : ∀ env, starEach [a] env = [(false, eval a env)] := by intro _; rfl) : JN S (.Call (.Name "list" p) [a] [] pos) Γ (m.bind fun x => some x) (lstO fun x => sh (intS x)) :=
  jn_t1 (f := fun x : List Int => some x) (fun X hX => hX.K ▸ call_list_of) (fun W x v z ok hh e Q k => by
    cases e
    obtain ⟨a, rfl, h2⟩ := hh
    have hq : SqL S.K W.H a (x.map V.int) := by
      rcases h2 with (h | ⟨o, h⟩) | h
      · exact .inl (.inl (ok _ _ h))
      · exact .inl (.inr ⟨o, ok _ _ h⟩)
      · exact .inr h
    have hE : Each intS W.B (x.map V.int) x := by
      clear k h2 hq h
      induction x with
      | nil => trivial
      | cons y x ih => exact ⟨rfl, ih⟩
    exact ⟨a, _, rfl, .inl hq, k.newL ok hE⟩) hm h hg (by decide +kernel) (by decide) (by decide) hs
theorem list_lst {E : α → SP} {m : Option (List α)} {p : Pos} (hm : S.mg "list" = none) (h : JN S a Γ m fun x => sh (lstS E x)) (hg : GlS S "list" := by rfl) (hs : ∀ env, starEach [a] env = [(false, eval a env)] := by intro _; rfl) : JN S (.Call (.Name "list" p) [a] [] pos) Γ (m.bind fun x => some x) (lstO fun x => sh (E x)) :=
  jn_t1 (f := fun x : List α => some x) (fun X hX => hX.K ▸ call_list_of) (fun W x v z ok hh e Q k => by
    cases e
    obtain ⟨a, vs, rfl, h2, h3⟩ := hh
    exact ⟨a, _, rfl, .inl (.inl (.inl (ok a _ h2))), k.newL ok h3⟩) hm h hg (by decide +kernel) (by decide) (by decide) hs
theorem list_tup {E : α → SP} {m : Option (List α)} {p : Pos} (hm : S.mg "list" = none) (h : JN S a Γ m fun x => sh (tupS E x)) (hg : GlS S "list" := by rfl) (hs : ∀ env, starEach [a] env = [(false, eval a env)] := by intro _; rfl) : JN S (.Call (.Name "list" p) [a] [] pos) Γ (m.bind fun x => some x) (lstO fun x => sh (E x)) :=
  jn_t1 (f := fun x : List α => some x) (fun X hX => hX.K ▸ call_list_of) (fun W x v z ok hh e Q k => by
    cases e
    obtain ⟨a, vs, rfl, h2, h3⟩ := hh
    exact ⟨a, _, rfl, .inr (.inl (.inl (ok a _ h2))), k.newL ok h3⟩) hm h hg (by decide +kernel) (by decide) (by decide) hs
/-- tuple of a list, fresh or shared -/
theorem tup_lst {E : α → SP} {m : Option (List α)} {p : Pos} (hm : S.mg "tuple" = none) (h : JN S a Γ m fun x => sh (lstS E x)) (hg : GlS S "tuple" := by rfl) (hs : ∀ env, starEach [a] env = [(false, eval a env)] := by intro _; rfl) : JN S (.Call (.Name "tuple" p) [a] [] pos) Γ (m.bind fun x => some x) fun x => sh (tupS E x) :=
  jn_t1 (f := fun x : List α => some x) (fun X hX => hX.K ▸ call_tuple_of) (fun W x v z ok hh e Q k => by
    cases e
    obtain ⟨a, vs, rfl, h2, h3⟩ := hh
    exact ⟨a, vs, rfl, .inl ⟨.inl (.inl (ok a _ h2)), k.newT ok h3⟩⟩) hm h hg (by decide +kernel) (by decide) (by decide) hs
theorem tup_own {E : α → SP} {m : Option (List α)} {p : Pos} (hm : S.mg "tuple" = none) (h : JR S a Γ m (lstO fun x => sh (E x))) (hg : GlS S "tuple" := by rfl) (hs : ∀ env, starEach [a] env = [(false, eval a env)] := by intro _; rfl) : JN S (.Call (.Name "tuple" p) [a] [] pos) Γ (m.bind fun x => some x) fun x => sh (tupS E x) := fun σ W F sta z hz Q kq => by
  obtain ⟨x, h1, h2⟩ := run1 hz
  cases h2
  refine ⟨tCB (fun xs H Q => ∃ p ys, xs = [.ref p] ∧ ((SqL S.K H p ys ∧ ∀ l, H l = none → Q (.ref l) (upd H l (.tup ys))) ∨ (SqT S.K H p ys ∧ Q (.ref p) H))) (tCons (tOf S a) tNil), fun X hX => pe_callTy (hX.K ▸ call_tuple_of) (hg.gl hX) (mgS hm hX) (by decide +kernel) (pa_cons (peO hX) pa_nil (hs _)) (by decide) (by decide) (hs _) rfl, h σ W F sta z h1 _ fun v W' ext ⟨F1, r, al⟩ => ?_⟩
  obtain ⟨p, vs, F2, rfl, q2, rfl, q3⟩ := r
  obtain ⟨_, q4⟩ := q3.each
  exact ⟨p, vs, rfl, .inl ⟨.inl (.inl q2), (kq.ext ext).newT ext.ok q4⟩⟩
/-- list(range(n)), tuple(range(n)) -/
theorem each_rg {B : Hp} (lo hi : Int) : Each intS B (rgV lo hi) ((List.range (hi - lo).toNat).map fun i : Nat => lo + (i : Int)) := by
  unfold rgV
  generalize List.range (hi - lo).toNat = l
  induction l with
  | nil => trivial
  | cons y l ih => exact ⟨rfl, ih⟩
theorem list_rng {m : Option Int} {p p2 pos2 : Pos} (hm : S.mg "list" = none) (hm2 : S.mg "range" = none) (h : JN S a Γ m fun x => sh (intS x)) (hg : GlS S "list" := by rfl) (hg2 : GlS S "range" := by rfl) (hs : ∀ env, starEach [a] env = [(false, eval a env)] := by intro _; rfl)
    (hs2 : ∀ env, starEach [Expr.Call (.Name "range" p2) [a] [] pos2] env = [(false, eval (Expr.Call (.Name "range" p2) [a] [] pos2) env)] := by intro _; rfl) (hcm : S.calm = true := by rfl) :
    JN S (.Call (.Name "list" p) [.Call (.Name "range" p2) [a] [] pos2] [] pos) Γ (m.bind fun n => rng 0 n) (lstO fun x => sh (intS x)) := fun σ W F sta z hz Q kq => by
  obtain ⟨n, h1, h2⟩ := run1 hz
  unfold rng at h2
  split at h2
  · rename_i hb
    cases h2
    refine ⟨tLstRg (tRg1 (tOf S a)), fun X hX => pe_listRg (hX.calm.trans hcm) (hg.gl hX) (mgS hm hX) (prg_1 (hg2.gl hX) (mgS hm2 hX) (peO hX) (hs _)) (hs2 _), h σ W F sta n h1 _ fun v W' Fv ext _ _ r => ?_⟩
    obtain ⟨_, rfl⟩ := r
    have z : (LIM : Int) = 1000000 := rfl
    exact ⟨n, rfl, ⟨by omega, by omega, by omega, by omega, by omega⟩, (kq.ext ext).newL ext.ok (each_rg 0 n)⟩
  · cases h2
theorem tup_rng {m : Option Int} {p p2 pos2 : Pos} (hm : S.mg "tuple" = none) (hm2 : S.mg "range" = none) (h : JN S a Γ m fun x => sh (intS x)) (hg : GlS S "tuple" := by rfl) (hg2 : GlS S "range" := by rfl) (hs : ∀ env, starEach [a] env = [(false, eval a env)] := by intro _; rfl)
    (hs2 : ∀ env, starEach [Expr.Call (.Name "range" p2) [a] [] pos2] env = [(false, eval (Expr.Call (.Name "range" p2) [a] [] pos2) env)] := by intro _; rfl) (hcm : S.calm = true := by rfl) :
    JN S (.Call (.Name "tuple" p) [.Call (.Name "range" p2) [a] [] pos2] [] pos) Γ (m.bind fun n => rng 0 n) (fun x => sh (tupS intS x)) := fun σ W F sta z hz Q kq => by
  obtain ⟨n, h1, h2⟩ := run1 hz
  unfold rng at h2
  split at h2
  · rename_i hb
    cases h2
    refine ⟨tTupRg (tRg1 (tOf S a)), fun X hX => pe_tupRg (hX.calm.trans hcm) (hg.gl hX) (mgS hm hX) (prg_1 (hg2.gl hX) (mgS hm2 hX) (peO hX) (hs _)) (hs2 _), h σ W F sta n h1 _ fun v W' Fv ext _ _ r => ?_⟩
    obtain ⟨_, rfl⟩ := r
    have z : (LIM : Int) = 1000000 := rfl
    exact ⟨n, rfl, ⟨by omega, by omega, by omega, by omega, by omega⟩, (kq.ext ext).newT ext.ok (each_rg 0 n)⟩
  · cases h2
/-- [] and displays of shared things -/
theorem jn_nilL {E : α → SP} : JN S (.List [] pos) Γ (some []) (lstO fun x => sh (E x)) := fun σ W F sta z hz Q kq => by
  cases hz
  exact ⟨tLst tNil, fun _ _ => pe_lst pa_nil, Nat.zero_le _, fun l hl => kq.newL sta.ok (vs := []) trivial l hl⟩
theorem jn_nilLO {E : α → OP} : JN S (.List [] pos) Γ (some []) (lstO E) := fun σ W F sta z hz Q kq => by
  cases hz
  refine ⟨tLst tNil, fun _ _ => pe_lst pa_nil, Nat.zero_le _, fun l hl => ?_⟩
  exact kq (.ref l) ⟨upd W.H l (.lst []), W.B⟩ [l] (Ext.new sta.ok hl) (fun a ha => by rw [List.mem_singleton.mp ha]; exact hl) (fp_one (sta.ok.back hl)) ⟨l, [], [], rfl, upd_same, rfl, rfl⟩
/-- a list of several kinds, all shared -/
theorem HetO.of_hets {W : Wd} : ∀ {vs : List V} {ps : List SP}, Hets W.B vs ps → HetO W vs (ps.map sh) []
  | [], [], _ => rfl
  | _ :: _, _ :: _, h => ⟨[], [], rfl, ⟨rfl, h.1⟩, HetO.of_hets h.2⟩
  | [], _ :: _, h => h.elim
  | _ :: _, [], h => h.elim
theorem jn_het {m : Option α} {R : α → List SP} (h : JA S es Γ m R) (hl : ∀ x, (R x).length ≤ 1000 := by intro _; decide) : JN S (.List es pos) Γ m fun x => hetO ((R x).map sh) := fun σ W F sta x hx Q kk =>
  ⟨tLst (taOf S es), fun X hX => pe_lst (paO hX), h σ W F sta x hx _ fun vs W' e hh => by
    refine ⟨Nat.le_trans (by rw [hh.len]; exact hl x) (by decide), fun q hq => ?_⟩
    exact kk (.ref q) ⟨upd W'.H q (.lst vs), W'.B⟩ [q] (e.trans (Ext.new e.ok hq)) (fun a ha => by rw [List.mem_singleton.mp ha]; exact e.h.back hq) (fp_one (e.ok.back hq))
      ⟨q, vs, [], rfl, upd_same, rfl, HetO.of_hets (W := ⟨upd W'.H q (.lst vs), W'.B⟩) hh⟩⟩
/-- the same, shared at once -/
theorem jn_hetS {m : Option α} {R : α → List SP} (h : JA S es Γ m R) (hl : ∀ x, (R x).length ≤ 1000 := by intro _; decide) : JN S (.List es pos) Γ m fun x => sh (hlstS (R x)) := fun σ W F sta x hx Q kk =>
  ⟨tLst (taOf S es), fun X hX => pe_lst (paO hX), h σ W F sta x hx _ fun vs W' e hh => by
    refine ⟨Nat.le_trans (by rw [hh.len]; exact hl x) (by decide), fun q hq => ?_⟩
    exact kk (.ref q) ⟨upd W'.H q (.lst vs), upd W'.B q (.lst vs)⟩ [] (e.trans (Ext.newB e.ok hq)) (by simp) FpOk.nil ⟨rfl, q, vs, rfl, upd_same, hh.mono (Ext.newB e.ok hq).b⟩⟩
/-- a display of shared things of one kind -/
theorem Hets.each {E : α → SP} {B : Hp} : ∀ {vs : List V} {xs : List α}, Hets B vs (xs.map E) → Each E B vs xs
  | [], [], _ => trivial
  | _ :: _, _ :: _, h => ⟨h.1, Hets.each h.2⟩
  | [], _ :: _, h => h.elim
  | _ :: _, [], h => h.elim
theorem jn_dispL {m : Option α} {E : β → SP} {g : α → List β} {R : α → List SP} (h : JA S es Γ m R) (hR : ∀ x, R x = (g x).map E := by intro _; rfl) (hl : ∀ x, (R x).length ≤ 1000 := by intro _; exact Nat.le_of_ble_eq_true rfl) : JN S (.List es pos) Γ (m.bind fun x => some (g x)) (lstO fun x => sh (E x)) := fun σ W F sta z hz Q kk => by
  obtain ⟨x, h1, h2⟩ := run1 hz
  cases h2
  refine ⟨tLst (taOf S es), fun X hX => pe_lst (paO hX), h σ W F sta x h1 _ fun vs W' e hh => ?_⟩
  refine ⟨Nat.le_trans (by rw [hh.len]; exact hl x) (by decide), fun q hq => ?_⟩
  rw [hR] at hh
  exact (kk.ext e).newL e.ok hh.each q hq
theorem jn_dispT {m : Option α} {E : β → SP} {g : α → List β} {R : α → List SP} {k : Nat} (h : JA S es Γ m R) (hR : ∀ x, R x = (g x).map E := by intro _; rfl) (hl : ∀ x, (R x).length ≤ 1000 := by intro _; exact Nat.le_of_ble_eq_true rfl) : JN S (.Tuple es k pos) Γ (m.bind fun x => some (g x)) fun x => sh (tupS E x) := fun σ W F sta z hz Q kk => by
  obtain ⟨x, h1, h2⟩ := run1 hz
  cases h2
  refine ⟨tTup (taOf S es), fun X hX => pe_tup (paO hX), h σ W F sta x h1 _ fun vs W' e hh => ?_⟩
  refine ⟨Nat.le_trans (by rw [hh.len]; exact hl x) (by decide), fun q hq => ?_⟩
  rw [hR] at hh
  exact (kk.ext e).newT e.ok hh.each q hq
end
end CC
set_option maxHeartbeats 4000000
/-! Items stored; defs; state. -/
namespace CC
open PySem PySem.Spec L2
open PyProof.Rows hiding St
variable {α β γ δ τ ω ρ υ : Type}
/-! ### xs[i] = e -/
def setAt (xs : List α) (i : Int) (x : α) : Option (List α) := (ixN xs.length i).bind fun j => some (xs.set j x)
section
variable {S : Stc} {Γ Δ : Ctx} {a b c e tg iter elt : Expr} {es ifs : List Expr} {pos : Pos} {st : Stmt} {rest A B : List Stmt}
theorem js_setI {x : Str} {p0 tpos : Pos} {E : α → OP} {xs : List α} {mv : Option α} {mi : Option Int} (i : Nat) (h : JN S e Γ mv E) (hb : JN S b Γ mi fun z => sh (intS z)) (hi : Γ[i]? = some (some (lstO E xs)) := by rfl) (hN : S.N[i]? = some x := by rfl) (hv : Vis S.sc x := by first | exact Or.inl rfl | exact Or.inr (Or.inl rfl) | exact Or.inr (Or.inr rfl))
    (hd : (x == ("__debug__" : Str)) = false := by decide) (hcd : (x == ("__classdict__" : Str)) = false := by decide)
    (ha : ∀ env v, assign (.Subscript (.Name x p0) b tpos) env v = (do
      let ov ← holding [v] (eval (.Name x p0) env)
      let iv ← holding [v, ov] (eval b env)
      standAt tpos
      holding [v, ov, iv] (setItem ov iv v)
      release [v, ov, iv] []) := by intro _ _; rfl) (hs : ∀ env, swapsWithSole [.Subscript (.Name x p0) b tpos] e pos.line env = pure false := by intro _; rfl) (hw : ∀ env, swappedStores [.Subscript (.Name x p0) b tpos] e env = pure none := by intro _; rfl)
    (h1 : ∀ env, (assignEach [.Subscript (.Name x p0) b tpos] env).map (·.2) = [assign (.Subscript (.Name x p0) b tpos) env] := by intro _; rfl) :
    JS S (.Assign [.Subscript (.Name x p0) b tpos] e pos) Γ (mv.bind fun v => mi.bind fun k => setAt xs k v) fun ys => .nx (Γ.set i (some (lstO E ys))) := fun σ W F sta z hz Ed kk => by
  obtain ⟨y, k, m1, m2, m3⟩ := run2 hz
  obtain ⟨j, j1, j2⟩ := run1 (f := fun j => some (xs.set j y)) m3
  cases j2
  refine ⟨tAsg (tOf S e) (gSub (tVar i) (tOf S b) rSetL), fun X hX => ps_asg (peO hX) (pg_sub (pe_var (by rw [hX.N]; exact hN) (visS hv hX) hd hcd) (peO hX) set_list (ha _)) (hs _) (hw _) (h1 _), ?_⟩
  refine h σ W F sta y m1 _ fun u W1 Fv ext fr fp r => ?_
  have sta1 := sta.ext ext
  obtain ⟨v, F1, F2, a1, a2, a3, a4⟩ := sta1.hold.at hi
  obtain ⟨p, vs, G2, rfl, b2, rfl, b4⟩ := a2
  refine ⟨.ref p, a1, ?_⟩
  refine hb σ W1 F sta1 k m2 _ fun t W2 _ ext2 _ _ r2 => ?_
  obtain ⟨_, rfl⟩ := r2
  have sta2 := sta1.ext ext2
  obtain ⟨v', F1', F2', c1, c2, c3, c4⟩ := sta2.hold.at hi
  have ev : v' = .ref p := by rw [a1] at c1; exact (Option.some.inj (Option.some.inj c1)).symm
  subst ev
  obtain ⟨p', vs', G2', e1, d2, rfl, d4⟩ := c2
  cases e1
  have hB : W2.B p = none := (sta2.fp.perm c3).fr p (by simp)
  have hx : xs[j]? ≠ none := by
    have := (ixN_seq j1).2.1
    rw [List.getElem?_eq_getElem this]
    exact Option.some_ne_none _
  obtain ⟨y0, hy0⟩ := Option.ne_none_iff_exists'.mp hx
  obtain ⟨w0, K1, K2, k1, k2, k3, k4⟩ := d4.at hy0
  have q : FpOk W2 (F ++ Fv) := (sta.fp.fresh ext fp fr).ext ext2
  have q2 : FpOk W2 (((p :: G2') ++ F2') ++ Fv) := q.perm (List.Perm.append_right Fv c3)
  have fpA : FpOk W2 ((p :: G2') ++ Fv) := by
    refine FpOk.left (F' := F2') (q2.perm ?_)
    rw [List.append_assoc, List.append_assoc]
    exact List.Perm.append_left _ List.perm_append_comm
  have nP : ∀ a ∈ G2' ++ Fv, a ≠ p := fun a ha z => (List.nodup_cons.mp fpA.nd).1 (z ▸ ha)
  have r' : (E y).C ⟨upd W2.H p (.lst (vs'.set j u)), W2.B⟩ u Fv := by
    refine OP.loc _ (OP.ext _ r ext2 fp) (fun _ _ h => h) fun a ha => ?_
    show upd W2.H p _ a = W2.H a
    exact upd_ne (nP a (List.mem_append_right _ ha))
  obtain ⟨G', g1, g2⟩ := k4 ⟨upd W2.H p (.lst (vs'.set j u)), W2.B⟩ y u Fv (fun _ _ h => h) (fun a ha => by
    show upd W2.H p _ a = W2.H a
    exact upd_ne (nP a (List.mem_append_left _ (k3.mem_iff.mpr (List.mem_append_right _ ha))))) r'
  refine ⟨p, vs', k, j, rfl, rfl, d2, by rw [d4.len]; exact j1, ?_⟩
  have fpB : FpOk W2 (p :: G') := by
    refine FpOk.left (F' := K1) (fpA.perm ?_)
    refine List.Perm.cons p ?_
    refine (List.Perm.append_right Fv k3).trans ?_
    refine List.Perm.trans ?_ (List.Perm.append_right K1 g2.symm)
    rw [List.append_assoc]
    refine List.perm_append_comm.trans ?_
    refine List.Perm.append_right K1 ?_
    exact List.perm_append_comm
  obtain ⟨F', s', stp⟩ := sta_own (W' := ⟨upd W2.H p (.lst (vs'.set j u)), W2.B⟩) (F1' := p :: G') (o' := lstO E (xs.set j y)) Fv sta2 q c1 c3 c4 (wr_ok ext2.ok hB) rfl (fun a ha _ => upd_ne fun z => ha (z ▸ List.mem_cons_self)) wr_al
    ⟨fpB.nd, fun a ha => wr_al a (fpB.al a ha), fpB.fr⟩ (fun a ha => by
      rcases List.mem_cons.mp ha with z | z
      · exact .inl (z ▸ List.mem_cons_self)
      · rcases List.mem_append.mp (g2.mem_iff.mp z) with z | z
        · exact .inr (.inl z)
        · exact .inl (List.mem_cons_of_mem _ (k3.mem_iff.mpr (List.mem_append_right _ z)))) ⟨p, vs'.set j u, G', rfl, upd_same, rfl, g1⟩
  have ext02 := ext.trans ext2
  exact kk σ _ F' Keep.refl ((ext02.stp fr).trans stp) s'
/-- xs[i][k] = e, the items of xs lists of one's own with shared items -/
def setAt2 (xss : List (List α)) (i k : Int) (x : α) : Option (List (List α)) := (atI xss i).bind fun xs => (setAt xs k x).bind fun ys => setAt xss i ys
theorem js_setI2 {x : Str} {p0 tpos tp2 : Pos} {E : α → SP} {xss : List (List α)} {mv : Option α} {mi mj : Option Int} (i : Nat) (h : JN S e Γ mv fun x => sh (E x)) (ha0 : JN S a Γ mi fun z => sh (intS z)) (hb : JN S b Γ mj fun z => sh (intS z)) (hi : Γ[i]? = some (some (lstO (fun xs => lstO (fun x => sh (E x)) xs) xss)) := by rfl) (hN : S.N[i]? = some x := by rfl) (hv : Vis S.sc x := by first | exact Or.inl rfl | exact Or.inr (Or.inl rfl) | exact Or.inr (Or.inr rfl))
    (hd : (x == ("__debug__" : Str)) = false := by decide) (hcd : (x == ("__classdict__" : Str)) = false := by decide) (hpl : PlainIx a := by exact fun _ _ => rfl)
    (ha : ∀ env v, assign (.Subscript (.Subscript (.Name x p0) a tp2) b tpos) env v = (do
      let ov ← holding [v] (eval (.Subscript (.Name x p0) a tp2) env)
      let iv ← holding [v, ov] (eval b env)
      standAt tpos
      holding [v, ov, iv] (setItem ov iv v)
      release [v, ov, iv] []) := by intro _ _; rfl) (hs : ∀ env, swapsWithSole [.Subscript (.Subscript (.Name x p0) a tp2) b tpos] e pos.line env = pure false := by intro _; rfl) (hw : ∀ env, swappedStores [.Subscript (.Subscript (.Name x p0) a tp2) b tpos] e env = pure none := by intro _; rfl)
    (h1 : ∀ env, (assignEach [.Subscript (.Subscript (.Name x p0) a tp2) b tpos] env).map (·.2) = [assign (.Subscript (.Subscript (.Name x p0) a tp2) b tpos) env] := by intro _; rfl) :
    JS S (.Assign [.Subscript (.Subscript (.Name x p0) a tp2) b tpos] e pos) Γ (mv.bind fun v => mi.bind fun k => mj.bind fun l => setAt2 xss k l v) fun ys => .nx (Γ.set i (some (lstO (fun xs => lstO (fun x => sh (E x)) xs) ys))) := fun σ W F sta z hz Ed kk => by
  obtain ⟨y, m1, m2⟩ := run1 hz
  obtain ⟨k, m3, m4⟩ := run1 (f := fun k => mj.bind fun l => setAt2 xss k l y) m2
  obtain ⟨l, m5, m6⟩ := run1 (f := fun l => setAt2 xss k l y) m4
  obtain ⟨xs, n1, n2⟩ := run1 (f := fun xs => (setAt xs l y).bind fun ys => setAt xss k ys) m6
  obtain ⟨ys, n3, n4⟩ := run1 (f := fun ys => setAt xss k ys) n2
  obtain ⟨jl, o1, o2⟩ := run1 (f := fun j => some (xs.set j y)) n3
  cases o2
  obtain ⟨jk, o3, o4⟩ := run1 (f := fun j => some (xss.set j (xs.set jl y))) n4
  cases o4
  have hxs : xss[jk]? = some xs := by
    unfold atI at n1
    rw [o3] at n1
    exact n1
  refine ⟨tAsg (tOf S e) (gSub (tOp (rIxL S.K) (tVar i) (tOf S a)) (tOf S b) rSetL), fun X hX => ps_asg (peO hX) (pg_sub (pe_ix (oIxL X hX) (pe_var (by rw [hX.N]; exact hN) (visS hv hX) hd hcd) (peO hX) hpl) (peO hX) set_list (ha _)) (hs _) (hw _) (h1 _), ?_⟩
  refine h σ W F sta y m1 _ fun u W1 Fv ext fr fp r => ?_
  obtain ⟨rfl, r⟩ := r
  have sta1 := sta.ext ext
  obtain ⟨v, F1, F2, a1, a2, a3, a4⟩ := sta1.hold.at hi
  obtain ⟨p, vs, G2, rfl, b2, rfl, b4⟩ := a2
  refine ⟨.ref p, a1, ?_⟩
  refine ha0 σ W1 F sta1 k m3 _ fun t W2 _ ext2 _ _ r2 => ?_
  obtain ⟨_, rfl⟩ := r2
  have sta2 := sta1.ext ext2
  obtain ⟨v', F1', F2', c1, c2, c3, c4⟩ := sta2.hold.at hi
  have ev : v' = .ref p := by rw [a1] at c1; exact (Option.some.inj (Option.some.inj c1)).symm
  subst ev
  obtain ⟨p', vs', G2', e1, d2, rfl, d4⟩ := c2
  cases e1
  obtain ⟨w0, K1, K2, k1, k2, k3, k4⟩ := d4.at hxs
  obtain ⟨p2, us, K3, rfl, l2, rfl, l4⟩ := k2
  refine ⟨p, vs', k, .ref p2, rfl, rfl, .inl (.inl d2), by unfold atI; rw [d4.len, o3]; exact k1, ?_⟩
  refine hb σ W2 F sta2 l m5 _ fun t W3 _ ext3 _ _ r3 => ?_
  obtain ⟨_, rfl⟩ := r3
  have sta3 := sta2.ext ext3
  -- the same facts, one world on
  obtain ⟨v', F1', F2', c1', c2', c3', c4'⟩ := sta3.hold.at hi
  have ev : v' = .ref p := by rw [a1] at c1'; exact (Option.some.inj (Option.some.inj c1')).symm
  subst ev
  obtain ⟨p', vs'', G3, e1, d2', rfl, d4'⟩ := c2'
  cases e1
  have evs : vs'' = vs' := by
    rw [ext3.h p _ d2] at d2'
    cases d2'
    rfl
  subst evs
  obtain ⟨w0, K1', K2', k1', k2', k3', k4'⟩ := d4'.at hxs
  rw [k1] at k1'
  cases k1'
  obtain ⟨p2', us', K3', e2, l2', rfl, l4'⟩ := k2'
  cases e2
  obtain ⟨rfl, l5⟩ := l4'.each
  have fpA := (sta3.fp.perm c3').left
  have hB : W3.B p2 = none := fpA.fr p2 (List.mem_cons_of_mem _ (k3'.mem_iff.mpr (by simp)))
  have hne : p ≠ p2 := fun z => (List.nodup_cons.mp fpA.nd).1 (z ▸ k3'.mem_iff.mpr (by simp))
  have hK : ∀ a ∈ K2', a ≠ p2 := fun a ha z => by
    have nd := (k3'.nodup_iff.mp (List.nodup_cons.mp fpA.nd).2)
    exact (List.nodup_cons.mp nd).1 (z ▸ ha)
  refine ⟨p2, us', l, jl, rfl, rfl, l2', by rw [l5.len]; exact o1, ?_⟩
  have rN : (lstO (fun x => sh (E x)) (xs.set jl y)).C ⟨upd W3.H p2 (.lst (us'.set jl u)), W3.B⟩ (.ref p2) [p2] :=
    ⟨p2, _, [], rfl, upd_same, rfl, Owns.of_each (l5.set (SP.mono _ r (ext2.b.trans ext3.b)) jl)⟩
  obtain ⟨G', g1, g2⟩ := k4' ⟨upd W3.H p2 (.lst (us'.set jl u)), W3.B⟩ (xs.set jl y) (.ref p2) [p2] (fun _ _ h => h) (fun a ha => upd_ne (hK a ha)) rN
  have hset : vs''.set jk (.ref p2) = vs'' := by
    refine List.ext_getElem? fun n => ?_
    by_cases z : jk = n
    · subst z
      rw [k1, List.getElem?_set_self (List.getElem?_eq_some_iff.mp k1).1]
    · rw [List.getElem?_set_ne z]
  rw [hset] at g1
  have pG : (p :: G').Perm (p :: G3) := List.Perm.cons p (g2.trans k3'.symm)
  have fpB := fpA.perm pG.symm
  obtain ⟨F', s', stp⟩ := sta_own (W' := ⟨upd W3.H p2 (.lst (us'.set jl u)), W3.B⟩) (F1' := p :: G') (o' := lstO (fun xs => lstO (fun x => sh (E x)) xs) (xss.set jk (xs.set jl y))) [] sta3 (by rw [List.append_nil]; exact sta3.fp) c1' c3' c4' (wr_ok ext3.ok hB) rfl
    (fun a ha _ => upd_ne fun z => ha (z ▸ List.mem_cons_of_mem _ (k3'.mem_iff.mpr (by simp)))) wr_al ⟨fpB.nd, fun a ha => wr_al a (fpB.al a ha), fpB.fr⟩ (fun a ha => .inl (pG.mem_iff.mp ha)) ⟨p, vs'', G', rfl, (upd_ne hne).trans d2', rfl, g1⟩
  rw [List.append_nil] at stp
  have ext03 := (ext.trans ext2).trans ext3
  have stpE : Stp W F W3 F := by have := ext03.stp (F := F) (Fv := []) (by simp); rwa [List.append_nil] at this
  exact kk σ _ F' Keep.refl (stpE.trans stp) s'
/-- xs[k] = e at a written place of a list of several kinds -/
theorem js_setH {x : Str} {p0 tpos : Pos} {ps : List OP} {E : α → SP} {o : OP} {mv : Option α} {j : Int} {kk p'} (i k : Nat) (h : JN S e Γ mv fun x => sh (E x)) (hi : Γ[i]? = some (some (hetO ps)) := by rfl) (hk : ps[k]? = some o := by rfl) (hj : j = (k : Int) := by rfl) (hN : S.N[i]? = some x := by rfl) (hv : Vis S.sc x := by first | exact Or.inl rfl | exact Or.inr (Or.inl rfl) | exact Or.inr (Or.inr rfl))
    (hd : (x == ("__debug__" : Str)) = false := by decide) (hcd : (x == ("__classdict__" : Str)) = false := by decide)
    (ha : ∀ env v, assign (.Subscript (.Name x p0) (.Constant (.int j) kk p') tpos) env v = (do
      let ov ← holding [v] (eval (.Name x p0) env)
      let iv ← holding [v, ov] (eval (.Constant (.int j) kk p') env)
      standAt tpos
      holding [v, ov, iv] (setItem ov iv v)
      release [v, ov, iv] []) := by intro _ _; rfl) (hs : ∀ env, swapsWithSole [.Subscript (.Name x p0) (.Constant (.int j) kk p') tpos] e pos.line env = pure false := by intro _; rfl) (hw : ∀ env, swappedStores [.Subscript (.Name x p0) (.Constant (.int j) kk p') tpos] e env = pure none := by intro _; rfl)
    (h1 : ∀ env, (assignEach [.Subscript (.Name x p0) (.Constant (.int j) kk p') tpos] env).map (·.2) = [assign (.Subscript (.Name x p0) (.Constant (.int j) kk p') tpos) env] := by intro _; rfl) :
    JS S (.Assign [.Subscript (.Name x p0) (.Constant (.int j) kk p') tpos] e pos) Γ mv fun y => .nx (Γ.set i (some (hetO (ps.set k (sh (E y)))))) := fun σ W F sta y m1 Ed kq => by
  refine ⟨tAsg (tOf S e) (gSub (tVar i) (tC (.int j)) rSetL), fun X hX => ps_asg (peO hX) (pg_sub (pe_var (by rw [hX.N]; exact hN) (visS hv hX) hd hcd) pe_int set_list (ha _)) (hs _) (hw _) (h1 _), ?_⟩
  refine h σ W F sta y m1 _ fun u W1 Fv ext fr fp r => ?_
  obtain ⟨rfl, r⟩ := r
  have sta1 := sta.ext ext
  obtain ⟨v, F1, F2, a1, a2, a3, a4⟩ := sta1.hold.at hi
  obtain ⟨p, vs, G2, rfl, b2, rfl, b4⟩ := a2
  have hB : W1.B p = none := (sta1.fp.perm a3).fr p (by simp)
  obtain ⟨w0, K1, K2, k1, k2, k3, k4⟩ := b4.at hk
  have fpA := (sta1.fp.perm a3).left
  have nP : ∀ a ∈ G2, a ≠ p := fun a ha z => (List.nodup_cons.mp fpA.nd).1 (z ▸ ha)
  obtain ⟨G', g1, g2⟩ := k4 ⟨upd W1.H p (.lst (vs.set k u)), W1.B⟩ (sh (E y)) u [] (fun _ _ h => h) (fun a ha => upd_ne (nP a (k3.mem_iff.mpr (List.mem_append_right _ ha)))) ⟨rfl, r⟩
  have sub : ∀ a ∈ p :: G', a ∈ p :: G2 := fun a ha => by
    rcases List.mem_cons.mp ha with z | z
    · exact z ▸ List.mem_cons_self
    · exact List.mem_cons_of_mem _ (k3.mem_iff.mpr (List.mem_append_right _ (by simpa using g2.mem_iff.mp z)))
  have fpB : FpOk W1 (p :: G') := by
    refine FpOk.left (F' := K1) (fpA.perm ?_)
    refine List.Perm.cons p ?_
    refine k3.trans (List.perm_append_comm.trans (List.Perm.append_right K1 ?_))
    simpa using g2.symm
  refine ⟨.ref p, a1, p, vs, j, k, rfl, rfl, b2, ?_, ?_⟩
  · rw [hj]
    have : k < vs.length := (List.getElem?_eq_some_iff.mp k1).1
    unfold ixN
    rw [if_pos (by omega), if_pos (by omega)]
    simp
  · obtain ⟨F', s', stp⟩ := sta_own (W' := ⟨upd W1.H p (.lst (vs.set k u)), W1.B⟩) (F1' := p :: G') (o' := hetO (ps.set k (sh (E y)))) [] sta1 (by rw [List.append_nil]; exact sta1.fp) a1 a3 a4 (wr_ok ext.ok hB) rfl (fun a ha _ => upd_ne fun z => ha (z ▸ List.mem_cons_self)) wr_al
      ⟨fpB.nd, fun a ha => wr_al a (fpB.al a ha), fpB.fr⟩ (fun a ha => .inl (sub a ha)) ⟨p, vs.set k u, G', rfl, upd_same, rfl, g1⟩
    rw [List.append_nil] at stp
    have stpE : Stp W F W1 F := by have := ext.stp (F := F) (Fv := []) (by simp); rwa [List.append_nil] at this
    exact kq σ _ F' Keep.refl (stpE.trans stp) s'
/-! ### defs -/
end
abbrev stcOf (P : Program) (w : World) (K : PySem.W.Frag) (mg : Str → Option Value) (base : Heap) (N : List Str) (sc : Scope) (k : Nat) (prot : List Nat) : Stc := { P := P, w := w, K := K, mg := mg, base := base, N := N, sc := sc, k := k, fn := fun _ => true, prot := prot }
def shC (ps : List SP) : Ctx := ps.map fun p => some (sh p)
def nonC (n : Nat) : Ctx := List.replicate n none
theorem holds_non {W : Wd} : ∀ (n : Nat) (σ : L2.St), Holds (nonC n) σ W []
  | 0, _ => rfl
  | n + 1, σ => holds_non n σ.tail
theorem holds_sh {W : Wd} {n : Nat} : ∀ {vs : List V} {ps : List SP} {r : L2.St}, Hets W.B vs ps → Holds (shC ps ++ nonC n) (vs.map some ++ r) W []
  | [], [], r, _ => holds_non n r
  | v :: vs, p :: ps, r, h => ⟨v, [], [], rfl, rfl, ⟨rfl, h.1⟩, holds_sh (n := n) h.2⟩
  | [], _ :: _, _, h => h.elim
  | _ :: _, [], _, h => h.elim
section
variable {P : Program} {w : World} {K : PySem.W.Frag} {mg : Str → Option Value} {base : Heap}
theorem in_cx {N : List Str} {st : Stmt} {k : Nat} {prot : List Nat} {qual : Str} {f : Addr} {cdv : Value} {A : Around} {outer : List Env} {s : Shared} {H : Hp} {E : XK} (hr : Room k (A.deeper (envOfC qual (defScope st) s.heap.objs.size f cdv))) :
    (stcOf P w K mg base N (defScope st) k prot).In (cxOf CX0 P w K mg base N qual (defScope st) f cdv A outer s H E).nox := ⟨rfl, rfl, rfl, rfl, rfl, rfl, rfl, rfl, rfl, fun _ => hr, hr.units, PassesOwn.never, takes_none, fun _ => ⟨rfl, rfl⟩, nofun⟩
theorem fn_pure {x qual : Str} {st : Stmt} {f : Addr} {fd : FuncData} {N ps : List Str} {k : Nat} {G : α → List SP} {fM : α → Option ρ} {R : ρ → OP} {Δ : Ctx} (F : Fun K x qual st f fd) (Sc : FnScope N ps (defScope st)) (hG : ∀ a, (G a).length = ps.length) (hn : ps.length ≤ N.length)
    (body : ∀ a, JB (stcOf P w K mg base N (defScope st) k []) (defBody st) (shC (G a) ++ nonC (N.length - ps.length)) (fM a) fun r => .rt Δ (R r)) : FnOk P w K mg base CX0 (k + 1) f fd ps (spP G fM R) := by
  refine F.ok Sc (fun vs H Q E h => ?_) (fun cdv A outer s H vs Q E hr h => ?_)
  · obtain ⟨a, W, r, _, _, h3, _⟩ := h
    rw [h3.len, hG]
  · obtain ⟨a, W, r, rfl, ok, h3, h4, kq⟩ := h
    refine ⟨tbOf (stcOf P w K mg base N (defScope st) k []) (defBody st), pbO (in_cx hr), ?_⟩
    have hl : vs.length = ps.length := h3.len.trans (hG a)
    have sta : Sta (shC (G a) ++ nonC (N.length - ps.length)) (L2.start N vs) W [] := ⟨ok, FpOk.nil, by unfold L2.start shC nonC; simp [h3.len, hG, hl], by unfold L2.start; rw [hl]; exact holds_sh h3⟩
    exact body a _ W [] sta r h4 _ fun v σ' W' F' Fv _ stp _ fp rr => by
      obtain ⟨ext, fr⟩ := stp.ext
      exact kq v W' Fv ext (fun a ha => fr a (List.mem_append_right _ ha)) fp.right rr
theorem fn_state {x qual : Str} {st : Stmt} {f : Addr} {fd : FuncData} {N ps : List Str} {k : Nat} {O : τ → OP} {G : α → List SP} {fM : α → τ → Option (ρ × τ)} {R : ρ → OP} (F : Fun K x qual st f fd) (Sc : FnScope N ps (defScope st)) (hG : ∀ a, (G a).length + 1 = ps.length) (hn : ps.length ≤ N.length)
    (body : ∀ a s, JB (stcOf P w K mg base N (defScope st) k [0]) (defBody st) (some (O s) :: (shC (G a) ++ nonC (N.length - ps.length))) (fM a s) fun r => .rt (some (O r.2) :: nonC (N.length - 1)) (R r.1)) : FnOk P w K mg base CX0 (k + 1) f fd ps (spS O G fM R) := by
  refine F.ok Sc (fun vs H Q E h => ?_) (fun cdv A outer s H vs Q E hr h => ?_)
  · obtain ⟨a, s, W, F, v0, vr, r, rfl, _, _, _, _, h3, _⟩ := h
    rw [List.length_cons, h3.len, hG]
  · obtain ⟨a, s0, W, Fp, v0, vr, r, rfl, rfl, ok, fp0, h0, h3, h4, kq⟩ := h
    refine ⟨tbOf (stcOf P w K mg base N (defScope st) k [0]) (defBody st), pbO (in_cx hr), ?_⟩
    have hl : (v0 :: vr).length = ps.length := by rw [List.length_cons, h3.len]; exact hG a
    have sta : Sta (some (O s0) :: (shC (G a) ++ nonC (N.length - ps.length))) (L2.start N (v0 :: vr)) W Fp := ⟨ok, fp0, by
      unfold L2.start shC nonC
      have := hG a
      simp [h3.len]
      omega, ⟨v0, Fp, [], rfl, (List.append_nil _).symm, h0, by
      unfold L2.start
      rw [hl]
      exact holds_sh h3⟩⟩
    refine body a s0 _ W Fp sta r h4 _ fun v σ' W' F' Fv kp stp sa fp rr => ?_
    obtain ⟨u, F1, F2, b1, b2, b3, b4⟩ := sa.hold
    have e0 : σ'[0]? = some (some v0) := (kp 0 (by simp)).trans rfl
    have eu : u = v0 := by
      rw [List.head?_eq_getElem?] at b1
      rw [e0] at b1
      exact (Option.some.inj (Option.some.inj b1)).symm
    subst eu
    have eF : F2 = [] := by
      have : ∀ (n : Nat) (σ : L2.St) (F : List Addr), Holds (nonC n) σ W' F → F = [] := by
        intro n
        induction n with
        | zero => intro σ F h; exact h
        | succ n ih => intro σ F h; exact ih σ.tail F h
      exact this _ _ _ b4
    subst eF
    rw [List.append_nil] at b2
    subst b2
    exact kq v W' F' Fv stp fp b3 rr
end
end CC
set_option maxHeartbeats 4000000
/-! Expressions that change what is owned. -/
namespace CC
open PySem PySem.Spec L2
open PyProof.Rows hiding St
variable {α β γ δ τ ω ρ υ : Type}
def JEA (S : Stc) (es : List Expr) (Γ : τ → Ctx) (s : τ) (m : Option (α × τ)) (G : α → List SP) : Prop :=
  ∀ σ W F, Sta (Γ s) σ W F → ∀ x, m = some x → ∀ Q : List V → Hp → Prop, (∀ vs W' F', Stp W F W' F' → Sta (Γ x.2) σ W' F' → Hets W'.B vs (G x.1) → Q vs W'.H) → taOf S es σ W.H Q
def JTE (S : Stc) (e : Expr) (Γ : τ → Ctx) (s : τ) (m : Option (Bool × τ)) : Prop :=
  ∀ σ W F, Sta (Γ s) σ W F → ∀ x, m = some x → ∀ Q : Bool → Hp → Prop, (∀ W' F', Stp W F W' F' → Sta (Γ x.2) σ W' F' → Q x.1 W'.H) → ttOf S e σ W.H Q
def JWE (S : Stc) (e : Expr) (Γ : τ → Ctx) (s : τ) (m : Option (Bool × τ)) : Prop :=
  ∀ σ W F, Sta (Γ s) σ W F → ∀ x, m = some x → ∀ Q : Bool → Hp → Prop, (∀ W' F', Stp W F W' F' → Sta (Γ x.2) σ W' F' → Q x.1 W'.H) → twOf S e σ W.H Q
def JIE (S : Stc) (tg iter : Expr) (Γ : τ → Ctx) (s : τ) (m : Option (List α × τ)) (E : α → SP) : Prop :=
  ∀ σ W F, Sta (Γ s) σ W F → ∀ x, m = some x → ∀ R : It → Hp → Prop, (∀ J W' F', Stp W F W' F' → Sta (Γ x.2) σ W' F' → ItOk J (fun W1 => Ex W1.B W1.H ∧ Ex W'.B W1.B) x.1 E → R J W'.H) → tiOf S tg iter σ W.H R
theorem Ext.stp0 {W W' : Wd} {F : List Addr} (e : Ext W W') : Stp W F W' F := by
  have := e.stp (F := F) (Fv := []) (by simp)
  rwa [List.append_nil] at this
section
variable {S : Stc} {Γ : τ → Ctx} {s : τ} {a b c e tg iter elt : Expr} {es ifs : List Expr} {pos : Pos} {st : Stmt} {rest A B : List Stmt}
theorem je_of {m : Option α} {R : α → OP} (h : JN S e (Γ s) m R) : JE S e Γ s (m.bind fun x => some (x, s)) R := fun σ W F sta z hz Q k => by
  obtain ⟨x, h1, h2⟩ := run1 hz
  cases h2
  exact h σ W F sta x h1 Q fun v W' Fv ext fr fp r => k v W' F Fv (ext.stp fr) (sta.ext ext) (sta.fp.fresh ext fp fr) r
theorem jte_of {m : Option Bool} (h : JT S e (Γ s) m) : JTE S e Γ s (m.bind fun x => some (x, s)) := fun σ W F sta z hz Q k => by
  obtain ⟨x, h1, h2⟩ := run1 hz
  cases h2
  exact h σ W F sta x h1 Q fun W' ext => k W' F ext.stp0 (sta.ext ext)
theorem jea_of {m : Option α} {G : α → List SP} (h : JA S es (Γ s) m G) : JEA S es Γ s (m.bind fun x => some (x, s)) G := fun σ W F sta z hz Q k => by
  obtain ⟨x, h1, h2⟩ := run1 hz
  cases h2
  exact h σ W F sta x h1 Q fun vs W' ext hh => k vs W' F ext.stp0 (sta.ext ext) hh
theorem jie_of {m : Option (List α)} {E : α → SP} (h : JI S tg iter (Γ s) m E) : JIE S tg iter Γ s (m.bind fun x => some (x, s)) E := fun σ W F sta z hz R k => by
  obtain ⟨x, h1, h2⟩ := run1 hz
  cases h2
  exact h σ W F sta x h1 R fun J W' ext ok => k J W' F ext.stp0 (sta.ext ext) ok
/-- a shared value behind a step: its footprint is nothing -/
theorem JE.sh {m : Option (α × τ)} {E : α → SP} (h : JE S e Γ s m fun x => CC.sh (E x)) {σ : L2.St} {W : Wd} {F : List Addr} (sta : Sta (Γ s) σ W F) {x : α × τ} (hx : m = some x) {Q : VK}
    (k : ∀ v W' F', Stp W F W' F' → Sta (Γ x.2) σ W' F' → (E x.1).P W'.B v → Q v W'.H) : tOf S e σ W.H Q :=
  h σ W F sta x hx Q fun v W' F' Fv stp sa fp r => by
    obtain ⟨rfl, r⟩ := r
    rw [List.append_nil] at stp
    exact k v W' F' stp sa r
theorem JE.of_sh {m : Option (α × τ)} {E : α → SP} (h : ∀ σ W F, Sta (Γ s) σ W F → ∀ x, m = some x → ∀ Q : VK, (∀ v W' F', Stp W F W' F' → Sta (Γ x.2) σ W' F' → (E x.1).P W'.B v → Q v W'.H) → tOf S e σ W.H Q) : JE S e Γ s m fun x => CC.sh (E x) :=
  fun σ W F sta x hx Q k => h σ W F sta x hx Q fun v W' F' stp sa r => k v W' F' [] (by rw [List.append_nil]; exact stp) sa (by rw [List.append_nil]; exact sa.fp) ⟨rfl, r⟩
theorem jea_nil : JEA S [] Γ s (some ((), s)) fun _ => [] := fun σ W F sta x hx Q k => by
  cases hx
  exact ⟨tNil, fun _ _ => pa_nil, k [] W F (Stp.refl sta.ok) sta trivial⟩
theorem jea_cons {ma : Option (α × τ)} {mb : τ → Option (β × τ)} {E : α → SP} {G : β → List SP} (ha : JE S e Γ s ma fun x => sh (E x)) (hb : ∀ s1, JEA S es Γ s1 (mb s1) G) (hs : ∀ env, starEach (e :: es) env = (false, eval e env) :: starEach es env := by intro _; rfl) :
    JEA S (e :: es) Γ s (ma.bind fun p => (mb p.2).bind fun q => some ((p.1, q.1), q.2)) fun z => E z.1 :: G z.2 := fun σ W F sta z hz Q k => by
  obtain ⟨p, h1, h2⟩ := run1 hz
  obtain ⟨q, h3, h4⟩ := run1 (f := fun q : β × τ => some ((p.1, q.1), q.2)) h2
  cases h4
  refine ⟨tCons (tOf S e) (taOf S es), fun X hX => pa_cons (peO hX) (paO hX) (hs _), ?_⟩
  refine ha.sh sta h1 fun v W1 F1 stp1 sa1 r1 => ?_
  exact hb p.2 σ W1 F1 sa1 q h3 _ fun vs W2 F2 stp2 sa2 hh => k (v :: vs) W2 F2 (stp1.trans stp2) sa2 ⟨SP.mono _ r1 stp2.b, hh⟩
/-- operators -/
theorem tOp_runE {r : R2} {E : α → SP} {G : β → SP} {f : α → β → Option γ} {R : γ → OP} {ma : Option (α × τ)} {mb : τ → Option (β × τ)} (ha : JE S a Γ s ma fun x => sh (E x)) (hb : ∀ s1, JE S b Γ s1 (mb s1) fun y => sh (G y)) (hr : OpV r E G f R)
    {σ : L2.St} {W : Wd} {F : List Addr} (sta : Sta (Γ s) σ W F) {z : γ × τ} (hz : (ma.bind fun p => (mb p.2).bind fun q => (f p.1 q.1).bind fun z => some (z, q.2)) = some z) {Q : VK}
    (k : ∀ v W' F' Fv, Stp W F W' (F' ++ Fv) → Sta (Γ z.2) σ W' F' → FpOk W' (F' ++ Fv) → (R z.1).C W' v Fv → Q v W'.H) : tOp r (tOf S a) (tOf S b) σ W.H Q := by
  obtain ⟨p, h1, h2⟩ := run1 hz
  obtain ⟨q, h3, h4⟩ := run1 (f := fun q : β × τ => (f p.1 q.1).bind fun z => some (z, q.2)) h2
  obtain ⟨y, h5, h6⟩ := run1 (f := fun z : γ => some (z, q.2)) h4
  cases h6
  refine ha.sh sta h1 fun v W1 F1 stp1 sa1 r1 => ?_
  refine (hb p.2).sh sa1 h3 fun u W2 F2 stp2 sa2 r2 => ?_
  refine hr W2 p.1 q.1 v u y sa2.ok (SP.mono _ r1 stp2.b) r2 h5 Q fun t W3 Fv ext fr fp rr => ?_
  exact k t W3 F2 Fv ((stp1.trans stp2).trans (ext.stp fr)) (sa2.ext ext) (sa2.fp.fresh ext fp fr) rr
theorem je_bin {op : Operator} {r : R2} {E : α → SP} {G : β → SP} {f : α → β → Option γ} {R : γ → OP} {ma : Option (α × τ)} {mb : τ → Option (β × τ)} (ho : ∀ X, S.In X → OpR X (binaryOp op) r) (hr : OpV r E G f R)
    (ha : JE S a Γ s ma fun x => sh (E x)) (hb : ∀ s1, JE S b Γ s1 (mb s1) fun y => sh (G y)) : JE S (.BinOp a op b pos) Γ s (ma.bind fun p => (mb p.2).bind fun q => (f p.1 q.1).bind fun z => some (z, q.2)) R := fun σ W F sta z hz Q k =>
  ⟨tOp r (tOf S a) (tOf S b), fun X hX => pe_op (ho X hX) (peO hX) (peO hX), tOp_runE ha hb hr sta hz k⟩
theorem je_cmp {op : CmpOp} {r : R2} {E : α → SP} {G : β → SP} {f : α → β → Option γ} {R : γ → OP} {ma : Option (α × τ)} {mb : τ → Option (β × τ)} (ho : ∀ X, S.In X → OpR X (compareOp op) r) (hr : OpV r E G f R)
    (ha : JE S a Γ s ma fun x => sh (E x)) (hb : ∀ s1, JE S b Γ s1 (mb s1) fun y => sh (G y)) (hm : behindInMarks op b = false := by first | exact nomark _ | rfl) : JE S (.Compare a [op] [b] pos) Γ s (ma.bind fun p => (mb p.2).bind fun q => (f p.1 q.1).bind fun z => some (z, q.2)) R := fun σ W F sta z hz Q k =>
  ⟨tOp r (tOf S a) (tOf S b), fun X hX => pe_cmpR (ho X hX) (peO hX) (peO hX) hm, tOp_runE ha hb hr sta hz k⟩
theorem jte_cmp {op : CmpOp} {r : R2} {E : α → SP} {G : β → SP} {f : α → β → Option Bool} {ma : Option (α × τ)} {mb : τ → Option (β × τ)} (ho : ∀ X, S.In X → OpR X (compareOp op) r) (hr : OpV r E G f fun z => sh (boolS z))
    (ha : JE S a Γ s ma fun x => sh (E x)) (hb : ∀ s1, JE S b Γ s1 (mb s1) fun y => sh (G y)) (hm : behindInMarks op b = false := by first | exact nomark _ | rfl) : JTE S (.Compare a [op] [b] pos) Γ s (ma.bind fun p => (mb p.2).bind fun q => (f p.1 q.1).bind fun z => some (z, q.2)) := fun σ W F sta z hz Q k =>
  ⟨tTest (tOp r (tOf S a) (tOf S b)), fun X hX => pt_cmpR (ho X hX) (peO hX) (peO hX) hm, tOp_runE ha hb hr sta hz fun v W' F' Fv stp sa fp rr => by
    obtain ⟨rfl, h⟩ := rr
    rw [List.append_nil] at stp
    exact ⟨z.1, h, k W' F' stp sa⟩⟩
theorem jte_val {m : Option (Bool × τ)} (h : JE S e Γ s m fun z => sh (boolS z)) (he : ∀ env whole, isTrue e env whole = (do let v ← whole; standAt e.pos; holding [v] (truthy v)) := by intro _ _; rfl) : JTE S e Γ s m := fun σ W F sta z hz Q k =>
  ⟨tB (tOf S e), fun X hX => pt_val (peO hX) (he _), h.sh sta hz fun v W' F' stp sa r => ⟨z.1, r, k W' F' stp sa⟩⟩
theorem jte_not {m : Option (Bool × τ)} (h : JTE S e Γ s m) : JTE S (.UnaryOp .Not e pos) Γ s (m.bind fun x => some (!x.1, x.2)) := fun σ W F sta z hz Q k => by
  obtain ⟨x, h1, h2⟩ := run1 hz
  cases h2
  exact ⟨tNot (ttOf S e), fun X hX => pt_not (ptO hX), h σ W F sta x h1 _ fun W' F' stp sa => k W' F' stp sa⟩
theorem jwe_and1 {m : Option (Bool × τ)} (h : JTE S a Γ s m) : JWE S (.BoolOp .And [a] pos) Γ s m := fun σ W F sta z hz Q k => ⟨ttOf S a, fun X hX => pw_and1 (ptO hX), h σ W F sta z hz _ k⟩
theorem jwe_or1 {m : Option (Bool × τ)} (h : JTE S a Γ s m) : JWE S (.BoolOp .Or [a] pos) Γ s m := fun σ W F sta z hz Q k => ⟨ttOf S a, fun X hX => pw_or1 (ptO hX), h σ W F sta z hz _ k⟩
theorem jwe_and {ma : Option (Bool × τ)} {mb : τ → Option (Bool × τ)} (ha : JTE S a Γ s ma) (hb : ∀ s1, JWE S (.BoolOp .And (b :: es) pos) Γ s1 (mb s1)) : JWE S (.BoolOp .And (a :: b :: es) pos) Γ s (ma.bind fun p => bif p.1 then mb p.2 else some (false, p.2)) := fun σ W F sta z hz Q k => by
  obtain ⟨x, h1, h2⟩ := run1 hz
  refine ⟨tAnd (ttOf S a) (twOf S (.BoolOp .And (b :: es) pos)), fun X hX => pw_and (ptO hX) (pwO hX), ha σ W F sta x h1 _ fun W' F' stp sa => ?_⟩
  obtain ⟨x1, x2⟩ := x
  cases x1 with
  | true => exact iteT (hb x2 σ W' F' sa z h2 Q fun W2 F2 stp2 sa2 => k W2 F2 (stp.trans stp2) sa2)
  | false =>
    cases h2
    exact iteF (k W' F' stp sa)
theorem jwe_or {ma : Option (Bool × τ)} {mb : τ → Option (Bool × τ)} (ha : JTE S a Γ s ma) (hb : ∀ s1, JWE S (.BoolOp .Or (b :: es) pos) Γ s1 (mb s1)) : JWE S (.BoolOp .Or (a :: b :: es) pos) Γ s (ma.bind fun p => bif p.1 then some (true, p.2) else mb p.2) := fun σ W F sta z hz Q k => by
  obtain ⟨x, h1, h2⟩ := run1 hz
  refine ⟨tOr (ttOf S a) (twOf S (.BoolOp .Or (b :: es) pos)), fun X hX => pw_or (ptO hX) (pwO hX), ha σ W F sta x h1 _ fun W' F' stp sa => ?_⟩
  obtain ⟨x1, x2⟩ := x
  cases x1 with
  | false => exact iteF (hb x2 σ W' F' sa z h2 Q fun W2 F2 stp2 sa2 => k W2 F2 (stp.trans stp2) sa2)
  | true =>
    cases h2
    exact iteT (k W' F' stp sa)
theorem jte_w {m : Option (Bool × τ)} (h : JWE S e Γ s m) : JTE S e Γ s m := fun σ W F sta z hz Q k => ⟨twOf S e, fun X hX => (pwO hX).pt, h σ W F sta z hz Q k⟩
theorem je_if {mc : Option (Bool × τ)} {ma mb : τ → Option (α × τ)} {R : α → OP} (hc : JTE S c Γ s mc) (ha : ∀ s1, JE S a Γ s1 (ma s1) R) (hb : ∀ s1, JE S b Γ s1 (mb s1) R) : JE S (.IfExp c a b pos) Γ s (mc.bind fun p => bif p.1 then ma p.2 else mb p.2) R := fun σ W F sta z hz Q k => by
  obtain ⟨x, h1, h2⟩ := run1 hz
  refine ⟨tIf (ttOf S c) (tOf S a) (tOf S b), fun X hX => pe_ifExp (ptO hX) (peO hX) (peO hX), hc σ W F sta x h1 _ fun W' F' stp sa => ?_⟩
  obtain ⟨x1, x2⟩ := x
  cases x1 with
  | true => exact iteT (ha x2 σ W' F' sa z h2 Q fun v W2 F2 Fv stp2 sa2 fp r => k v W2 F2 Fv (stp.trans stp2) sa2 fp r)
  | false => exact iteF (hb x2 σ W' F' sa z h2 Q fun v W2 F2 Fv stp2 sa2 fp r => k v W2 F2 Fv (stp.trans stp2) sa2 fp r)
/-- a shared thing's item at a drawn place -/
theorem je_ix {r : R2} {P : α → SP} {G : β → SP} {f : α → β → Option γ} {E : γ → SP} {ma : Option (α × τ)} {mb : τ → Option (β × τ)} (ho : ∀ X, S.In X → IxR X r) (hr : IxV r (fun x => sh (P x)) G f fun z => sh (E z))
    (ha : JE S a Γ s ma fun x => sh (P x)) (hb : ∀ s1, JE S b Γ s1 (mb s1) fun y => sh (G y)) (hs : PlainIx b := by exact fun _ _ => rfl) : JE S (.Subscript a b pos) Γ s (ma.bind fun p => (mb p.2).bind fun q => (f p.1 q.1).bind fun z => some (z, q.2)) fun z => sh (E z) := JE.of_sh fun σ W F sta z hz Q k => by
  refine ⟨tOp r (tOf S a) (tOf S b), fun X hX => pe_ix (ho X hX) (peO hX) (peO hX) hs, ?_⟩
  obtain ⟨p, h1, h2⟩ := run1 hz
  obtain ⟨q, h3, h4⟩ := run1 (f := fun q : β × τ => (f p.1 q.1).bind fun z => some (z, q.2)) h2
  obtain ⟨y, h5, h6⟩ := run1 (f := fun z : γ => some (z, q.2)) h4
  cases h6
  refine ha.sh sta h1 fun v W1 F1 stp1 sa1 r1 => ?_
  refine (hb p.2).sh sa1 h3 fun u W2 F2 stp2 sa2 r2 => ?_
  exact hr W2 p.1 q.1 v u y [] sa2.ok ⟨rfl, SP.mono _ r1 stp2.b⟩ r2 h5 _ fun t ⟨F3, q1, _⟩ => k t W2 F2 (stp1.trans stp2) sa2 q1.2
/-- builtins of one argument -/
theorem je_b1 {x : Str} {id : String} {p : Pos} {r : List V → Hp → VK → Prop} {m : Option (α × τ)} {E : α → SP} {f : α → Option γ} {R : γ → OP} (hc : ∀ X, S.In X → CallR X (.builtin id) r)
    (hr : ∀ W x v z, Ex W.B W.H → (E x).P W.B v → f x = some z → ∀ Q : VK, Got (R z) W Q → r [v] W.H Q) (hm : S.mg x = none) (ha : JE S a Γ s m fun x => sh (E x))
    (hg : GlS S x := by rfl) (hv : bootBuiltins x = some (.builtin id) := by decide +kernel) (hn : x ≠ "__name__" := by decide) (hdb : (x == ("__debug__" : Str)) = false := by decide)
    (hs : ∀ env, starEach [a] env = [(false, eval a env)] := by intro _; rfl) : JE S (.Call (.Name x p) [a] [] pos) Γ s (m.bind fun q => (f q.1).bind fun z => some (z, q.2)) R := fun σ W F sta z hz Q k => by
  obtain ⟨q, h1, h2⟩ := run1 hz
  obtain ⟨y, h3, h4⟩ := run1 (f := fun z : γ => some (z, q.2)) h2
  cases h4
  refine ⟨tCB r (tCons (tOf S a) tNil), fun X hX => pe_callB (hc X hX) (hg.gl hX) (mgS hm hX) hv (pa_cons (peO hX) pa_nil (hs _)) hn hdb (hs _) rfl, ha.sh sta h1 fun v W1 F1 stp1 sa1 r1 => ?_⟩
  exact hr W1 q.1 v y sa1.ok r1 h3 Q fun t W3 Fv ext fr fp rr => k t W3 F1 Fv (stp1.trans (ext.stp fr)) (sa1.ext ext) (sa1.fp.fresh ext fp fr) rr
theorem je_t1 {x : Str} {T : String} {p : Pos} {r : List V → Hp → VK → Prop} {m : Option (α × τ)} {E : α → SP} {f : α → Option γ} {R : γ → OP} (hc : ∀ X, S.In X → CallR X (.type T) r)
    (hr : ∀ W x v z, Ex W.B W.H → (E x).P W.B v → f x = some z → ∀ Q : VK, Got (R z) W Q → r [v] W.H Q) (hm : S.mg x = none) (ha : JE S a Γ s m fun x => sh (E x))
    (hg : GlS S x := by rfl) (hv : bootBuiltins x = some (.type T) := by decide +kernel) (hn : x ≠ "__name__" := by decide) (hdb : (x == ("__debug__" : Str)) = false := by decide)
    (hs : ∀ env, starEach [a] env = [(false, eval a env)] := by intro _; rfl) : JE S (.Call (.Name x p) [a] [] pos) Γ s (m.bind fun q => (f q.1).bind fun z => some (z, q.2)) R := fun σ W F sta z hz Q k => by
  obtain ⟨q, h1, h2⟩ := run1 hz
  obtain ⟨y, h3, h4⟩ := run1 (f := fun z : γ => some (z, q.2)) h2
  cases h4
  refine ⟨tCB r (tCons (tOf S a) tNil), fun X hX => pe_callTy (hc X hX) (hg.gl hX) (mgS hm hX) hv (pa_cons (peO hX) pa_nil (hs _)) hn hdb (hs _) rfl, ha.sh sta h1 fun v W1 F1 stp1 sa1 r1 => ?_⟩
  exact hr W1 q.1 v y sa1.ok r1 h3 Q fun t W3 Fv ext fr fp rr => k t W3 F1 Fv (stp1.trans (ext.stp fr)) (sa1.ext ext) (sa1.fp.fresh ext fp fr) rr
theorem je_int {m : Option (Int × τ)} {p : Pos} (hm : S.mg "int" = none) (h : JE S a Γ s m fun x => sh (intS x)) (hg : GlS S "int" := by rfl) (hs : ∀ env, starEach [a] env = [(false, eval a env)] := by intro _; rfl) : JE S (.Call (.Name "int" p) [a] [] pos) Γ s (m.bind fun q => some (q.1, q.2)) fun z => sh (intS z) :=
  je_t1 (f := fun x : Int => some x) (fun X hX => call_int1) (fun W x v z ok hh e Q k => by
    cases e
    cases hh
    exact .inl ⟨_, rfl, k.val ok rfl⟩) hm h hg (by decide +kernel) (by decide) (by decide) hs
/-- a fresh value frozen on the way -/
theorem JE.frz {m : Option (α × τ)} {R : α → OP} {P : α → SP} (f : ∀ x, FrzN (R x) (P x)) (h : JE S e Γ s m R) : JE S e Γ s m fun x => CC.sh (P x) := JE.of_sh fun σ W F sta x hx Q k =>
  h σ W F sta x hx Q fun v W' F' Fv stp sa fp r => by
    obtain ⟨B', b1, b2, b3, b4⟩ := (f x.1).run r fp.right.nd fp.right.fr stp.ok
    have fpB : FpOk ⟨W'.H, B'⟩ F' := ⟨fp.left.nd, fp.left.al, fun a ha => b3 a (fp.left.fr a ha) (fp.disj a ha)⟩
    refine k v ⟨W'.H, B'⟩ F' ⟨b2, stp.b.trans b1, stp.h, stp.al, fun a h1 h2 n => b3 a (stp.fr a h1 h2 n) fun z => ?_, fun a ha => stp.fp a (List.mem_append_left _ ha)⟩ ⟨b2, fpB, sa.len, sa.hold.loc b1 fun _ _ => rfl⟩ b4
    rcases stp.fp a (List.mem_append_right _ z) with q | q
    · exact n q
    · exact h1 q
/-- a call of a def that changes its first argument, the slot i -/
theorem je_callS {x y : Str} {p p1 : Pos} {f : Addr} {fd : FuncData} {ps : List Str} {k : Nat} {O : υ → OP} {G : α → List SP} {fM : α → υ → Option (ρ × υ)} {R : ρ → OP} {m : Option (α × τ)} (i : Nat) (get : τ → υ) (put : τ → υ → τ) (Fn : FnOk S.P S.w S.K S.mg S.base CX0 k f fd ps (spS O G fM R)) (hm : S.mg x = some (.ref f)) (kp : PySem.W.keepIn S.K (.ref f) = true) (hb : Binds S.K fd ps [])
    (hk : k ≤ S.k) (ha : JEA S es Γ s m G) (hi : ∀ s, (Γ s)[i]? = some (some (O (get s))) := by intro _; rfl) (hp : ∀ s u, (Γ s).set i (some (O u)) = Γ (put s u) := by intro _ _; rfl) (hN : S.N[i]? = some y := by rfl) (hv : Vis S.sc y := by first | exact Or.inl rfl | exact Or.inr (Or.inl rfl) | exact Or.inr (Or.inr rfl))
    (hd : (y == ("__debug__" : Str)) = false := by decide) (hcd : (y == ("__classdict__" : Str)) = false := by decide) (hg : GlS S x := by rfl) (hdb : (x == ("__debug__" : Str)) = false := by decide)
    (he : ∀ env, starEach (Expr.Name y p1 :: es) env = (false, eval (.Name y p1) env) :: starEach es env := by intro _; rfl) (hpl : ∀ env, (backTo pos (starEach es env)).any (·.1) = false := by intro _; rfl) (hcm : S.calm = true := by rfl) :
    JE S (.Call (.Name x p) (.Name y p1 :: es) [] pos) Γ s (m.bind fun q => (fM q.1 (get q.2)).bind fun r => some (r.1, put q.2 r.2)) R := fun σ W F sta z hz Q kk => by
  obtain ⟨q, h1, h2⟩ := run1 hz
  obtain ⟨r, h3, h4⟩ := run1 (f := fun r : ρ × υ => some (r.1, put q.2 r.2)) h2
  cases h4
  refine ⟨tCall (spS O G fM R) [] E0 (tCons (tVar i) (taOf S es)), fun X hX => pe_call (fnokS Fn hX) ((hX.room hcm).mono hk) (hg.gl hX) (mgS hm hX) (by rw [hX.K]; exact kp) (bindsS hX hb) .nil passE0 (pa_cons (pe_var (by rw [hX.N]; exact hN) (visS hv hX) hd hcd) (paO hX) (he _)) hdb (he _) (hpl _), ?_⟩
  obtain ⟨v0, F1, F2, a1, _, _, _⟩ := sta.hold.at (hi s)
  refine ⟨v0, a1, ha σ W F sta q h1 _ fun vs W1 Fa stp1 sa1 hh => ?_⟩
  show spS O G fM R ((v0 :: vs) ++ []) W1.H Q E0
  rw [List.append_nil]
  obtain ⟨v1, F1, F2, b1, b2, b3, b4⟩ := sa1.hold.at (hi q.2)
  have ev : v1 = v0 := by rw [a1] at b1; exact (Option.some.inj (Option.some.inj b1)).symm
  subst ev
  have fpP := sa1.fp.perm b3
  refine ⟨q.1, get q.2, W1, F1, v1, vs, r, rfl, rfl, sa1.ok, fpP.left, b2, hh, h3, fun v W2 F1' Fv stp2 fp2 o2 r2 => ?_⟩
  have ne2 : ∀ a ∈ F2, a ∉ F1 := fun a ha h => fpP.disj a h ha
  have hH : ∀ a ∈ F2, W2.H a = W1.H a := fun a ha => by
    cases qa : W1.H a with
    | none => exact absurd qa (fpP.right.al a ha)
    | some o => exact stp2.h a o qa (ne2 a ha)
  obtain ⟨F', c1, c2⟩ := b4 W2 (O r.2) v1 F1' stp2.b hH o2
  rw [set_back b1, hp] at c1
  have fpN : FpOk W2 ((F1' ++ F2) ++ Fv) := by
    have fA : FpOk W2 ((F1' ++ Fv) ++ F2) := fp2.app ⟨fpP.right.nd, fun a ha => stp2.al a (fpP.right.al a ha), fun a ha => stp2.fr a (fpP.right.al a ha) (fpP.right.fr a ha) (ne2 a ha)⟩ fun a ha h => by
      rcases stp2.fp a ha with z | z
      · exact ne2 a h z
      · exact fpP.right.al a h z
    refine fA.perm ?_
    rw [List.append_assoc, List.append_assoc]
    exact List.Perm.append_left _ List.perm_append_comm
  have fpF : FpOk W2 (F' ++ Fv) := fpN.perm (List.Perm.append_right Fv c2.symm)
  refine kk v W2 F' Fv (stp1.trans ?_) ⟨stp2.ok, fpF.left, by rw [← hp, List.length_set]; exact sa1.len, c1⟩ fpF r2
  refine ⟨stp2.ok, stp2.b, fun a o h n => stp2.h a o h fun z => n (b3.mem_iff.mpr (List.mem_append_left _ z)), stp2.al, fun a x1 x2 n => stp2.fr a x1 x2 fun z => n (b3.mem_iff.mpr (List.mem_append_left _ z)), fun a ha => ?_⟩
  rcases List.mem_append.mp ha with z | z
  · rcases List.mem_append.mp (c2.mem_iff.mp z) with z | z
    · exact (stp2.fp a (List.mem_append_left _ z)).imp (fun w => b3.mem_iff.mpr (List.mem_append_left _ w)) id
    · exact .inl (b3.mem_iff.mpr (List.mem_append_right _ z))
  · exact (stp2.fp a (List.mem_append_right _ z)).imp (fun w => b3.mem_iff.mpr (List.mem_append_left _ w)) id
/-- a pure def with such arguments -/
theorem je_call {x : Str} {p : Pos} {f : Addr} {fd : FuncData} {ps : List Str} {k : Nat} {G : α → List SP} {fM : α → Option ρ} {R : ρ → OP} {m : Option (α × τ)} (Fn : FnOk S.P S.w S.K S.mg S.base CX0 k f fd ps (spP G fM R)) (hm : S.mg x = some (.ref f)) (kp : PySem.W.keepIn S.K (.ref f) = true) (hb : Binds S.K fd ps [])
    (hk : k ≤ S.k) (ha : JEA S (e :: es) Γ s m G) (hg : GlS S x := by rfl) (hdb : (x == ("__debug__" : Str)) = false := by decide) (he : ∀ env, starEach (e :: es) env = (false, eval e env) :: starEach es env := by intro _; rfl) (hpl : ∀ env, (backTo pos (starEach es env)).any (·.1) = false := by intro _; rfl) (hcm : S.calm = true := by rfl) :
    JE S (.Call (.Name x p) (e :: es) [] pos) Γ s (m.bind fun q => (fM q.1).bind fun r => some (r, q.2)) R := fun σ W F sta z hz Q kk => by
  obtain ⟨q, h1, h2⟩ := run1 hz
  obtain ⟨r, h3, h4⟩ := run1 (f := fun r : ρ => some (r, q.2)) h2
  cases h4
  refine ⟨tCall (spP G fM R) [] E0 (taOf S (e :: es)), fun X hX => pe_call (fnokS Fn hX) ((hX.room hcm).mono hk) (hg.gl hX) (mgS hm hX) (by rw [hX.K]; exact kp) (bindsS hX hb) .nil passE0 (paO hX) hdb (he _) (hpl _), ha σ W F sta q h1 _ fun vs W1 F1 stp1 sa1 hh => ?_⟩
  show spP G fM R (vs ++ []) W1.H Q E0
  rw [List.append_nil]
  exact ⟨q.1, W1, r, rfl, sa1.ok, hh, h3, fun v W2 Fv ext fr fp rr => kk v W2 F1 Fv (stp1.trans (ext.stp fr)) (sa1.ext ext) (sa1.fp.fresh ext fp fr) rr⟩
/-- xs.pop(i) of an owned list -/
def popAt (xs : List α) (i : Int) : Option (α × List α) := if 0 ≤ i ∧ xs.length ≤ LIM then (xs[i.toNat]?).bind fun x => some (x, xs.eraseIdx i.toNat) else none
theorem Owns.erase {E : α → OP} {W : Wd} : ∀ {vs : List V} {xs : List α} {F : List Addr} {i : Nat} {x : α}, Owns E W vs xs F → xs[i]? = some x →
    ∃ v F1 F2, vs[i]? = some v ∧ (E x).C W v F1 ∧ F.Perm (F1 ++ F2) ∧ Owns E W (vs.eraseIdx i) (xs.eraseIdx i) F2
  | [], [], _, _, _, _, e => by simp at e
  | v :: vs, y :: xs, _, 0, x, ⟨F1, F2, h1, h2, h3⟩, e => by
    have : y = x := by simpa using e
    subst this h1
    exact ⟨v, F1, F2, rfl, h2, .refl _, h3⟩
  | v :: vs, y :: xs, _, i + 1, x, ⟨F1, F2, h1, h2, h3⟩, e => by
    subst h1
    obtain ⟨u, G1, G2, a1, a2, a3, a4⟩ := Owns.erase (i := i) h3 (by simpa using e)
    refine ⟨u, G1, F1 ++ G2, by simpa using a1, a2, ?_, F1, G2, rfl, h2, a4⟩
    refine (List.Perm.append_left F1 a3).trans ?_
    rw [← List.append_assoc, ← List.append_assoc]
    exact List.Perm.append_right G2 List.perm_append_comm
  | [], _ :: _, _, _, _, h, _ => h.elim
  | _ :: _, [], _, _, _, h, _ => h.elim
theorem je_popAt {x : Str} {p0 apos : Pos} {E : α → OP} {m : Option (Int × τ)} (i : Nat) (get : τ → List α) (put : τ → List α → τ) (h : JE S e Γ s m fun z => sh (intS z)) (hi : ∀ s, (Γ s)[i]? = some (some (lstO E (get s))) := by intro _; rfl) (hp : ∀ s u, (Γ s).set i (some (lstO E u)) = Γ (put s u) := by intro _ _; rfl)
    (hN : S.N[i]? = some x := by rfl) (hv : Vis S.sc x := by first | exact Or.inl rfl | exact Or.inr (Or.inl rfl) | exact Or.inr (Or.inr rfl)) (hd : (x == ("__debug__" : Str)) = false := by decide) (hcd : (x == ("__classdict__" : Str)) = false := by decide)
    (hbase : ∀ env, attributeBase (.Name x p0) "pop" env (eval (.Name x p0) env) = eval (.Name x p0) env := by intro _; rfl)
    (hfew : ∀ env, ((backTo pos (starEach [e] env)).all (fun x => !x.1) && (backToKw pos (keywordEach [] env)).all (fun x => x.1.isSome) && decide ([e].length + ([] : List Keyword).length + (if ([] : List Keyword).isEmpty then 0 else 1) < 30)) = true := by intro _; rfl)
    (hline : (apos.endLine == pos.line) = true := by rfl) (hs : ∀ env, starEach [e] env = (false, eval e env) :: starEach [] env := by intro _; rfl) :
    JE S (.Call (.Attribute (.Name x p0) "pop" apos) [e] [] pos) Γ s (m.bind fun q => (popAt (get q.2) q.1).bind fun r => some (r.1, put q.2 r.2)) E := fun σ W F sta z hz Q kk => by
  obtain ⟨q, h1, h2⟩ := run1 hz
  obtain ⟨r, h3, h4⟩ := run1 (f := fun r : α × List α => some (r.1, put q.2 r.2)) h2
  cases h4
  unfold popAt at h3
  split at h3
  · rename_i hb
    obtain ⟨y, h5, h6⟩ := run1 (f := fun y : α => some (y, (get q.2).eraseIdx q.1.toNat)) h3
    cases h6
    refine ⟨tBM S.K "list" rPopAt (tVar i) (tCons (tOf S e) tNil), fun X hX => hX.K ▸ pe_bm PySem.F.plainAttrs_list PySem.F.slot_list_pop PySem.F.type_list_pop mt_popAt (pe_var (by rw [hX.N]; exact hN) (visS hv hX) hd hcd) (pa_cons (peO hX) pa_nil (hs _)) (hbase _) (hfew _) hline (hs _) rfl, ?_⟩
    obtain ⟨v, F1, F2, a1, a2, a3, a4⟩ := sta.hold.at (hi s)
    obtain ⟨p, vs, G2, rfl, b2, rfl, b4⟩ := id a2
    refine ⟨.ref p, a1, .inl ⟨rfl, vs, .inl (.inl b2)⟩, h.sh sta h1 fun u W1 Fa stp1 sa1 r1 => ?_⟩
    cases r1
    obtain ⟨v', F1', F2', c1, c2, c3, c4⟩ := sa1.hold.at (hi q.2)
    have ev : v' = .ref p := by rw [a1] at c1; exact (Option.some.inj (Option.some.inj c1)).symm
    subst ev
    obtain ⟨p', vs', G2', e1, d2, rfl, d4⟩ := c2
    cases e1
    have hB : W1.B p = none := (sa1.fp.perm c3).fr p (by simp)
    obtain ⟨w, K1, K2, k1, k2, k3, k4⟩ := d4.erase h5
    have hlen := d4.len
    have hlt : q.1.toNat < (get q.2).length := (List.getElem?_eq_some_iff.mp h5).1
    have z : LIM = 1000000 := rfl
    have fpA := (sa1.fp.perm c3).left
    have fpK : FpOk W1 (p :: (K2 ++ K1)) := fpA.perm (List.Perm.cons p (k3.trans List.perm_append_comm))
    have nP : ∀ a ∈ K2 ++ K1, a ≠ p := fun a ha z => (List.nodup_cons.mp fpK.nd).1 (z ▸ ha)
    have eseq : seqIndex? q.1 vs'.length = some q.1.toNat := by
      have hx : ixN vs'.length q.1 = some q.1.toNat := by
        unfold ixN
        rw [if_pos hb.1, if_pos (by omega)]
      exact (ixN_seq hx).1
    refine ⟨p, vs', q.1, q.1.toNat, w, rfl, rfl, d2, by omega, by omega, eseq, k1, ?_⟩
    have ke : (lstO E ((get q.2).eraseIdx q.1.toNat)).C ⟨upd W1.H p (.lst (vs'.eraseIdx q.1.toNat)), W1.B⟩ (.ref p) (p :: K2) :=
      ⟨p, _, K2, rfl, upd_same, rfl, Owns.loc (W := W1) (W' := ⟨upd W1.H p (.lst (vs'.eraseIdx q.1.toNat)), W1.B⟩) (fun _ _ h => h) k4 fun a ha => by
        show upd W1.H p (.lst (vs'.eraseIdx q.1.toNat)) a = W1.H a
        exact upd_ne (nP a (List.mem_append_left _ ha))⟩
    have fpN : FpOk W1 ((p :: K2) ++ K1) := fpK
    -- the item's own things leave the list
    have fpG : FpOk W1 (((p :: K2) ++ F2') ++ K1) := by
      refine (sa1.fp.perm c3).perm ?_
      have e1 : ((p :: G2') ++ F2').Perm ((p :: (K2 ++ K1)) ++ F2') := List.Perm.append_right F2' (List.Perm.cons p (k3.trans List.perm_append_comm))
      refine e1.trans ?_
      show ((p :: K2) ++ K1 ++ F2').Perm _
      rw [List.append_assoc, List.append_assoc]
      exact List.Perm.append_left _ List.perm_append_comm
    obtain ⟨F', s1, s2⟩ := c4 ⟨upd W1.H p (.lst (vs'.eraseIdx q.1.toNat)), W1.B⟩ _ (.ref p) (p :: K2) (fun _ _ h => h) (fun a ha => by
      show upd W1.H p (.lst (vs'.eraseIdx q.1.toNat)) a = W1.H a
      refine upd_ne fun z => ?_
      exact (sa1.fp.perm c3).disj p List.mem_cons_self (z ▸ ha)) ke
    rw [set_back c1, hp] at s1
    have fpF : FpOk ⟨upd W1.H p (.lst (vs'.eraseIdx q.1.toNat)), W1.B⟩ (F' ++ K1) := by
      have := fpG.perm (List.Perm.append_right K1 s2.symm)
      exact ⟨this.nd, fun a ha => wr_al a (this.al a ha), this.fr⟩
    refine kk w ⟨upd W1.H p (.lst (vs'.eraseIdx q.1.toNat)), W1.B⟩ F' K1 (stp1.trans ?_) ⟨wr_ok sa1.ok hB, fpF.left, by rw [← hp, List.length_set]; exact sa1.len, s1⟩ fpF ?_
    · refine ⟨wr_ok sa1.ok hB, Ex.refl _, fun a o h n => ?_, wr_al, fun a _ h2 _ => h2, fun a ha => .inl (c3.mem_iff.mpr ?_)⟩
      · show upd W1.H p _ a = some o
        rw [upd_ne fun z => n (c3.mem_iff.mpr (by rw [z]; simp))]
        exact h
      · rcases List.mem_append.mp ha with z | z
        · rcases List.mem_append.mp (s2.mem_iff.mp z) with z | z
          · rcases List.mem_cons.mp z with z | z
            · rw [z]; simp
            · exact List.mem_append_left _ (List.mem_cons_of_mem _ (k3.mem_iff.mpr (List.mem_append_right _ z)))
          · exact List.mem_append_right _ z
        · exact List.mem_append_left _ (List.mem_cons_of_mem _ (k3.mem_iff.mpr (List.mem_append_left _ z)))
    · exact OP.loc _ k2 (fun _ _ h => h) fun a ha => by
        show upd W1.H p (.lst (vs'.eraseIdx q.1.toNat)) a = W1.H a
        exact upd_ne (nP a (List.mem_append_right _ ha))
  · cases h3
/-! ### statements -/
theorem js_setE {x : Str} {pos' : Pos} {m : Option (α × τ)} {R : α → OP} (i : Nat) (nd : S.N.Nodup) (h : JE S e Γ s m R) (hi : ∀ s, ((Γ s)[i]?).isSome = true := by intro _; rfl) (hN : S.N[i]? = some x := by rfl) (hx : Loc S.sc x := by first | exact Or.inl rfl | exact Or.inr rfl) (hp : (S.prot.contains i) = false := by rfl)
    (hs : ∀ env, swapsWith e (some (.Name x pos')) pos.line env = pure false := by intro _; rfl) (hf : S.fn x = true ∨ S.sc.names.lookup x = some .local := by first | exact .inl rfl | exact .inr rfl) : JS S (.Assign [.Name x pos'] e pos) (Γ s) m fun q => .nx ((Γ q.2).set i (some (R q.1))) := fun σ W F sta y hy E k => by
  refine ⟨tAsg (tOf S e) (gName i), fun X hX => ps_set (by rw [hX.N]; exact nd) (by rw [hX.N]; exact hN) (locS hx hX) (peO hX) (hs _) (by rw [hX.fn, hX.sc]; exact hf), h σ W F sta y hy _ fun v W' F' Fv stp sa fp r => ?_⟩
  have hl : i < (Γ y.2).length := by
    have := hi y.2
    cases h : (Γ y.2)[i]? with
    | none => rw [h] at this; cases this
    | some o => exact (List.getElem?_eq_some_iff.mp h).1
  obtain ⟨F2, s', sub⟩ := sa.put hl r fp
  exact k _ W' F2 (Keep.set (ncon hp)) (stp.perm sub) s'
theorem js_asgE {m : Option (α × τ)} {E : α → SP} {up : α → Ctx → Ctx} {ws : List Nat} (h : JE S e Γ s m fun x => sh (E x)) (hg : JG S tg E up ws) (hl : ∀ s, ∀ i ∈ ws, i < (Γ s).length) (hs : ∀ env, swapsWithSole [tg] e pos.line env = pure false := by intro _; rfl) (hw : ∀ env, swappedStores [tg] e env = pure none := by intro _; rfl)
    (h1 : ∀ env, (assignEach [tg] env).map (·.2) = [assign tg env] := by intro _; rfl) : JS S (.Assign [tg] e pos) (Γ s) m fun q => .nx (up q.1 (Γ q.2)) := fun σ W F sta y hy Ed k => by
  refine ⟨tAsg (tOf S e) (tgOf S tg), fun X hX => ps_asg (peO hX) (pgO hX) (hs _) (hw _) (h1 _), h.sh sta hy fun v W' F' stp sa r => ?_⟩
  refine hg _ σ W' F' y.1 v sa (hl _) r _ fun σ' F2 _ kp s' sub => ?_
  exact k σ' W' F2 kp (stp.perm sub) s'
theorem js_drop {m : Option (α × τ)} {R : α → OP} (h : JE S e Γ s m R) (hs : ∀ env, swapsWith e none pos.line env = pure false := by intro _; rfl) : JS S (.Expr e pos) (Γ s) m fun q => .nx (Γ q.2) := fun σ W F sta y hy Ed k => by
  refine ⟨tDrop (tOf S e), fun X hX => ps_expr (peO hX) (hs _), h σ W F sta y hy _ fun v W' F' Fv stp sa fp r => ?_⟩
  exact k σ W' F' Keep.refl (stp.perm fun a ha => List.mem_append_left _ ha) sa
theorem js_ifE {mc : Option (Bool × τ)} {ma mb : τ → Option ω} {D : ω → Kd} (hc : JTE S c Γ s mc) (ha : ∀ s1, JB S A (Γ s1) (ma s1) D) (hb : ∀ s1, JB S B (Γ s1) (mb s1) D) : JS S (.If c A B pos) (Γ s) (mc.bind fun p => bif p.1 then ma p.2 else mb p.2) D := fun σ W F sta z hz E k => by
  obtain ⟨x, h1, h2⟩ := run1 hz
  refine ⟨tIfS (ttOf S c) (tbOf S A) (tbOf S B), fun X hX => ps_if (ptO hX) (pbO hX) (pbO hX), ?_⟩
  refine hc σ W F sta x h1 _ fun W' F' stp sa => ?_
  obtain ⟨x1, x2⟩ := x
  cases x1 with
  | true => exact iteT (ha x2 σ W' F' sa z h2 _ (k.before Keep.refl stp))
  | false => exact iteF (hb x2 σ W' F' sa z h2 _ (k.before Keep.refl stp))
theorem jb_ifrE {mc : Option (Bool × τ)} {ma mr : τ → Option ω} {D : ω → Kd} (hc : JTE S c Γ s mc) (ha : ∀ s1, JB S A (Γ s1) (ma s1) D) (hn : ∀ x, NoNx (D x)) (hr : ∀ s1, JB S rest (Γ s1) (mr s1) D) : JB S (.If c A [] pos :: rest) (Γ s) (mc.bind fun p => bif p.1 then ma p.2 else mr p.2) D := fun σ W F sta z hz E k => by
  obtain ⟨x, h1, h2⟩ := run1 hz
  refine ⟨tSeq (tIfS (ttOf S c) (tbOf S A) tNext) (tbOf S rest), fun X hX => pss_cons (ps_if (ptO hX) (pbO hX) pss_nil) (pbO hX), ?_⟩
  refine hc σ W F sta x h1 _ fun W' F' stp sa => ?_
  obtain ⟨x1, x2⟩ := x
  cases x1 with
  | true => exact iteT (ha x2 σ W' F' sa z h2 _ (post_nox (k.before Keep.refl stp) (hn z)))
  | false => exact iteF (hr x2 σ W' F' sa z h2 E (k.before Keep.refl stp))
theorem jb_ifxE {mc : Option (Bool × τ)} {ma : τ → Option υ} {mr : τ → Option ω} {D : ω → Kd} {D' : υ → Kd} (ι : υ → ω) (hc : JTE S c Γ s mc) (ha : ∀ s1, JB S A (Γ s1) (ma s1) D') (hι : ∀ x, D (ι x) = D' x) (hn : ∀ x, NoNx (D' x)) (hr : ∀ s1, JB S rest (Γ s1) (mr s1) D) :
    JB S (.If c A [] pos :: rest) (Γ s) (mc.bind fun p => bif p.1 then (ma p.2).bind fun x => some (ι x) else mr p.2) D := fun σ W F sta z hz E k => by
  obtain ⟨x, h1, h2⟩ := run1 hz
  refine ⟨tSeq (tIfS (ttOf S c) (tbOf S A) tNext) (tbOf S rest), fun X hX => pss_cons (ps_if (ptO hX) (pbO hX) pss_nil) (pbO hX), ?_⟩
  refine hc σ W F sta x h1 _ fun W' F' stp sa => ?_
  obtain ⟨x1, x2⟩ := x
  cases x1 with
  | true =>
    obtain ⟨y, h3, h4⟩ := run1 h2
    cases h4
    refine iteT (ha x2 σ W' F' sa y h3 _ ?_)
    rw [hι] at k
    exact post_nox (k.before Keep.refl stp) (hn y)
  | false => exact iteF (hr x2 σ W' F' sa z h2 E (k.before Keep.refl stp))
theorem jb_retE {m : Option (α × τ)} {R : α → OP} {Δ : τ → Ctx} (w : ∀ s, Weak (Γ s) (Δ s)) (h : JE S e Γ s m R) : JB S (.Return (some e) pos :: rest) (Γ s) m fun q => .rt (Δ q.2) (R q.1) := fun σ W F sta x hx E k => by
  refine ⟨tSeq (tRet (tOf S e)) tNever, fun X hX => pss_cons (ps_ret (peO hX)) pss_never, h σ W F sta x hx _ fun v W' F' Fv stp sa fp r => ?_⟩
  obtain ⟨F2, s', sub⟩ := sa.weak (w x.2)
  have fpB : FpOk W' (F2 ++ Fv) := s'.fp.app fp.right fun a ha => fp.disj a (sub a ha)
  refine k v σ W' F2 Fv Keep.refl (stp.perm fun a ha => ?_) s' fpB r
  rcases List.mem_append.mp ha with h | h
  · exact List.mem_append_left _ (sub a h)
  · exact List.mem_append_right _ h
/-- found.append(e) -/
theorem js_appE {x : Str} {p0 apos cpos spos : Pos} {E : α → OP} {m : Option (α × τ)} (i : Nat) (get : τ → List α) (h : JE S e Γ s m E) (hi : ∀ s, (Γ s)[i]? = some (some (lstO E (get s))) := by intro _; rfl) (hN : S.N[i]? = some x := by rfl) (hv : Vis S.sc x := by first | exact Or.inl rfl | exact Or.inr (Or.inl rfl) | exact Or.inr (Or.inr rfl))
    (hd : (x == ("__debug__" : Str)) = false := by decide) (hcd : (x == ("__classdict__" : Str)) = false := by decide)
    (hbase : ∀ env, attributeBase (.Name x p0) "append" env (eval (.Name x p0) env) = eval (.Name x p0) env := by intro _; rfl)
    (hfew : ∀ env, ((backTo cpos (starEach [e] env)).all (fun x => !x.1) && (backToKw cpos (keywordEach [] env)).all (fun x => x.1.isSome) && decide ([e].length + ([] : List Keyword).length + (if ([] : List Keyword).isEmpty then 0 else 1) < 30)) = true := by intro _; rfl)
    (hline : (apos.endLine == cpos.line) = true := by rfl) (hs : ∀ env, starEach [e] env = (false, eval e env) :: starEach [] env := by intro _; rfl) (hsw : ∀ env, swapsWith (.Call (.Attribute (.Name x p0) "append" apos) [e] [] cpos) none spos.line env = pure false := by intro _; rfl) :
    JS S (.Expr (.Call (.Attribute (.Name x p0) "append" apos) [e] [] cpos) spos) (Γ s) (m.bind fun q => (appM (get q.2) q.1).bind fun ys => some (ys, q.2)) fun q => .nx ((Γ q.2).set i (some (lstO E q.1))) := fun σ W F sta z hz Ed k => by
  obtain ⟨q, h1, h2⟩ := run1 hz
  obtain ⟨ys, h3, h4⟩ := run1 (f := fun ys : List α => some (ys, q.2)) h2
  cases h4
  unfold appM at h3
  split at h3
  · rename_i hlen
    cases h3
    refine ⟨tDrop (tBM S.K "list" rAppend (tVar i) (tCons (tOf S e) tNil)), fun X hX => ps_expr (hX.K ▸ pe_bm PySem.F.plainAttrs_list PySem.F.slot_list_append PySem.F.type_list_append mt_append (pe_var (by rw [hX.N]; exact hN) (visS hv hX) hd hcd) (pa_cons (peO hX) pa_nil (hs _)) (hbase _) (hfew _) hline (hs _) rfl) (hsw _), ?_⟩
    obtain ⟨v, F1, F2, a1, a2, a3, a4⟩ := sta.hold.at (hi s)
    obtain ⟨p, vs, G2, rfl, b2, rfl, b4⟩ := id a2
    refine ⟨.ref p, a1, .inl ⟨rfl, vs, .inl (.inl b2)⟩, h σ W F sta q h1 _ fun u W1 Fa Fv stp1 sa1 fp1 r => ?_⟩
    obtain ⟨v', F1', F2', c1, c2, c3, c4⟩ := sa1.hold.at (hi q.2)
    have ev : v' = .ref p := by rw [a1] at c1; exact (Option.some.inj (Option.some.inj c1)).symm
    subst ev
    obtain ⟨p', vs', G2', e1, d2, rfl, d4⟩ := c2
    cases e1
    have hB : W1.B p = none := (sa1.fp.perm c3).fr p (by simp)
    have fpA : FpOk W1 ((p :: G2') ++ Fv) := by
      have q2 : FpOk W1 (((p :: G2') ++ F2') ++ Fv) := fp1.perm (List.Perm.append_right Fv c3)
      refine FpOk.left (F' := F2') (q2.perm ?_)
      rw [List.append_assoc, List.append_assoc]
      exact List.Perm.append_left _ List.perm_append_comm
    refine ⟨p, vs', u, rfl, rfl, d2, lim_lt (by rw [d4.len]; exact hlen), ?_⟩
    have nP : ∀ a ∈ G2' ++ Fv, a ≠ p := fun a ha z => (List.nodup_cons.mp fpA.nd).1 (z ▸ ha)
    have A3 : Owns E W1 (vs' ++ [u]) (get q.2 ++ [q.1]) (G2' ++ Fv) := d4.app ⟨Fv, [], (List.append_nil _).symm, r, rfl⟩
    have A4 : Owns E ⟨upd W1.H p (.lst (vs' ++ [u])), W1.B⟩ (vs' ++ [u]) (get q.2 ++ [q.1]) (G2' ++ Fv) := Owns.loc (W := W1) (W' := ⟨upd W1.H p (.lst (vs' ++ [u])), W1.B⟩) (fun _ _ h => h) A3 fun a ha => by
      show upd W1.H p (.lst (vs' ++ [u])) a = W1.H a
      exact upd_ne (nP a ha)
    obtain ⟨F', s', stp⟩ := sta_own (W' := ⟨upd W1.H p (.lst (vs' ++ [u])), W1.B⟩) (F1' := p :: (G2' ++ Fv)) (o' := lstO E (get q.2 ++ [q.1])) Fv sa1 fp1 c1 c3 c4 (wr_ok sa1.ok hB) rfl (fun a ha _ => upd_ne fun z => ha (z ▸ List.mem_cons_self)) wr_al
      ⟨fpA.nd, fun a ha => wr_al a (fpA.al a ha), fpA.fr⟩ (fun a ha => by
        rcases List.mem_cons.mp ha with z | z
        · exact .inl (z ▸ List.mem_cons_self)
        · rcases List.mem_append.mp z with z | z
          · exact .inl (List.mem_cons_of_mem _ z)
          · exact .inr (.inl z)) ⟨p, vs' ++ [u], G2' ++ Fv, rfl, upd_same, rfl, A4⟩
    exact k σ _ F' Keep.refl (stp1.trans stp) s'
  · cases h3
/-- range of a drawn number -/
theorem jie_rng1 {p : Pos} {m : Option (Int × τ)} (hm : S.mg "range" = none) (h : JE S a Γ s m fun x => sh (intS x)) (hg : GlS S "range" := by rfl) (hs : ∀ env, starEach [a] env = [(false, eval a env)] := by intro _; rfl) :
    JIE S tg (.Call (.Name "range" p) [a] [] pos) Γ s (m.bind fun q => (rng 0 q.1).bind fun xs => some (xs, q.2)) intS := fun σ W F sta z hz R k => by
  obtain ⟨q, h1, h2⟩ := run1 hz
  obtain ⟨xs, h3, h4⟩ := run1 (f := fun xs : List Int => some (xs, q.2)) h2
  cases h4
  unfold rng at h3
  split at h3
  · rename_i hb
    cases h3
    refine ⟨iRng1 (tCons (tOf S a) tNil), fun X hX => pi_range1 (hg.gl hX) (mgS hm hX) (pa_cons (peO hX) pa_nil (hs _)) (hs _), h.sh sta h1 fun v W' F' stp sa r => ?_⟩
    cases r
    have z : (LIM : Int) = 1000000 := rfl
    refine ⟨q.1, rfl, by omega, by omega, ?_⟩
    have e : (q.1 - 0).toNat = q.1.toNat := by rw [Int.sub_zero]
    rw [← e]
    exact k _ W' F' stp sa (ok_rng fun W1 c => c.1)
  · cases h3
/-- for over a walk that is drawn -/
theorem js_forE {mi : Option (List α × τ)} {E : α → SP} {up : α → Ctx → Ctx} {ws : List Nat} {Γl : τ → υ → Ctx} {T : ρ → Kd} {f : τ → α → υ → Option (Out υ ρ)} (s0 : τ → υ) (hi : JIE S tg iter Γ s mi E) (hg : JG S tg E up ws) (w : ∀ s, Weak (Γ s) (Γl s (s0 s))) (hl : ∀ t s, ∀ i ∈ ws, i < (Γl t s).length)
    (hT : ∀ r, NoNx (T r) ∧ (∀ Δ, T r ≠ .bk Δ) ∧ ∀ Δ, T r ≠ .ct Δ) (hb : ∀ t x s, JB S A (up x (Γl t s)) (f t x s) (DL (Γl t) T)) (hs : ∀ env x, foldedSetIterable iter env x = pure x := by intro _ _; rfl) (hcm : S.calm = true := by rfl) :
    JS S (.For tg iter A [] pos) (Γ s) (mi.bind fun q => (loopGo (f q.2) q.1 (s0 q.2)).bind fun o => some (q.2, o)) fun o => DF (Γl o.1) T o.2 := fun σ W F sta z hz Ed k => by
  obtain ⟨q, h1, h2⟩ := run1 hz
  obtain ⟨o, h3, h4⟩ := run1 (f := fun o : Out υ ρ => some (q.2, o)) h2
  cases h4
  refine ⟨tFor (tiOf S tg iter) (tgOf S tg) (tbOf S A), fun X hX => ps_for hX.pass (hX.calm.trans hcm) (piO hX) (pgO hX) (pbO hX) (hs _), ?_⟩
  refine hi σ W F sta q h1 _ fun J W' Fi stp0 sai iok => ?_
  obtain ⟨F0, sa0, sub0⟩ := sai.weak (w q.2)
  refine ⟨fun i m σ1 H => m = q.1.length - i ∧ i ≤ q.1.length ∧ ∃ (W1 : Wd) (F1 : List Addr) (s : υ), W1.H = H ∧ Keep S.prot σ σ1 ∧ Stp W' Fi W1 F1 ∧ Sta (Γl q.2 s) σ1 W1 F1 ∧ loopGo (f q.2) (q.1.drop i) s = some o,
    ⟨q.1.length, by simp, Nat.zero_le _, W', F0, s0 q.2, rfl, Keep.refl, (Stp.refl sai.ok).perm sub0, sa0, by simpa using h3⟩, ?_⟩
  rintro i m σ1 H ⟨rfl, hi', W1, F1, s, rfl, kp, stp, sa, go⟩
  obtain ⟨iok1, iok2⟩ := iok W1 ⟨sa.ok, stp.b⟩
  by_cases hlt : i < q.1.length
  · obtain ⟨g1, g2⟩ := iok1 i q.1[i] (List.getElem?_eq_getElem hlt)
    refine .inr ⟨g1, fun σ' H' => ∃ m', m' < q.1.length - i ∧ (m' = q.1.length - (i + 1) ∧ i + 1 ≤ q.1.length ∧ ∃ (W1 : Wd) (F1 : List Addr) (s : υ), W1.H = H' ∧ Keep S.prot σ σ' ∧ Stp W' Fi W1 F1 ∧ Sta (Γl q.2 s) σ' W1 F1 ∧ loopGo (f q.2) (q.1.drop (i + 1)) s = some o), fun σ' H' h => h, fun v H' y => ?_⟩
    obtain ⟨W2, rfl, e2, p2⟩ := g2 v H' y
    refine hg (Γl q.2 s) σ1 W2 F1 q.1[i] v (sa.ext e2) (hl _ s) p2 _ fun σ2 F2 _ kp2 sa2 sub2 => ?_
    rw [List.drop_eq_getElem_cons hlt] at go
    obtain ⟨oo, o1, o2⟩ := run1 (f := fun o : Out υ ρ => o.step fun s' => loopGo (f q.2) (q.1.drop (i + 1)) s') go
    have stpA : Stp W' Fi W2 F2 := (stp.trans e2.stp0).perm sub2
    refine hb q.2 q.1[i] s σ2 W2 F2 sa2 oo o1 _ ?_
    cases oo with
    | nx s' => exact fun σ3 W3 F3 k3 t3 a3 => ⟨q.1.length - (i + 1), by omega, rfl, hlt, W3, F3, s', rfl, (kp.trans kp2).trans k3, stpA.trans t3, a3, o2⟩
    | ct s' => exact fun σ3 W3 F3 k3 t3 a3 => ⟨q.1.length - (i + 1), by omega, rfl, hlt, W3, F3, s', rfl, (kp.trans kp2).trans k3, stpA.trans t3, a3, o2⟩
    | bk s' =>
      cases o2
      exact fun σ3 W3 F3 k3 t3 a3 => k σ3 W3 F3 ((kp.trans kp2).trans k3) (stp0.trans (stpA.trans t3)) a3
    | rt r =>
      cases o2
      obtain ⟨n1, n2, n3⟩ := hT r
      have k' : Post S.W S.prot σ W F Ed (T r) := k
      show Post S.W S.prot σ2 W2 F2 _ (T r)
      have k'' := k'.before (kp.trans kp2) (stp0.trans stpA)
      generalize hq : T r = qq at k'' n1
      cases qq with
      | nx Γ => exact n1.elim
      | bk Γ => exact absurd hq (n2 Γ)
      | ct Γ => exact absurd hq (n3 Γ)
      | rt Γ R => exact k''
      | xc Γ R => exact k''
  · have ei : i = q.1.length := by omega
    subst ei
    rw [List.drop_length] at go
    cases go
    exact .inl ⟨iok2 _ (Nat.le_refl _), k σ1 W1 F1 kp (stp0.trans stp) sa⟩
end
end CC
set_option maxHeartbeats 4000000
/-! Comprehensions whose items change what is owned; further operations. -/
namespace CC
open PySem PySem.Spec L2
open PyProof.Rows hiding St
variable {α β γ δ τ ω ρ υ : Type}
def compGoE (t : α → τ → Option (Bool × τ)) (f : α → τ → Option (β × τ)) : List α → τ → Option (List β × τ)
  | [], s => some ([], s)
  | x :: xs, s => (t x s).bind fun b => bif b.1 then (f x b.2).bind fun y => (compGoE t f xs y.2).bind fun r => some (y.1 :: r.1, r.2) else compGoE t f xs b.2
def compME (t : α → τ → Option (Bool × τ)) (f : α → τ → Option (β × τ)) (xs : List α) (s : τ) : Option (List β × τ) := if xs.length ≤ LIM then compGoE t f xs s else none
def mapGoE (f : α → τ → Option (β × τ)) : List α → τ → Option (List β × τ)
  | [], s => some ([], s)
  | x :: xs, s => (f x s).bind fun y => (mapGoE f xs y.2).bind fun r => some (y.1 :: r.1, r.2)
def mapME (f : α → τ → Option (β × τ)) (xs : List α) (s : τ) : Option (List β × τ) := if xs.length ≤ LIM then mapGoE f xs s else none
theorem compGoE_yes (f : α → τ → Option (β × τ)) : ∀ (xs : List α) (s : τ), compGoE (fun _ s => some (true, s)) f xs s = mapGoE f xs s
  | [], s => rfl
  | x :: xs, s => by
    show (f x s).bind (fun y => (compGoE (fun _ s => some (true, s)) f xs y.2).bind fun r => some (y.1 :: r.1, r.2)) = (f x s).bind fun y => (mapGoE f xs y.2).bind fun r => some (y.1 :: r.1, r.2)
    congr 1
    funext y
    rw [compGoE_yes f xs y.2]
theorem mapM_eq (f : α → Option β) (xs : List α) : compM (fun _ => some true) f xs = mapM f xs := by
  unfold compM mapM
  rw [compGo_yes]
theorem mapME_eq (f : α → τ → Option (β × τ)) (xs : List α) (s : τ) : compME (fun _ s => some (true, s)) f xs s = mapME f xs s := by
  unfold compME mapME
  rw [compGoE_yes]
theorem Holds.move {W : Wd} : ∀ {Γ Δ : Ctx} {σ σ2 : L2.St} {F : List Addr}, Γ.length = Δ.length → (∀ (i : Nat) (o : OP), Γ[i]? = some (some o) → Δ[i]? = some (some o) ∧ σ2[i]? = σ[i]?) → Holds Δ σ2 W F → ∃ F' G, Holds Γ σ W F' ∧ F.Perm (F' ++ G)
  | [], [], σ, σ2, F, _, _, h => ⟨[], F, rfl, .refl _⟩
  | [], _ :: _, _, _, _, h, _, _ => by simp at h
  | _ :: _, [], _, _, _, h, _, _ => by simp at h
  | g :: Γ, d :: Δ, σ, σ2, F, hl, hi, h => by
    have hi' : ∀ (i : Nat) (o : OP), Γ[i]? = some (some o) → Δ[i]? = some (some o) ∧ σ2.tail[i]? = σ.tail[i]? := fun i o e => by
      have q := hi (i + 1) o (by simpa using e)
      refine ⟨by simpa using q.1, ?_⟩
      rw [List.getElem?_tail, List.getElem?_tail]
      exact q.2
    have hl' : Γ.length = Δ.length := by simpa using hl
    cases g with
    | none =>
      cases d with
      | none => exact Holds.move (Γ := Γ) (Δ := Δ) (σ := σ.tail) (σ2 := σ2.tail) hl' hi' h
      | some o =>
        obtain ⟨v, F1, F2, h1, h2, h3, h4⟩ := h
        obtain ⟨F', G, a1, a2⟩ := Holds.move (Γ := Γ) (Δ := Δ) (σ := σ.tail) (σ2 := σ2.tail) hl' hi' h4
        subst h2
        refine ⟨F', G ++ F1, a1, ?_⟩
        rw [← List.append_assoc]
        exact (List.Perm.append_left F1 a2).trans List.perm_append_comm
    | some o =>
      obtain ⟨e1, e2⟩ := hi 0 o rfl
      have : d = some o := by simpa using e1
      subst this
      obtain ⟨v, F1, F2, h1, h2, h3, h4⟩ := h
      obtain ⟨F', G, a1, a2⟩ := Holds.move (Γ := Γ) (Δ := Δ) (σ := σ.tail) (σ2 := σ2.tail) hl' hi' h4
      subst h2
      refine ⟨F1 ++ F', G, ⟨v, F1, F', ?_, rfl, h3, a1⟩, ?_⟩
      · rw [List.head?_eq_getElem?] at h1 ⊢
        rw [← e2]
        exact h1
      · rw [List.append_assoc]
        exact List.Perm.append_left F1 a2
def JTsE (S : Stc) (ifs : List Expr) (Γ : τ → Ctx) (s : τ) (m : Option (Bool × τ)) : Prop :=
  ∀ σ W F, Sta (Γ s) σ W F → ∀ x, m = some x → ∀ Q : Bool → Hp → Prop, (∀ W' F', Stp W F W' F' → Sta (Γ x.2) σ W' F' → Q x.1 W'.H) → ttsOf S ifs σ W.H Q
def JCE (S : Stc) (elt tg iter : Expr) (ifs : List Expr) (scope : Scope) (Γ : τ → Ctx) (s : τ) (m : Option (α × τ)) (R : α → OP) : Prop :=
  ∃ own : List (Str × Nat), BlkOk S.N S.sc scope own ∧ ∀ σ W F, Sta (Γ s) σ W F → ∀ x, m = some x → ∀ Q : VK, (∀ v W' F' Fv, Stp W F W' (F' ++ Fv) → Sta (Γ x.2) σ W' F' → FpOk W' (F' ++ Fv) → (R x.1).C W' v Fv → Q v W'.H) →
    tLc (tiOf S tg iter) (tgOf (S.blk scope) tg) (ttsOf (S.blk scope) ifs) (tOf (S.blk scope) elt) (own.map (·.2)) σ W.H Q
section
variable {S : Stc} {Γ : τ → Ctx} {s : τ} {a b c e tg iter elt : Expr} {es ifs : List Expr} {pos : Pos} {st : Stmt} {rest A B : List Stmt}
theorem jtse_nil : JTsE S [] Γ s (some (true, s)) := fun σ W F sta b hb Q k => by
  cases hb
  exact ⟨tYes, fun _ _ => pts_nil, k W F (Stp.refl sta.ok) sta⟩
theorem jtse_one {m : Option (Bool × τ)} (h : JTE S c Γ s m) : JTsE S [c] Γ s m := fun σ W F sta b hb Q k => ⟨ttOf S c, fun X hX => pts_one (ptO hX), h σ W F sta b hb Q k⟩
theorem je_lc {scope : Scope} {m : Option (α × τ)} {R : α → OP} (nd : S.N.Nodup) (h : JCE S elt tg iter ifs scope Γ s m R) (hs : ∀ env x, foldedSetIterable iter env x = pure x := by intro _ _; rfl) (hcm : S.calm = true := by rfl) : JE S (.ListComp elt [⟨tg, iter, ifs, 0⟩] scope pos) Γ s m R := fun σ W F sta x hx Q k => by
  obtain ⟨own, ok, go⟩ := h
  exact ⟨_, fun X hX => pe_lc (hX.calm.trans hcm) (by rw [hX.N]; exact nd) (piO hX) (by rw [hX.N, hX.sc]; exact ok) (fun s H C cl fp => pgO (hX.blk scope s H C cl fp)) (fun s H C cl fp => ptsO (hX.blk scope s H C cl fp)) (fun s H C cl fp => peO (hX.blk scope s H C cl fp)) (hs _), go σ W F sta x hx Q k⟩
theorem js_setLcE {x : Str} {py spos : Pos} {scope : Scope} {m : Option (α × τ)} {R : α → OP} (i : Nat) (nd : S.N.Nodup) (h : JCE S elt tg iter ifs scope Γ s m R) (hi : ∀ s, ((Γ s)[i]?).isSome = true := by intro _; rfl) (hN : S.N[i]? = some x := by rfl) (hx : S.sc.names.lookup x = some .local := by rfl) (hp : (S.prot.contains i) = false := by rfl)
    (hk : S.sc.kind = .function := by rfl) (hl : (py.line == pos.line) = true := by rfl) (hown : (scope.names.any fun (n, k) => n == x && (k == .local || k == .cell)) = false := by decide +kernel) (hs : ∀ env x, foldedSetIterable iter env x = pure x := by intro _ _; rfl) (hcm : S.calm = true := by rfl) :
    JS S (.Assign [.Name x py] (.ListComp elt [⟨tg, iter, ifs, 0⟩] scope pos) spos) (Γ s) m fun q => .nx ((Γ q.2).set i (some (R q.1))) := fun σ W F sta y hy E k => by
  obtain ⟨own, ok, go⟩ := h
  refine ⟨_, fun X hX => ps_setLc (hX.calm.trans hcm) (by rw [hX.N]; exact nd) (by rw [hX.N]; exact hN) (by rw [hX.sc]; exact hx) (sw_true (by rw [hX.sc]; exact hk) (by rw [hX.sc]; exact hx) hl hown) (piO hX) (by rw [hX.N, hX.sc]; exact ok) (fun s H C cl fp => pgO (hX.blk scope s H C cl fp)) (fun s H C cl fp => ptsO (hX.blk scope s H C cl fp)) (fun s H C cl fp => peO (hX.blk scope s H C cl fp)) (hs _), go σ W F sta y hy _ fun v W' F' Fv stp sa fp r => ?_⟩
  have hl : i < (Γ y.2).length := by
    have := hi y.2
    cases h : (Γ y.2)[i]? with
    | none => rw [h] at this; cases this
    | some o => exact (List.getElem?_eq_some_iff.mp h).1
  obtain ⟨F2, s', sub⟩ := sa.put hl r fp
  exact k _ W' F2 (Keep.set (ncon hp)) (stp.perm sub) s'
theorem wipeC_get {Γ : Ctx} {i : Nat} : ∀ {vs : List Nat}, i ∉ vs → (wipeC Γ vs)[i]? = Γ[i]?
  | [], _ => rfl
  | v :: vs, h => by
    show ((wipeC Γ vs).set v none)[i]? = _
    rw [List.getElem?_set_ne fun z => h (by rw [z]; exact List.mem_cons_self), wipeC_get fun z => h (List.mem_cons_of_mem _ z)]
/-- the block's turns; the block's own slots hold nothing outside -/
theorem jce_of {scope : Scope} {mi : Option (List α × τ)} {E : α → SP} {up : α → Ctx → Ctx} {ws : List Nat} {mt : α → τ → Option (Bool × τ)} {me : α → τ → Option (β × τ)} {R : β → OP} (own : List (Str × Nat)) (hi : JIE S tg iter Γ s mi E) (ok : blkC S.N S.sc scope own = true) (hg : JG (S.blk scope) tg E up ws)
    (hw : ∀ i ∈ ws, i ∈ own.map (·.2)) (hl : ∀ s, ∀ i ∈ ws, i < (Γ s).length) (hu : ∀ x Γ i, i ∉ ws → (up x Γ)[i]? = Γ[i]?) (hul : ∀ x Γ, (up x Γ).length = Γ.length) (hz : ∀ s, ∀ i ∈ own.map (·.2), (Γ s)[i]? = some none)
    (ht : ∀ x s, JTsE (S.blk scope) ifs (fun s => up x (wipeC (Γ s) (own.map (·.2)))) s (mt x s)) (he : ∀ x s, JE (S.blk scope) elt (fun s => up x (wipeC (Γ s) (own.map (·.2)))) s (me x s) R) :
    JCE S elt tg iter ifs scope Γ s (mi.bind fun q => compME mt me q.1 q.2) fun ys => lstO R ys := by
  refine ⟨own, blkOk_by ok, fun σ W F sta ys hx Q k => ?_⟩
  obtain ⟨q0, h1, h2⟩ := run1 hx
  unfold compME at h2
  split at h2
  · rename_i hlen
    refine hi σ W F sta q0 h1 _ fun J W' Fi stp0 sai iok => fun D hD => ?_
    have back : ∀ {x : α} {s : τ} {σ2 : L2.St} {W1 : Wd} {F1 : List Addr}, (∀ i, i ∉ own.map (·.2) → σ2[i]? = σ[i]?) → Sta (up x (wipeC (Γ s) (own.map (·.2)))) σ2 W1 F1 → ∃ F', Sta (Γ s) σ W1 F' ∧ ∀ a ∈ F', a ∈ F1 := by
      intro x s σ2 W1 F1 hσ sa
      have hlen : (Γ s).length = (up x (wipeC (Γ s) (own.map (·.2)))).length := by rw [hul, wipeC_len]
      obtain ⟨F', G, a1, a2⟩ := sa.hold.move (Γ := Γ s) (σ := σ) hlen fun i o e => by
        have hn : i ∉ own.map (·.2) := fun z => by
          rw [hz s i z] at e
          cases e
        refine ⟨?_, hσ i hn⟩
        rw [hu x _ i fun z => hn (hw i z), wipeC_get hn]
        exact e
      refine ⟨F', ⟨sa.ok, (sa.fp.perm a2).left, ?_, a1⟩, fun a ha => a2.mem_iff.mpr (List.mem_append_left _ ha)⟩
      have l1 : σ.length = (Γ s).length := by
        have e1 := sai.len
        have e2 : (Γ q0.2).length = σ.length := e1.symm
        have e3 := sa.len
        -- all contexts have the slots' number
        rw [hul, wipeC_len] at e3
        have e4 : σ2.length = σ.length := by
          have i1 : ∀ i, i ∉ own.map (·.2) → σ2[i]? = σ[i]? := hσ
          refine Nat.le_antisymm ?_ ?_
          · refine Nat.le_of_not_lt fun h => ?_
            by_cases hm : σ.length ∈ own.map (·.2)
            · have := hz q0.2 _ hm
              rw [List.getElem?_eq_none (by omega)] at this
              cases this
            · have := i1 σ.length hm
              rw [List.getElem?_eq_getElem h, List.getElem?_eq_none (Nat.le_refl _)] at this
              cases this
          · refine Nat.le_of_not_lt fun h => ?_
            by_cases hm : σ2.length ∈ own.map (·.2)
            · have := hz s _ hm
              rw [List.getElem?_eq_none (by omega)] at this
              cases this
            · have := i1 σ2.length hm
              rw [List.getElem?_eq_getElem h, List.getElem?_eq_none (Nat.le_refl _)] at this
              cases this
        omega
      exact l1
    refine ⟨fun i m H => m = q0.1.length - i ∧ i ≤ q0.1.length ∧ ∃ (W1 : Wd) (Fs : List Addr) (s : τ) (acc : List V) (as : List β) (bs : List β × τ) (Fa : List Addr), W1.H = H ∧ Stp W F W1 (Fs ++ (D :: Fa)) ∧ Ex W'.B W1.B ∧ Sta (Γ s) σ W1 Fs ∧ W1.H D = some (.lst acc) ∧ as.length ≤ i ∧
      compGoE mt me (q0.1.drop i) s = some bs ∧ (as ++ bs.1, bs.2) = ys ∧ Owns R W1 acc as Fa ∧ FpOk W1 (Fs ++ (D :: Fa)),
      ⟨q0.1.length, by simp, Nat.zero_le _, ⟨upd W'.H D (.lst []), W'.B⟩, Fi, q0.2, [], [], ys, [], rfl, ?_, Ex.refl _, sai.ext (Ext.new sai.ok hD), upd_same, Nat.le_refl _, by simpa using h2, rfl, rfl, ?_⟩, ?_⟩
    · refine stp0.trans ((Ext.new (o := .lst []) sai.ok hD).stp fun a ha => ?_)
      rw [List.mem_singleton.mp ha]
      exact hD
    · exact sai.fp.fresh (Ext.new (o := .lst []) sai.ok hD) (fp_one (sai.ok.back hD)) fun a ha => by rw [List.mem_singleton.mp ha]; exact hD
    rintro i m H ⟨rfl, hi', W1, Fs, s1, acc, as, bs, Fa, rfl, stp1, eb1, sa1, d1, la, c1, c2, o1, f1⟩
    obtain ⟨iok1, iok2⟩ := iok W1 ⟨sa1.ok, eb1⟩
    by_cases hlt : i < q0.1.length
    · obtain ⟨g1, g2⟩ := iok1 i q0.1[i] (List.getElem?_eq_getElem hlt)
      refine .inr ⟨g1, fun H' => ∃ m', m' < q0.1.length - i ∧ (m' = q0.1.length - (i + 1) ∧ i + 1 ≤ q0.1.length ∧ ∃ (W1 : Wd) (Fs : List Addr) (s : τ) (acc : List V) (as : List β) (bs : List β × τ) (Fa : List Addr), W1.H = H' ∧ Stp W F W1 (Fs ++ (D :: Fa)) ∧ Ex W'.B W1.B ∧ Sta (Γ s) σ W1 Fs ∧ W1.H D = some (.lst acc) ∧ as.length ≤ i + 1 ∧
        compGoE mt me (q0.1.drop (i + 1)) s = some bs ∧ (as ++ bs.1, bs.2) = ys ∧ Owns R W1 acc as Fa ∧ FpOk W1 (Fs ++ (D :: Fa))), fun H' h => h, fun v H' y => ?_⟩
      obtain ⟨W2, rfl, e2, p2⟩ := g2 v H' y
      have hDrop : q0.1.drop i = q0.1[i] :: q0.1.drop (i + 1) := List.drop_eq_getElem_cons hlt
      rw [hDrop] at c1
      obtain ⟨b, t1, t2⟩ := run1 (f := fun b : Bool × τ => bif b.1 then (me q0.1[i] b.2).bind fun y => (compGoE mt me (q0.1.drop (i + 1)) y.2).bind fun r => some (y.1 :: r.1, r.2) else compGoE mt me (q0.1.drop (i + 1)) b.2) c1
      obtain ⟨Fw, sw, subw⟩ := (sa1.ext e2).wipe (own.map (·.2))
      refine hg _ _ W2 Fw q0.1[i] v sw (fun j hj => by rw [wipeC_len]; exact hl s1 j hj) p2 _ fun σ2 F2 wp _ s2 sub2 => ?_
      have hσ : ∀ i, i ∉ own.map (·.2) → σ2[i]? = σ[i]? := fun i hn => by
        have e := wp _ hw
        have e1 : (wipe σ2 (own.map (·.2)))[i]? = (wipe (wipe σ (own.map (·.2))) (own.map (·.2)))[i]? := by rw [e]
        rw [wipe_out hn, wipe_out hn, wipe_out hn] at e1
        exact e1
      refine ⟨by rw [wp _ hw]; exact jc_of.wipe_wipe σ (own.map (·.2)), ?_⟩
      have sub12 : ∀ a ∈ F2, a ∈ Fs := fun a ha => subw a (sub2 a ha)
      refine ht q0.1[i] s1 σ2 W2 F2 s2 b t1 _ fun W3 F3 stp3 sa3 => ?_
      -- what is owned beside the block stays
      have keep3 : ∀ a, a ∈ D :: Fa → W3.H a = W1.H a := fun a ha => by
        have n1 : a ∉ Fs := fun z => f1.disj a z ha
        have al := f1.al a (List.mem_append_right _ ha)
        have h2 := e2.h.eq al
        cases q : W2.H a with
        | none => rw [h2] at q; exact absurd q al
        | some o => rw [stp3.h a o q fun z => n1 (sub12 a z), ← q, h2]
      have fr3 : ∀ a, a ∈ D :: Fa → W3.B a = none := fun a ha => by
        have n1 : a ∉ Fs := fun z => f1.disj a z ha
        have al := f1.al a (List.mem_append_right _ ha)
        exact stp3.fr a (e2.h.ne al) (e2.fr a al (f1.fr a (List.mem_append_right _ ha))) fun z => n1 (sub12 a z)
      have al3 : ∀ a, a ∈ D :: Fa → W3.H a ≠ none := fun a ha => by rw [keep3 a ha]; exact f1.al a (List.mem_append_right _ ha)
      have stp13 : Stp W1 Fs W3 F3 := (((e2.stp0 (F := Fs)).perm sub12).trans stp3)
      have stpT : ∀ {W4 : Wd} {F4 G : List Addr}, Stp W1 Fs W4 (F4 ++ G) → Stp W1 (Fs ++ (D :: Fa)) W4 (F4 ++ ((D :: Fa) ++ G)) := fun {W4 F4 G} st => by
        refine ⟨st.ok, st.b, fun a o h n => st.h a o h fun z => n (List.mem_append_left _ z), st.al, fun a h1 h2 n => st.fr a h1 h2 fun z => n (List.mem_append_left _ z), fun a ha => ?_⟩
        rcases List.mem_append.mp ha with z | z
        · exact (st.fp a (List.mem_append_left _ z)).imp (fun w => List.mem_append_left _ w) id
        · rcases List.mem_append.mp z with z | z
          · exact .inl (List.mem_append_right _ z)
          · exact (st.fp a (List.mem_append_right _ z)).imp (fun w => List.mem_append_left _ w) id
      obtain ⟨b1, b2⟩ := b
      cases b1 with
      | true =>
        obtain ⟨y1, t3, t4⟩ := run1 (f := fun y : β × τ => (compGoE mt me (q0.1.drop (i + 1)) y.2).bind fun r => some (y.1 :: r.1, r.2)) t2
        obtain ⟨r1, t5, t6⟩ := run1 (f := fun r : List β × τ => some (y1.1 :: r.1, r.2)) t4
        cases t6
        refine iteT (he q0.1[i] b2 σ2 W3 F3 sa3 y1 t3 _ fun u W4 F4 Fu stp4 sa4 fp4 r4 => ?_)
        obtain ⟨F5, sa5, sub5⟩ := back hσ sa4
        have stp14 : Stp W1 Fs W4 (F4 ++ Fu) := stp13.trans stp4
        have keep4 : ∀ a, a ∈ D :: Fa → W4.H a = W1.H a := fun a ha => by
          have n1 : a ∉ Fs := fun z => f1.disj a z ha
          have al := f1.al a (List.mem_append_right _ ha)
          cases q : W1.H a with
          | none => exact absurd q al
          | some o => exact stp14.h a o q n1
        have fr4 : ∀ a, a ∈ D :: Fa → W4.B a = none := fun a ha => by
          have n1 : a ∉ Fs := fun z => f1.disj a z ha
          exact stp14.fr a (f1.al a (List.mem_append_right _ ha)) (f1.fr a (List.mem_append_right _ ha)) n1
        have hD4 : W4.H D = some (.lst acc) := (keep4 D List.mem_cons_self).trans d1
        have ha4 : acc.length < LIM := by
          have := o1.len
          omega
        have nd1 := List.nodup_cons.mp f1.right.nd
        have apart : ∀ a ∈ F4 ++ Fu, a ∉ D :: Fa := fun a ha z => by
          rcases stp14.fp a ha with w | w
          · exact f1.disj a w z
          · exact f1.al a (List.mem_append_right _ z) w
        have nD : ∀ a ∈ Fa ++ Fu, a ≠ D := fun a ha z => by
          rcases List.mem_append.mp ha with h | h
          · exact nd1.1 (z ▸ h)
          · exact apart a (List.mem_append_right _ h) (z ▸ List.mem_cons_self)
        have nD5 : ∀ a ∈ F5, a ≠ D := fun a ha z => apart a (List.mem_append_left _ (sub5 a ha)) (z ▸ List.mem_cons_self)
        have A1 : Owns R W4 acc as Fa := o1.loc stp14.b fun a ha => keep4 a (List.mem_cons_of_mem _ ha)
        have A3 : Owns R W4 (acc ++ [u]) (as ++ [y1.1]) (Fa ++ Fu) := A1.app ⟨Fu, [], (List.append_nil _).symm, r4, rfl⟩
        have fA : FpOk W4 (F5 ++ ((D :: Fa) ++ Fu)) := by
          have x1 : FpOk W4 (D :: Fa) := ⟨f1.right.nd, fun a ha => by rw [keep4 a ha]; exact f1.al a (List.mem_append_right _ ha), fr4⟩
          have x2 : FpOk W4 ((D :: Fa) ++ Fu) := x1.app fp4.right fun a ha z => apart a (List.mem_append_right _ z) ha
          refine sa5.fp.app x2 fun a ha z => ?_
          rcases List.mem_append.mp z with z | z
          · exact apart a (List.mem_append_left _ (sub5 a ha)) z
          · exact fp4.disj a (sub5 a ha) z
        have hBD : W4.B D = none := fr4 D List.mem_cons_self
        refine ⟨acc, hD4, lim_lt ha4, q0.1.length - (i + 1), by omega, rfl, hlt, ⟨upd W4.H D (.lst (acc ++ [u])), W4.B⟩, F5, y1.2, acc ++ [u], as ++ [y1.1], r1, Fa ++ Fu, rfl, ?_, eb1.trans stp14.b, ?_, upd_same, ?_, t5, ?_, ?_, ?_⟩
        · have z1 : Stp W F W4 (F4 ++ ((D :: Fa) ++ Fu)) := stp1.trans (stpT stp14)
          have z2 : Stp W F W4 (F5 ++ ((D :: Fa) ++ Fu)) := z1.perm fun a ha => by
            rcases List.mem_append.mp ha with h | h
            · exact List.mem_append_left _ (sub5 a h)
            · exact List.mem_append_right _ h
          refine z2.trans ⟨wr_ok sa5.ok hBD, Ex.refl _, fun a o h n => ?_, wr_al, fun a _ h2 _ => h2, fun a ha => .inl ha⟩
          show upd W4.H D _ a = some o
          rw [upd_ne fun z => n (by rw [z]; simp)]
          exact h
        · refine ⟨wr_ok sa5.ok hBD, ⟨sa5.fp.nd, fun a ha => wr_al a (sa5.fp.al a ha), sa5.fp.fr⟩, sa5.len, Holds.loc (W := W4) (W' := ⟨upd W4.H D (.lst (acc ++ [u])), W4.B⟩) (fun _ _ h => h) sa5.hold fun a ha => ?_⟩
          show upd W4.H D _ a = W4.H a
          exact upd_ne (nD5 a ha)
        · rw [List.length_append, List.length_singleton]
          omega
        · rw [← c2]
          simp
        · exact Owns.loc (W := W4) (W' := ⟨upd W4.H D (.lst (acc ++ [u])), W4.B⟩) (fun _ _ h => h) A3 fun a ha => by
            show upd W4.H D (.lst (acc ++ [u])) a = W4.H a
            exact upd_ne (nD a ha)
        · exact ⟨fA.nd, fun a ha => wr_al a (fA.al a ha), fA.fr⟩
      | false =>
        obtain ⟨F5, sa5, sub5⟩ := back hσ sa3
        have stp14 : Stp W1 Fs W3 (F3 ++ []) := by rw [List.append_nil]; exact stp13
        refine iteF ⟨q0.1.length - (i + 1), by omega, rfl, hlt, W3, F5, b2, acc, as, bs, Fa, rfl, ?_, eb1.trans stp13.b, sa5, (keep3 D List.mem_cons_self).trans d1, by omega, t2, c2, o1.loc stp13.b fun a ha => keep3 a (List.mem_cons_of_mem _ ha), ?_⟩
        · have z1 := stp1.trans (stpT stp14)
          rw [List.append_nil] at z1
          exact z1.perm fun a ha => by
            rcases List.mem_append.mp ha with h | h
            · exact List.mem_append_left _ (sub5 a h)
            · exact List.mem_append_right _ h
        · refine sa5.fp.app ⟨f1.right.nd, al3, fr3⟩ fun a ha z => ?_
          rcases stp13.fp a (sub5 a ha) with w | w
          · exact f1.disj a w z
          · exact f1.al a (List.mem_append_right _ z) w
    · have ei : i = q0.1.length := by omega
      subst ei
      rw [List.drop_length] at c1
      cases c1
      rw [List.append_nil] at c2
      subst c2
      exact .inl ⟨iok2 _ (Nat.le_refl _), k (.ref D) W1 Fs (D :: Fa) stp1 sa1 f1 ⟨D, acc, Fa, rfl, d1, rfl, o1⟩⟩
  · cases h2
/-- what a target changes -/
theorem up1 {E : α → SP} (i : Nat) : ∀ (x : α) (Γ : Ctx) (j : Nat), j ∉ [i] → (Γ.set i (some (sh (E x))))[j]? = Γ[j]? := fun x Γ j h => List.getElem?_set_ne fun z => h (by simp [z])
theorem up1l {E : α → SP} (i : Nat) : ∀ (x : α) (Γ : Ctx), (Γ.set i (some (sh (E x)))).length = Γ.length := fun x Γ => List.length_set
theorem up2 {E : α → SP} {G : β → SP} (i k : Nat) : ∀ (x : α × β) (Γ : Ctx) (j : Nat), j ∉ [i, k] → ((Γ.set i (some (sh (E x.1)))).set k (some (sh (G x.2))))[j]? = Γ[j]? := fun x Γ j h => by
  rw [List.getElem?_set_ne fun z => h (by simp [z]), List.getElem?_set_ne fun z => h (by simp [z])]
theorem up2l {E : α → SP} {G : β → SP} (i k : Nat) : ∀ (x : α × β) (Γ : Ctx), ((Γ.set i (some (sh (E x.1)))).set k (some (sh (G x.2)))).length = Γ.length := fun x Γ => by rw [List.length_set, List.length_set]
/-- without tests -/
theorem JC.cong {scope : Scope} {Γ : Ctx} {m m' : Option α} {R : α → OP} (h : JC S elt tg iter ifs scope Γ m R) (q : m = m') : JC S elt tg iter ifs scope Γ m' R := q ▸ h
theorem JCE.cong {scope : Scope} {m m' : Option (α × τ)} {R : α → OP} (h : JCE S elt tg iter ifs scope Γ s m R) (q : m = m') : JCE S elt tg iter ifs scope Γ s m' R := q ▸ h
theorem jc_map {scope : Scope} {Γ : Ctx} {mi : Option (List α)} {E : α → SP} {up : α → Ctx → Ctx} {ws : List Nat} {me : α → Option β} {R : β → OP} (own : List (Str × Nat)) (hi : JIc S tg iter Γ mi E) (ok : blkC S.N S.sc scope own = true) (hg : JG (S.blk scope) tg E up ws)
    (hw : ∀ i ∈ ws, i ∈ own.map (·.2)) (hl : ∀ i ∈ ws, i < Γ.length) (he : ∀ x, JN (S.blk scope) elt (up x (wipeC Γ (own.map (·.2)))) (me x) R) : JC S elt tg iter [] scope Γ (mi.bind fun xs => mapM me xs) fun ys => lstO R ys :=
  (jc_of own hi ok hg hw hl (fun _ => jts_nil) he).cong (by simp only [mapM_eq])
theorem jce_map {scope : Scope} {mi : Option (List α × τ)} {E : α → SP} {up : α → Ctx → Ctx} {ws : List Nat} {me : α → τ → Option (β × τ)} {R : β → OP} (own : List (Str × Nat)) (hi : JIE S tg iter Γ s mi E) (ok : blkC S.N S.sc scope own = true) (hg : JG (S.blk scope) tg E up ws)
    (hw : ∀ i ∈ ws, i ∈ own.map (·.2)) (hl : ∀ s, ∀ i ∈ ws, i < (Γ s).length) (hu : ∀ x Γ i, i ∉ ws → (up x Γ)[i]? = Γ[i]?) (hul : ∀ x Γ, (up x Γ).length = Γ.length) (hz : ∀ s, ∀ i ∈ own.map (·.2), (Γ s)[i]? = some none)
    (he : ∀ x s, JE (S.blk scope) elt (fun s => up x (wipeC (Γ s) (own.map (·.2)))) s (me x s) R) : JCE S elt tg iter [] scope Γ s (mi.bind fun q => mapME me q.1 q.2) fun ys => lstO R ys :=
  (jce_of own hi ok hg hw hl hu hul hz (fun _ _ => jtse_nil) he).cong (by simp only [mapME_eq])
end
end CC
set_option maxHeartbeats 4000000
/-! Further rules: keywords, moves, sorting, isinstance. -/
namespace CC
open PySem PySem.Spec L2
open PyProof.Rows hiding St
variable {α β γ δ τ ω ρ υ : Type}
/-! ### what is reckoned -/
def maskC : List Bool → Ctx → Ctx
  | b :: bs, e :: Γ => (if b then e else none) :: maskC bs Γ
  | _, Γ => Γ.map fun _ => none
theorem weak_none : ∀ Γ : Ctx, Weak Γ (Γ.map fun _ => none)
  | [] => .nil
  | _ :: Γ => .drop (weak_none Γ)
theorem weak_mask : ∀ (bs : List Bool) (Γ : Ctx), Weak Γ (maskC bs Γ)
  | [], [] => .nil
  | [], e :: Γ => .drop (weak_none Γ)
  | _ :: _, [] => .nil
  | true :: bs, e :: Γ => .same (weak_mask bs Γ)
  | false :: bs, e :: Γ => .drop (weak_mask bs Γ)
theorem all_lt {ws : List Nat} {Γ : Ctx} (h : (ws.all fun i => (Γ[i]?).isSome) = true) : ∀ i ∈ ws, i < Γ.length := fun i hi => by
  have := List.all_eq_true.mp h i hi
  cases q : Γ[i]? with
  | none => rw [q] at this; cases this
  | some o => exact (List.getElem?_eq_some_iff.mp q).1
def isNon : Option (Option OP) → Bool
  | some none => true
  | _ => false
theorem all_non {ws : List Nat} {Γ : Ctx} (h : (ws.all fun i => isNon Γ[i]?) = true) : ∀ i ∈ ws, Γ[i]? = some none := fun i hi => by
  have := List.all_eq_true.mp h i hi
  cases q : Γ[i]? with
  | none => rw [q] at this; cases this
  | some o =>
    rw [q] at this
    cases o with
    | none => rfl
    | some o => cases this
/-! ### sorting -/
def ins (le : α → α → Bool) (x : α) : List α → List α
  | [] => [x]
  | y :: ys => if le x y then x :: y :: ys else y :: ins le x ys
def isort (le : α → α → Bool) : List α → List α
  | [] => []
  | x :: xs => ins le x (isort le xs)
theorem ins_perm (le : α → α → Bool) (x : α) : ∀ ys : List α, (ins le x ys).Perm (x :: ys)
  | [] => .refl _
  | y :: ys => by
    show (if le x y then x :: y :: ys else y :: ins le x ys).Perm _
    split
    · exact .refl _
    · exact (List.Perm.cons y (ins_perm le x ys)).trans (.swap x y ys)
theorem isort_perm (le : α → α → Bool) : ∀ xs : List α, (isort le xs).Perm xs
  | [] => .refl _
  | x :: xs => (ins_perm le x _).trans (.cons x (isort_perm le xs))
theorem ins_srt {le : α → α → Bool} (tot : ∀ a b, le a b = true ∨ le b a = true) (tr : ∀ a b c, le a b = true → le b c = true → le a c = true) (x : α) : ∀ ys : List α, ys.Pairwise (fun a b => le a b = true) → (ins le x ys).Pairwise fun a b => le a b = true
  | [], _ => by simp [ins]
  | y :: ys, h => by
    obtain ⟨h1, h2⟩ := List.pairwise_cons.mp h
    show (if le x y then x :: y :: ys else y :: ins le x ys).Pairwise _
    split
    · rename_i hle
      refine List.pairwise_cons.mpr ⟨fun z hz => ?_, h⟩
      rcases List.mem_cons.mp hz with e | hz
      · rw [e]; exact hle
      · exact tr x y z hle (h1 z hz)
    · rename_i hle
      refine List.pairwise_cons.mpr ⟨fun z hz => ?_, ins_srt tot tr x ys h2⟩
      rcases List.mem_cons.mp ((ins_perm le x ys).mem_iff.mp hz) with e | hz
      · rw [e]; exact (tot x y).resolve_left hle
      · exact h1 z hz
theorem isort_srt {le : α → α → Bool} (tot : ∀ a b, le a b = true ∨ le b a = true) (tr : ∀ a b c, le a b = true → le b c = true → le a c = true) : ∀ xs : List α, (isort le xs).Pairwise fun a b => le a b = true
  | [] => .nil
  | x :: xs => ins_srt tot tr x _ (isort_srt tot tr xs)
/-- two sorted lists of the same things are one -/
theorem srt_uniq {le : α → α → Bool} (an : ∀ a b, le a b = true → le b a = true → a = b) : ∀ {xs ys : List α}, xs.Pairwise (fun a b => le a b = true) → ys.Pairwise (fun a b => le a b = true) → xs.Perm ys → xs = ys
  | [], ys, _, _, p => (List.Perm.nil_eq p)
  | x :: xs, [], _, _, p => by have := p.length_eq; simp at this
  | x :: xs, y :: ys, h, k, p => by
    obtain ⟨h1, h2⟩ := List.pairwise_cons.mp h
    obtain ⟨k1, k2⟩ := List.pairwise_cons.mp k
    have e : x = y := by
      rcases List.mem_cons.mp (p.mem_iff.mp List.mem_cons_self) with e | m1
      · exact e
      rcases List.mem_cons.mp (p.mem_iff.mpr List.mem_cons_self) with e | m2
      · exact e.symm
      exact an x y (h1 y m2) (k1 x m1)
    subst e
    rw [srt_uniq an h2 k2 (List.Perm.cons_inv p)]
def leI (a b : Int) : Bool := decide (a ≤ b)
def leP (a b : Int × Int) : Bool := decide (a.1 < b.1) || (decide (a.1 = b.1) && decide (a.2 ≤ b.2))
theorem leP_iff {a b : Int × Int} : leP a b = true ↔ a.1 < b.1 ∨ (a.1 = b.1 ∧ a.2 ≤ b.2) := by
  unfold leP
  simp
theorem leP_tot (a b : Int × Int) : leP a b = true ∨ leP b a = true := by rw [leP_iff, leP_iff]; omega
theorem leP_tr (a b c : Int × Int) (h : leP a b = true) (k : leP b c = true) : leP a c = true := by rw [leP_iff] at *; omega
theorem leP_an (a b : Int × Int) (h : leP a b = true) (k : leP b a = true) : a = b := by
  rw [leP_iff] at *
  obtain ⟨a1, a2⟩ := a
  obtain ⟨b1, b2⟩ := b
  simp only at h k
  have e1 : a1 = b1 := by omega
  have e2 : a2 = b2 := by omega
  rw [e1, e2]
theorem leI_tot (a b : Int) : leI a b = true ∨ leI b a = true := by unfold leI; simp; omega
theorem leI_tr (a b c : Int) (h : leI a b = true) (k : leI b c = true) : leI a c = true := by unfold leI at *; simp at *; omega
theorem leI_an (a b : Int) (h : leI a b = true) (k : leI b a = true) : a = b := by unfold leI at *; simp at *; omega
def sortP (xs : List (Int × Int)) : List (Int × Int) := isort leP xs
def sortI (xs : List Int) : List Int := isort leI xs
section
variable {S : Stc} {Γ Δ : Ctx} {a b c e tg iter elt : Expr} {es ifs : List Expr} {pos : Pos} {st : Stmt} {rest A B : List Stmt}
/-- an owned slot is handed back, or moved -/
theorem sta_take {σ : L2.St} {W : Wd} {F : List Addr} {i : Nat} {o : OP} (sta : Sta Γ σ W F) (hi : Γ[i]? = some (some o)) : ∃ v F1 F2, σ[i]? = some (some v) ∧ o.C W v F1 ∧ F.Perm (F2 ++ F1) ∧ Sta (Γ.set i none) σ W F2 := by
  have go : ∀ {Γ : Ctx} {σ : L2.St} {F : List Addr} {i : Nat}, Holds Γ σ W F → Γ[i]? = some (some o) → ∃ v F1 F2, σ[i]? = some (some v) ∧ o.C W v F1 ∧ F.Perm (F2 ++ F1) ∧ Holds (Γ.set i none) σ W F2 := by
    intro Γ
    induction Γ with
    | nil => intro σ F i h e; simp at e
    | cons g Γ ih =>
      intro σ F i h e
      cases i with
      | zero =>
        have : g = some o := by simpa using e
        subst this
        obtain ⟨v, F1, F2, h1, h2, h3, h4⟩ := h
        refine ⟨v, F1, F2, ?_, h3, by subst h2; exact List.perm_append_comm, h4⟩
        rw [← List.head?_eq_getElem?]
        exact h1
      | succ i =>
        cases g with
        | none =>
          obtain ⟨v, F1, F2, a1, a2, a3, a4⟩ := ih (σ := σ.tail) (i := i) h (by simpa using e)
          rw [List.getElem?_tail] at a1
          exact ⟨v, F1, F2, a1, a2, a3, a4⟩
        | some p =>
          obtain ⟨u, G1, G2, h1, h2, h3, h4⟩ := h
          obtain ⟨v, F1, F2, a1, a2, a3, a4⟩ := ih (σ := σ.tail) (i := i) h4 (by simpa using e)
          rw [List.getElem?_tail] at a1
          subst h2
          refine ⟨v, F1, G1 ++ F2, a1, a2, ?_, u, G1, F2, h1, rfl, h3, a4⟩
          rw [List.append_assoc]
          exact List.Perm.append_left G1 a3
  obtain ⟨v, F1, F2, a1, a2, a3, a4⟩ := go sta.hold hi
  exact ⟨v, F1, F2, a1, a2, a3, sta.ok, (sta.fp.perm a3).left, by rw [List.length_set]; exact sta.len, a4⟩
theorem jb_retO {x : Str} {p0 : Pos} {R : α → OP} {a : α} (i : Nat) (w : Weak (Γ.set i none) Δ) (hi : Γ[i]? = some (some (R a)) := by rfl) (hN : S.N[i]? = some x := by rfl) (hv : Vis S.sc x := by first | exact Or.inl rfl | exact Or.inr (Or.inl rfl) | exact Or.inr (Or.inr rfl))
    (hd : (x == ("__debug__" : Str)) = false := by decide) (hcd : (x == ("__classdict__" : Str)) = false := by decide) : JB S (.Return (some (.Name x p0)) pos :: rest) Γ (some a) fun r => .rt Δ (R r) := fun σ W F sta y hy E k => by
  cases hy
  obtain ⟨v, F1, F2, h1, h2, h3, h4⟩ := sta_take sta hi
  obtain ⟨F', s', sub⟩ := h4.weak w
  have fp := sta.fp.perm h3
  refine ⟨tSeq (tRet (tVar i)) tNever, fun X hX => pss_cons (ps_ret (pe_var (by rw [hX.N]; exact hN) (visS hv hX) hd hcd)) pss_never, v, h1, ?_⟩
  refine k v σ W F' F1 Keep.refl ((Stp.refl sta.ok).perm fun a ha => ?_) s' (s'.fp.app fp.right fun a ha => fp.disj a (sub a ha)) h2
  rcases List.mem_append.mp ha with h | h
  · exact h3.mem_iff.mpr (List.mem_append_left _ (sub a h))
  · exact h3.mem_iff.mpr (List.mem_append_right _ h)
/-- the same beside a state -/
theorem jb_retOS {x : Str} {p0 : Pos} {R : α → OP} {a : α} {s : τ} {Δ : τ → Ctx} (i : Nat) (w : Weak (Γ.set i none) (Δ s)) (hi : Γ[i]? = some (some (R a)) := by rfl) (hN : S.N[i]? = some x := by rfl) (hv : Vis S.sc x := by first | exact Or.inl rfl | exact Or.inr (Or.inl rfl) | exact Or.inr (Or.inr rfl))
    (hd : (x == ("__debug__" : Str)) = false := by decide) (hcd : (x == ("__classdict__" : Str)) = false := by decide) : JB S (.Return (some (.Name x p0)) pos :: rest) Γ (some (a, s)) fun q => .rt (Δ q.2) (R q.1) := fun σ W F sta y hy E k => by
  cases hy
  obtain ⟨v, F1, F2, h1, h2, h3, h4⟩ := sta_take sta hi
  obtain ⟨F', s', sub⟩ := h4.weak w
  have fp := sta.fp.perm h3
  refine ⟨tSeq (tRet (tVar i)) tNever, fun X hX => pss_cons (ps_ret (pe_var (by rw [hX.N]; exact hN) (visS hv hX) hd hcd)) pss_never, v, h1, ?_⟩
  refine k v σ W F' F1 Keep.refl ((Stp.refl sta.ok).perm fun a ha => ?_) s' (s'.fp.app fp.right fun a ha => fp.disj a (sub a ha)) h2
  rcases List.mem_append.mp ha with h | h
  · exact h3.mem_iff.mpr (List.mem_append_left _ (sub a h))
  · exact h3.mem_iff.mpr (List.mem_append_right _ h)
/-- a pure expression handed back beside a state -/
theorem jb_retS {m : Option α} {s : τ} {R : α → OP} {Δ : τ → Ctx} (w : Weak Γ (Δ s)) (h : JN S e Γ m R) : JB S (.Return (some e) pos :: rest) Γ (m.bind fun x => some (x, s)) fun q => .rt (Δ q.2) (R q.1) := fun σ W F sta z hz E k => by
  obtain ⟨x, h1, h2⟩ := run1 hz
  cases h2
  exact jb_ret (rest := rest) (pos := pos) w h σ W F sta x h1 E k
/-- y = x, what x owned is y's now -/
theorem js_move {x y : Str} {p0 p1 : Pos} {o : OP} (i j : Nat) (nd : S.N.Nodup) (hj : Γ[j]? = some (some o) := by rfl) (hi : (Γ[i]?).isSome = true := by rfl) (hNj : S.N[j]? = some y := by rfl) (hN : S.N[i]? = some x := by rfl) (hv : Vis S.sc y := by first | exact Or.inl rfl | exact Or.inr (Or.inl rfl) | exact Or.inr (Or.inr rfl)) (hx : Loc S.sc x := by first | exact Or.inl rfl | exact Or.inr rfl)
    (hp : (S.prot.contains i) = false := by rfl) (hd : (y == ("__debug__" : Str)) = false := by decide) (hcd : (y == ("__classdict__" : Str)) = false := by decide) (hs : ∀ env, swapsWith (.Name y p1) (some (.Name x p0)) pos.line env = pure false := by intro _; rfl) (hf : S.fn x = true ∨ S.sc.names.lookup x = some .local := by first | exact .inl rfl | exact .inr rfl) :
    JS S (.Assign [.Name x p0] (.Name y p1) pos) Γ (some ()) fun _ => .nx ((Γ.set j none).set i (some o)) := fun σ W F sta z hz E k => by
  obtain ⟨v, F1, F2, h1, h2, h3, h4⟩ := sta_take sta hj
  have hl : i < (Γ.set j none).length := by
    rw [List.length_set]
    cases h : Γ[i]? with
    | none => rw [h] at hi; cases hi
    | some o => exact (List.getElem?_eq_some_iff.mp h).1
  obtain ⟨F', s', sub⟩ := h4.put hl h2 (sta.fp.perm h3)
  refine ⟨tAsg (tVar j) (gName i), fun X hX => ps_set (by rw [hX.N]; exact nd) (by rw [hX.N]; exact hN) (locS hx hX) (pe_var (by rw [hX.N]; exact hNj) (visS hv hX) hd hcd) (hs _) (by rw [hX.fn, hX.sc]; exact hf), v, h1, ?_⟩
  exact k _ W F' (Keep.set fun z => by rw [List.contains_iff_mem.mpr z] at hp; cases hp) ((Stp.refl sta.ok).perm fun a ha => h3.mem_iff.mpr (sub a ha)) s'
/-! ### xs[::-1], xs + ys -/
theorem jn_revL {E : α → SP} {m : Option (List α)} {k : Nat} {p1 p2 p3 : Pos} (h : JR S a Γ m (lstO fun x => sh (E x))) : JN S (.Subscript a (.Slice none none (some (.UnaryOp .USub (.Constant (.int 1) k p1) p2)) p3) pos) Γ (m.bind fun xs => some xs.reverse) (lstO fun x => sh (E x)) := fun σ W F sta z hz Q kq => by
  obtain ⟨x, h1, h2⟩ := run1 hz
  cases h2
  refine ⟨tRevL S.K (tOf S a), fun X hX => hX.K ▸ pe_revL (peO hX), h σ W F sta x h1 _ fun v W' ext ⟨F1, r, al⟩ => ?_⟩
  obtain ⟨p, vs, F2, rfl, q2, rfl, q3⟩ := r
  obtain ⟨_, q4⟩ := q3.each
  exact ⟨p, vs, rfl, .inl (.inl q2), (kq.ext ext).newL ext.ok q4.rev⟩
theorem jn_revS {E : α → SP} {m : Option (List α)} {k : Nat} {p1 p2 p3 : Pos} (h : JN S a Γ m fun x => sh (lstS E x)) : JN S (.Subscript a (.Slice none none (some (.UnaryOp .USub (.Constant (.int 1) k p1) p2)) p3) pos) Γ (m.bind fun xs => some xs.reverse) (lstO fun x => sh (E x)) := fun σ W F sta z hz Q kq => by
  obtain ⟨x, h1, h2⟩ := run1 hz
  cases h2
  refine ⟨tRevL S.K (tOf S a), fun X hX => hX.K ▸ pe_revL (peO hX), h σ W F sta x h1 _ fun v W' Fv ext _ _ r => ?_⟩
  obtain ⟨_, p, vs, rfl, q2, q3⟩ := r
  exact ⟨p, vs, rfl, .inl (.inl (ext.ok p _ q2)), (kq.ext ext).newL ext.ok q3.rev⟩
def catM (xs ys : List α) : Option (List α) := if xs.length + ys.length ≤ LIM then some (xs ++ ys) else none
theorem ov_cat {E : α → SP} : OpV rCat (lstS E) (lstS E) catM (lstO fun x => sh (E x)) := fun W x y v u z ok hx hy e Q k => by
  unfold catM at e
  split at e
  · rename_i hl
    cases e
    obtain ⟨a, vs, rfl, a2, a3⟩ := hx
    obtain ⟨b, us, rfl, b2, b3⟩ := hy
    exact ⟨a, b, vs, us, rfl, rfl, ok a _ a2, ok b _ b2, lim_le (by rw [a3.len, b3.len]; exact hl), k.newL ok (a3.app b3)⟩
  · cases e
theorem oCat : ∀ X, S.In X → OpR X (binaryOp .Add) rCat := fun _ _ => op_cat
/-! ### isinstance -/
class HasTy (E : α → SP) (n : outParam String) : Prop where
  ty : ∀ K x B H v, Ex B H → (E x).P B v → TyX K H v (.type n)
instance : HasTy intS "int" := ⟨fun K x B H v _ h => by cases h; exact .base (.int x)⟩
instance : HasTy boolS "bool" := ⟨fun K x B H v _ h => by cases h; exact .base (.bl x)⟩
instance : HasTy strS "str" := ⟨fun K x B H v _ h => by cases h; exact .base (.str x)⟩
instance : HasTy (fun _ : Unit => nonS) "NoneType" := ⟨fun K x B H v _ h => by cases h; exact .base .non⟩
instance {E : α → SP} : HasTy (lstS E) "list" := ⟨fun K x B H v e h => by obtain ⟨a, vs, rfl, h2, _⟩ := h; exact .base (.lst (e a _ h2))⟩
instance {E : α → SP} : HasTy (tupS E) "tuple" := ⟨fun K x B H v e h => by obtain ⟨a, vs, rfl, h2, _⟩ := h; exact .base (.tup (e a _ h2))⟩
instance {E : α → SP} {G : β → SP} : HasTy (prS E G) "tuple" := ⟨fun K x B H v e h => by obtain ⟨a, vs, rfl, h2, _⟩ := h; exact .base (.tup (e a _ h2))⟩
theorem jn_ty {x : Str} {n : String} (hm : S.mg x = none) (hg : GlS S x := by rfl) (hv : bootBuiltins x = some (.type n) := by decide +kernel) (hn : x ≠ "__name__" := by decide) (hdb : (x == ("__debug__" : Str)) = false := by decide) : JN S (.Name x pos) Γ (some ()) fun _ => sh (valS (.ty n)) :=
  jn_c (E := fun _ : Unit => valS (.ty n)) (fun X hX => pe_bltn (v := .ty n) (hg.gl hX) (mgS hm hX) hv rfl hn hdb) fun _ => rfl
theorem jn_isi {p pc : Pos} {c : Str} {E : α → SP} {n cn : String} [ht : HasTy E n] {m : Option α} (bb : Bool) (hm : S.mg "isinstance" = none) (hmc : S.mg c = none) (h : JN S a Γ m fun x => sh (E x)) (hk : kitB n cn = some bb := by decide +kernel) (hg : GlS S "isinstance" := by rfl) (hgc : GlS S c := by rfl) (hvc : bootBuiltins c = some (.type cn) := by decide +kernel) (hn : c ≠ "__name__" := by decide) (hdb : (c == ("__debug__" : Str)) = false := by decide)
    (hs : ∀ env, starEach [a, .Name c pc] env = [(false, eval a env), (false, eval (.Name c pc) env)] := by intro _; rfl) (hs2 : ∀ env, starEach [Expr.Name c pc] env = [(false, eval (.Name c pc) env)] := by intro _; rfl) : JN S (.Call (.Name "isinstance" p) [a, .Name c pc] [] pos) Γ (m.bind fun _ => some bb) fun z => sh (boolS z) := fun σ W F sta z hz Q kq => by
  obtain ⟨x, h1, h2⟩ := run1 hz
  cases h2
  refine ⟨tCB (rIsi S.K) (tCons (tOf S a) (tCons (tC (.ty cn)) tNil)), fun X hX => pe_callB (hX.K ▸ call_isi) (hg.gl hX) (mgS hm hX) (by decide +kernel) (pa_cons (peO hX) (pa_cons (pe_bltn (v := .ty cn) (hgc.gl hX) (mgS hmc hX) hvc rfl hn hdb) pa_nil (hs2 _)) ((hs _).trans (by rw [hs2]))) (by decide) (by decide) ((hs _).trans (by rw [hs2])) (by rw [hs2]; rfl), h σ W F sta x h1 _ fun v W' Fv ext _ _ r => ?_⟩
  exact ⟨v, .ty cn, .type n, .type cn, bb, rfl, .ty cn, ht.ty S.K x W'.B W'.H v ext.ok r.2, kit_ty hk, (kq.ext ext).val ext.ok rfl⟩
/-! ### all, any, sorted -/
theorem each_bl {B : Hp} : ∀ {vs : List V} {xs : List Bool}, Each boolS B vs xs → vs = xs.map V.bl
  | [], [], _ => rfl
  | v :: vs, x :: xs, h => by
    have e : v = .bl x := h.1
    rw [e, each_bl h.2]
    rfl
  | [], _ :: _, h => h.elim
  | _ :: _, [], h => h.elim
theorem each_int {B : Hp} : ∀ {vs : List V} {xs : List Int}, Each intS B vs xs → vs = xs.map V.int
  | [], [], _ => rfl
  | v :: vs, x :: xs, h => by
    have e : v = .int x := h.1
    rw [e, each_int h.2]
    rfl
  | [], _ :: _, h => h.elim
  | _ :: _, [], h => h.elim
theorem each_of_int {B : Hp} : ∀ xs : List Int, Each intS B (xs.map V.int) xs
  | [] => trivial
  | x :: xs => ⟨rfl, each_of_int xs⟩
theorem all_lst {m : Option (List Bool)} {p : Pos} (hm : S.mg "all" = none) (h : JN S a Γ m fun x => sh (lstS boolS x)) (hg : GlS S "all" := by rfl) (hs : ∀ env, starEach [a] env = [(false, eval a env)] := by intro _; rfl) (hcm : S.calm = true := by rfl) : JN S (.Call (.Name "all" p) [a] [] pos) Γ (m.bind fun xs => some (xs.all id)) fun z => sh (boolS z) :=
  jn_b1 (f := fun xs : List Bool => some (xs.all id)) (fun X hX => hX.K ▸ cr_all (hX.calm.trans hcm)) (fun W x v z ok hh e Q k => by
    cases e
    obtain ⟨a, vs, rfl, h2, h3⟩ := hh
    rw [each_bl h3] at h2
    exact ⟨a, x, rfl, .inl (.inl (ok a _ h2)), k.val ok rfl⟩) hm h hg (by decide +kernel) (by decide) (by decide) hs
theorem any_lst {m : Option (List Bool)} {p : Pos} (hm : S.mg "any" = none) (h : JN S a Γ m fun x => sh (lstS boolS x)) (hg : GlS S "any" := by rfl) (hs : ∀ env, starEach [a] env = [(false, eval a env)] := by intro _; rfl) (hcm : S.calm = true := by rfl) : JN S (.Call (.Name "any" p) [a] [] pos) Γ (m.bind fun xs => some (xs.any id)) fun z => sh (boolS z) :=
  jn_b1 (f := fun xs : List Bool => some (xs.any id)) (fun X hX => hX.K ▸ cr_any (hX.calm.trans hcm)) (fun W x v z ok hh e Q k => by
    cases e
    obtain ⟨a, vs, rfl, h2, h3⟩ := hh
    rw [each_bl h3] at h2
    exact ⟨a, x, rfl, .inl (.inl (ok a _ h2)), k.val ok rfl⟩) hm h hg (by decide +kernel) (by decide) (by decide) hs
theorem each_mem {E : α → SP} {B : Hp} : ∀ {vs : List V} {xs : List α} {v : V}, Each E B vs xs → v ∈ vs → ∃ x, x ∈ xs ∧ (E x).P B v
  | [], [], v, _, h => by simp at h
  | u :: vs, x :: xs, v, h, hv => by
    rcases List.mem_cons.mp hv with e | hv
    · rw [e]; exact ⟨x, List.mem_cons_self, h.1⟩
    · obtain ⟨y, h1, h2⟩ := each_mem h.2 hv
      exact ⟨y, List.mem_cons_of_mem _ h1, h2⟩
  | [], _ :: _, _, h, _ => h.elim
  | _ :: _, [], _, h, _ => h.elim
theorem pr_tup {B : Hp} {p : Int × Int} {v : V} (h : (prS intS intS p).P B v) : ∃ t, v = .ref t ∧ B t = some (.tup [.int p.1, .int p.2]) := by
  obtain ⟨t, vs, rfl, h2, h3⟩ := h
  obtain ⟨v, u, rfl, h4, h5⟩ := hets2 h3
  cases h4
  cases h5
  exact ⟨t, rfl, h2⟩
theorem tup_pr {B : Hp} {p : Int × Int} {t : Addr} (h : B t = some (.tup [.int p.1, .int p.2])) : (prS intS intS p).P B (.ref t) := ⟨t, _, rfl, h, rfl, rfl, trivial⟩
open Classical in
/-- sorted of a list of pairs of whole numbers -/
theorem sorted_prs {m : Option (List (Int × Int))} {p : Pos} (hm : S.mg "sorted" = none) (h : JN S a Γ m fun x => sh (lstS (prS intS intS) x)) (hg : GlS S "sorted" := by rfl) (hs : ∀ env, starEach [a] env = [(false, eval a env)] := by intro _; rfl) : JN S (.Call (.Name "sorted" p) [a] [] pos) Γ (m.bind fun xs => some (sortP xs)) (lstO fun x => sh (prS intS intS x)) :=
  jn_b1 (f := fun xs : List (Int × Int) => some (sortP xs)) (fun X hX => hX.K ▸ cr_sortedPO) (fun W x v z ok hh e Q k => by
    cases e
    obtain ⟨a, vs, rfl, h2, h3⟩ := hh
    -- the pair behind a value
    let kk : V → Int × Int := fun u => if h : ∃ q : Int × Int, (prS intS intS q).P W.B u then h.choose else (0, 0)
    have kspec : ∀ (q : Int × Int) (u : V), (prS intS intS q).P W.B u → kk u = q := fun q u hu => by
      have hex : ∃ q : Int × Int, (prS intS intS q).P W.B u := ⟨q, hu⟩
      have e1 : kk u = hex.choose := dif_pos hex
      have e2 := hex.choose_spec
      rw [← e1] at e2
      obtain ⟨t, rfl, b1⟩ := pr_tup hu
      obtain ⟨t', e3, b2⟩ := pr_tup e2
      cases e3
      rw [b1] at b2
      injection b2 with b2
      injection b2 with b2
      injection b2 with c1 c2
      injection c2 with c2 _
      injection c1 with c1
      injection c2 with c2
      exact Prod.ext c1.symm c2.symm
    refine ⟨a, vs, kk, rfl, .inl (.inl (ok a _ h2)), fun u hu => ?_, fun ys p srt stb np => ?_⟩
    · obtain ⟨q, _, hq⟩ := each_mem h3 hu
      obtain ⟨t, rfl, b1⟩ := pr_tup hq
      rw [kspec q _ hq]
      exact ⟨t, rfl, ok t _ b1⟩
    · have perm : ys.Perm vs := SrtO.Stb.perm stb
      have hmap : vs.map kk = x := by
        clear stb perm h2 k srt np
        induction vs generalizing x with
        | nil => cases x with
          | nil => rfl
          | cons _ _ => exact h3.elim
        | cons u vs ih => cases x with
          | nil => exact h3.elim
          | cons q x => rw [List.map_cons, kspec q u h3.1, ih _ h3.2]
      have hys : ∀ u ∈ ys, (prS intS intS (kk u)).P W.B u := fun u hu => by
        obtain ⟨q, _, hq⟩ := each_mem h3 (perm.mem_iff.mp hu)
        rw [kspec q u hq]
        exact hq
      have hE : Each (prS intS intS) W.B ys (ys.map kk) := by
        clear stb perm srt
        induction ys with
        | nil => trivial
        | cons u ys ih => exact ⟨hys u List.mem_cons_self, ih fun w hw => hys w (List.mem_cons_of_mem _ hw)⟩
      have hsrt : (ys.map kk).Pairwise fun a b => leP a b = true := by
        rw [List.pairwise_map]
        refine List.Pairwise.imp (fun {u w} hn => ?_) srt
        have := SrtO.lexB_no.mp hn
        rw [leP_iff]
        omega
      have e : ys.map kk = sortP x := srt_uniq leP_an hsrt (isort_srt leP_tot leP_tr x) (by
        refine (perm.map kk).trans ?_
        rw [hmap]
        exact (isort_perm leP x).symm)
      rw [e] at hE
      exact k.newL ok hE p np) hm h hg (by decide +kernel) (by decide) (by decide) hs
/-! ### keywords and defaults -/
def tkOf (S : Stc) (kws : List Keyword) : TA := fun σ H Q => ∃ t : TA, (∀ X, S.In X → PK X kws t) ∧ t σ H Q
theorem pkO {X : Cx} {kws : List Keyword} (h : S.In X) : PK X kws (tkOf S kws) := ⟨fun pos pins s σ H Q I ⟨_, p, q⟩ => (p X h).run pos pins s σ H Q I q⟩
def JK (S : Stc) (kws : List Keyword) (Γ : Ctx) (m : Option α) (R : α → List SP) : Prop :=
  ∀ σ W F, Sta Γ σ W F → ∀ x, m = some x → ∀ Q : List V → Hp → Prop, (∀ vs W', Ext W W' → Hets W'.B vs (R x) → Q vs W'.H) → tkOf S kws σ W.H Q
theorem jk_nil : JK S [] Γ (some ()) fun _ => [] := fun σ W F st x hx Q k => ⟨tNil, fun _ _ => pk_nil, k [] W (Ext.refl st.ok) trivial⟩
theorem jk_cons {nm : Option Str} {kpos : Pos} {kws : List Keyword} {ma : Option α} {mb : Option β} {E : α → SP} {G : β → List SP} (ha : JN S e Γ ma fun x => sh (E x)) (hb : JK S kws Γ mb G) : JK S (⟨nm, e, kpos⟩ :: kws) Γ (ma.bind fun x => mb.bind fun y => some (x, y)) fun p => E p.1 :: G p.2 := fun σ W F st z hz Q k => by
  obtain ⟨x, y, h1, h2, h3⟩ := run2 hz
  cases h3
  refine ⟨tCons (tOf S e) (tkOf S kws), fun X hX => pk_cons (peO hX) (pkO hX), ?_⟩
  refine ha σ W F st x h1 _ fun v W1 F1 e1 _ _ r1 => ?_
  exact hb σ W1 F (st.ext e1) y h2 _ fun vs W2 e2 h => k (v :: vs) W2 (e1.trans e2) ⟨SP.mono _ r1.2 e2.b, h⟩
theorem Hets.app {B : Hp} : ∀ {vs us : List V} {ps qs : List SP}, Hets B vs ps → Hets B us qs → Hets B (vs ++ us) (ps ++ qs)
  | [], _, [], _, _, k => k
  | _ :: _, _, _ :: _, _, h, k => ⟨h.1, Hets.app h.2 k⟩
  | [], _, _ :: _, _, h, _ => h.elim
  | _ :: _, _, [], _, h, _ => h.elim
/-- f(e, ..), the lacking parameters by their defaults dvs -/
theorem jn_callD {x : Str} {p : Pos} {f : Addr} {fd : FuncData} {ps : List Str} {k : Nat} {G : γ → List SP} {Ga : α → List SP} {fM : γ → Option ρ} {R : ρ → OP} {m : Option α} {ds : List Value} (dvs : List V) (g : α → γ) (Fn : FnOk S.P S.w S.K S.mg S.base CX0 k f fd ps (spP G fM R)) (hm : S.mg x = some (.ref f)) (kp : PySem.W.keepIn S.K (.ref f) = true) (hd : Vals dvs ds) (hb : Binds S.K fd ps ds)
    (hG : ∀ x B vs, Hets B vs (Ga x) → Hets B (vs ++ dvs) (G (g x))) (hk : k ≤ S.k) (ha : JA S (e :: es) Γ m Ga) (hg : GlS S x := by rfl) (hdb : (x == ("__debug__" : Str)) = false := by decide) (he : ∀ env, starEach (e :: es) env = (false, eval e env) :: starEach es env := by intro _; rfl) (hpl : ∀ env, (backTo pos (starEach es env)).any (·.1) = false := by intro _; rfl) (hcm : S.calm = true := by rfl) :
    JN S (.Call (.Name x p) (e :: es) [] pos) Γ (m.bind fun y => fM (g y)) R := fun σ W F st z hz Q kk => by
  obtain ⟨y, h1, h2⟩ := run1 hz
  refine ⟨tCall (spP G fM R) dvs E0 (taOf S (e :: es)), fun X hX => pe_call (fnokS Fn hX) ((hX.room hcm).mono hk) (hg.gl hX) (mgS hm hX) (by rw [hX.K]; exact kp) (bindsS hX hb) hd passE0 (paO hX) hdb (he _) (hpl _), ha σ W F st y h1 _ fun vs W' ext hh => ?_⟩
  exact ⟨g y, W', z, rfl, ext.ok, hG y _ vs hh, h2, kk.ext ext⟩
theorem kbnS {X : Cx} {fd : FuncData} {ps ks : List Str} {n : Nat} {g : List Value → List Value → List Value} {gV : List V → List V → List V} (h : S.In X) (b : KBn S.K fd ps n ks g gV) : KBn X.K fd ps n ks g gV := by rw [h.K]; exact b
theorem jn_callN {x : Str} {p : Pos} {f : Addr} {fd : FuncData} {ps ks : List Str} {k n : Nat} {G : γ → List SP} {Ga : α → List SP} {Gk : β → List SP} {fM : γ → Option ρ} {R : ρ → OP} {m : Option α} {mk : Option β} {kws : List Keyword} {gv : List Value → List Value → List Value} {gV : List V → List V → List V} (g : α → β → γ) (Fn : FnOk S.P S.w S.K S.mg S.base CX0 k f fd ps (spP G fM R)) (hm : S.mg x = some (.ref f)) (kp : PySem.W.keepIn S.K (.ref f) = true) (hb : KBn S.K fd ps n ks gv gV)
    (hG : ∀ x z B vs zs, Hets B vs (Ga x) → Hets B zs (Gk z) → Hets B (gV vs zs) (G (g x z))) (hl : ∀ x, (Ga x).length = n) (hlk : ∀ z, (Gk z).length = ks.length) (hk : k ≤ S.k) (ha : JA S (e :: es) Γ m Ga) (hkw : JK S kws Γ mk Gk) (hg : GlS S x := by rfl) (hdb : (x == ("__debug__" : Str)) = false := by decide)
    (hall : ∀ env, (backToKw pos (keywordEach kws env)).all (·.1.isSome) = true := by intro _; rfl) (hks : ∀ env, (backToKw pos (keywordEach kws env)).filterMap (·.1) = ks := by intro _; rfl) (he : ∀ env, starEach (e :: es) env = (false, eval e env) :: starEach es env := by intro _; rfl)
    (hpl : ∀ env, ((backTo pos (starEach (e :: es) env)).any (·.1) || (backToKw pos (keywordEach kws env)).any (·.1.isNone)) = false := by intro _; rfl) (hcm : S.calm = true := by rfl) : JN S (.Call (.Name x p) (e :: es) kws pos) Γ (m.bind fun y => mk.bind fun z => fM (g y z)) R := fun σ W F st z hz Q kk => by
  obtain ⟨y, w, h1, h2, h3⟩ := run2 hz
  refine ⟨tCallN n ks.length (spP G fM R) gV E0 (taOf S (e :: es)) (tkOf S kws), fun X hX => pe_callN (fnokS Fn hX) ((hX.room hcm).mono hk) (hg.gl hX) (mgS hm hX) (by rw [hX.K]; exact kp) (kbnS hX hb) passE0 (paO hX) (pkO hX) (hall _) (hks _) hdb (he _) (hpl _), ?_⟩
  refine ha σ W F st y h1 _ fun vs W1 e1 hh => ?_
  refine hkw σ W1 F (st.ext e1) w h2 _ fun zs W2 e2 hz => ⟨hh.len.trans (hl y), hz.len.trans (hlk w), ?_⟩
  exact ⟨g y w, W2, z, rfl, e2.ok, hG y w _ vs zs (hh.mono e2.b) hz, h3, kk.ext (e1.trans e2)⟩
/-- f(k = v, ..) -/
def tCall0N (m : Nat) (sp : Sp) (gV : List V → List V → List V) (E : XK) (tk : TA) : TE := fun σ H Q => tk σ H fun zs H2 => zs.length = m ∧ sp (gV [] zs) H2 Q E
theorem pe_call0N {X : Cx} {CX : CXT} {k : Nat} {f : Addr} {fd : FuncData} {ps ks : List Str} {sp : Sp} {E : XK} {x : Str} {p pos : Pos} {kws : List Keyword} {tk : TA} {g : List Value → List Value → List Value} {gV : List V → List V → List V} (F : FnOk X.prog X.w X.K X.mg X.base CX k f fd ps sp) (hr : Room k X.A) (hg : Gl X x) (hm : X.mg x = some (.ref f)) (hk : PySem.W.keepIn X.K (.ref f) = true) (hb : KBn X.K fd ps 0 ks g gV) (hx : Passes CX X E) (hkw : PK X kws tk)
    (hall : (backToKw pos (keywordEach kws X.env)).all (·.1.isSome) = true) (hks : (backToKw pos (keywordEach kws X.env)).filterMap (·.1) = ks) (hdb : (x == ("__debug__" : Str)) = false)
    (hpl : ((backTo pos (starEach [] X.env)).any (·.1) || (backToKw pos (keywordEach kws X.env)).any (·.1.isNone)) = false) : PE X (.Call (.Name x p) [] kws pos) (tCall0N ks.length sp gV E tk) := by
  refine ⟨fun pins s σ H Q I h => ?_⟩
  refine wpAny_Call_Name_kw (ld_glob I hg hm ?_ hdb)
  refine PySem.W.callWith_KW0 (h₀ := X.base) I.ok.mod.kin hk hall ?_ hpl
  refine thn (hkw.run pos pins s σ H _ I h) fun ws s2 ⟨zs, H2, I2, rz, l2, q2⟩ => ⟨I2.kIn, ?_⟩
  rw [hks]
  exact run_fnN (us := []) (vs := []) F hr hb hx I2 .nil rz rfl l2 q2
theorem jn_call0N {x : Str} {p : Pos} {f : Addr} {fd : FuncData} {ps ks : List Str} {k : Nat} {G : γ → List SP} {Gk : β → List SP} {fM : γ → Option ρ} {R : ρ → OP} {mk : Option β} {kws : List Keyword} {gv : List Value → List Value → List Value} {gV : List V → List V → List V} (g : β → γ) (Fn : FnOk S.P S.w S.K S.mg S.base CX0 k f fd ps (spP G fM R)) (hm : S.mg x = some (.ref f)) (kp : PySem.W.keepIn S.K (.ref f) = true) (hb : KBn S.K fd ps 0 ks gv gV)
    (hG : ∀ z B zs, Hets B zs (Gk z) → Hets B (gV [] zs) (G (g z))) (hlk : ∀ z, (Gk z).length = ks.length) (hk : k ≤ S.k) (hkw : JK S kws Γ mk Gk) (hg : GlS S x := by rfl) (hdb : (x == ("__debug__" : Str)) = false := by decide)
    (hall : ∀ env, (backToKw pos (keywordEach kws env)).all (·.1.isSome) = true := by intro _; rfl) (hks : ∀ env, (backToKw pos (keywordEach kws env)).filterMap (·.1) = ks := by intro _; rfl)
    (hpl : ∀ env, ((backTo pos (starEach [] env)).any (·.1) || (backToKw pos (keywordEach kws env)).any (·.1.isNone)) = false := by intro _; rfl) (hcm : S.calm = true := by rfl) : JN S (.Call (.Name x p) [] kws pos) Γ (mk.bind fun z => fM (g z)) R := fun σ W F st z hz Q kk => by
  obtain ⟨w, h2, h3⟩ := run1 hz
  refine ⟨tCall0N ks.length (spP G fM R) gV E0 (tkOf S kws), fun X hX => pe_call0N (fnokS Fn hX) ((hX.room hcm).mono hk) (hg.gl hX) (mgS hm hX) (by rw [hX.K]; exact kp) (kbnS hX hb) passE0 (pkO hX) (hall _) (hks _) hdb (hpl _), ?_⟩
  refine hkw σ W F st w h2 _ fun zs W2 e2 hz => ⟨hz.len.trans (hlk w), ?_⟩
  exact ⟨g w, W2, z, rfl, e2.ok, hG w _ zs hz, h3, kk.ext e2⟩
end
/-- a def with keyword-only defaults -/
theorem fnd_pure {P : Program} {w : World} {K : PySem.W.Frag} {mg : Str → Option Value} {base : Heap} {x qual : Str} {st : Stmt} {f : Addr} {fd : FuncData} {dvs : List V} {kwd : List (Str × V)} {N ps : List Str} {k : Nat} {G : α → List SP} {fM : α → Option ρ} {R : ρ → OP} {Δ : Ctx} (F : FunD K x qual (defArgs st) (defBody st) (defScope st) dvs kwd f fd) (Sc : FnScope N ps (defScope st)) (hG : ∀ a, (G a).length = ps.length) (hn : ps.length ≤ N.length)
    (body : ∀ a, JB (stcOf P w K mg base N (defScope st) k []) (defBody st) (shC (G a) ++ nonC (N.length - ps.length)) (fM a) fun r => .rt Δ (R r)) : FnOk P w K mg base CX0 (k + 1) f fd ps (spP G fM R) := by
  refine F.ok Sc (fun vs H Q E h => ?_) (fun cdv A outer s H vs Q E hr h => ?_)
  · obtain ⟨a, W, r, _, _, h3, _⟩ := h
    rw [h3.len, hG]
  · obtain ⟨a, W, r, rfl, ok, h3, h4, kq⟩ := h
    refine ⟨tbOf (stcOf P w K mg base N (defScope st) k []) (defBody st), (pbO (in_cx hr)).nox, ?_⟩
    have hl : vs.length = ps.length := h3.len.trans (hG a)
    have sta : Sta (shC (G a) ++ nonC (N.length - ps.length)) (L2.start N vs) W [] := ⟨ok, FpOk.nil, by unfold L2.start shC nonC; simp [h3.len, hG, hl], by unfold L2.start; rw [hl]; exact holds_sh h3⟩
    exact body a _ W [] sta r h4 _ fun v σ' W' F' Fv _ stp _ fp rr => by
      obtain ⟨ext, fr⟩ := stp.ext
      exact kq v W' Fv ext (fun a ha => fr a (List.mem_append_right _ ha)) fp.right rr
end CC
set_option maxHeartbeats 4000000
/-! Tuples and lists of several kinds. -/
namespace CC
open PySem PySem.Spec L2
open PyProof.Rows hiding St
variable {α β γ δ τ υ ω ρ : Type}
theorem sb (x : α) (f : α → Option β) : (some x).bind f = f x := rfl
def t3S (E : α → SP) (G : β → SP) (I : γ → SP) (p : α × β × γ) : SP := htupS [E p.1, G p.2.1, I p.2.2]
def t4S (E : α → SP) (G : β → SP) (I : γ → SP) (J : δ → SP) (p : α × β × γ × δ) : SP := htupS [E p.1, G p.2.1, I p.2.2.1, J p.2.2.2]
def t5S (E : α → SP) (G : β → SP) (I : γ → SP) (J : δ → SP) (L : τ → SP) (p : α × β × γ × δ × τ) : SP := htupS [E p.1, G p.2.1, I p.2.2.1, J p.2.2.2.1, L p.2.2.2.2]
def l2S (E : α → SP) (G : β → SP) (p : α × β) : SP := hlstS [E p.1, G p.2]
def l3S (E : α → SP) (G : β → SP) (I : γ → SP) (p : α × β × γ) : SP := hlstS [E p.1, G p.2.1, I p.2.2]
def l4S (E : α → SP) (G : β → SP) (I : γ → SP) (J : δ → SP) (p : α × β × γ × δ) : SP := hlstS [E p.1, G p.2.1, I p.2.2.1, J p.2.2.2]
def l5S (E : α → SP) (G : β → SP) (I : γ → SP) (J : δ → SP) (L : τ → SP) (p : α × β × γ × δ × τ) : SP := hlstS [E p.1, G p.2.1, I p.2.2.1, J p.2.2.2.1, L p.2.2.2.2]
section
variable {S : Stc} {Γ : Ctx} {a b e : Expr} {es : List Expr} {pos : Pos}
theorem jn_nilT {E : α → SP} {k : Nat} : JN S (.Tuple [] k pos) Γ (some []) fun x => sh (tupS E x) := jn_dispT (E := E) (g := fun _ : Unit => ([] : List α)) ja_nil
theorem jn_tupG {m : Option α} {R : α → List SP} {P : β → SP} {g : α → β} {k : Nat} (h : JA S es Γ m R) (hR : ∀ x, htupS (R x) = P (g x) := by intro _; rfl) (hl : ∀ x, (R x).length ≤ 1000 := by intro _; exact Nat.le_of_ble_eq_true rfl) : JN S (.Tuple es k pos) Γ (m.bind fun x => some (g x)) fun y => sh (P y) := fun σ W F sta z hz Q kk => by
  obtain ⟨x, h1, h2⟩ := run1 hz
  cases h2
  have q := jn_tup (k := k) (pos := pos) (p := fun _ => True) h hl σ W F sta x h1 Q
  simp only [hR] at q
  exact q kk
theorem jn_hl {m : Option α} {R : α → List SP} {T : β → OP} {g : α → β} (h : JA S es Γ m R) (hR : ∀ x, hetO ((R x).map sh) = T (g x) := by intro _; rfl) (hl : ∀ x, (R x).length ≤ 1000 := by intro _; exact Nat.le_of_ble_eq_true rfl) : JN S (.List es pos) Γ (m.bind fun x => some (g x)) T := fun σ W F sta z hz Q kk => by
  obtain ⟨x, h1, h2⟩ := run1 hz
  cases h2
  have q := jn_het (pos := pos) h hl σ W F sta x h1 Q
  simp only [hR] at q
  exact q kk
theorem jn_hlS {m : Option α} {R : α → List SP} {T : β → SP} {g : α → β} (h : JA S es Γ m R) (hR : ∀ x, hlstS (R x) = T (g x) := by intro _; rfl) (hl : ∀ x, (R x).length ≤ 1000 := by intro _; exact Nat.le_of_ble_eq_true rfl) : JN S (.List es pos) Γ (m.bind fun x => some (g x)) fun y => sh (T y) := fun σ W F sta z hz Q kk => by
  obtain ⟨x, h1, h2⟩ := run1 hz
  cases h2
  have q := jn_hetS (pos := pos) h hl σ W F sta x h1 Q
  simp only [hR] at q
  exact q kk
theorem len_scr {m : Option (List Int)} {p : Pos} (hm : S.mg "len" = none) (h : JN S a Γ m fun x => sh (scrS S.K x)) (hg : GlS S "len" := by rfl) (hs : ∀ env, starEach [a] env = [(false, eval a env)] := by intro _; rfl) : JN S (.Call (.Name "len" p) [a] [] pos) Γ (m.bind fun xs => some (xs.length : Int)) fun z => sh (intS z) :=
  jn_b1 (r := fun xs H Q => ∃ p ys, xs = [.ref p] ∧ (SqL S.K H p ys ∨ SqT S.K H p ys) ∧ Q (.int ys.length) H) (f := fun xs : List Int => some (xs.length : Int)) (fun X hX => hX.K ▸ call_len_seq) (fun W x v z ok hh e Q k => by
    cases e
    obtain ⟨a, rfl, h2⟩ := hh
    have hq : SqL S.K W.H a (x.map V.int) := by
      rcases h2 with (h | ⟨o, h⟩) | h
      · exact .inl (.inl (ok _ _ h))
      · exact .inl (.inr ⟨o, ok _ _ h⟩)
      · exact .inr h
    exact ⟨a, _, rfl, .inl hq, k.val ok (by rw [List.length_map]; rfl)⟩) hm h hg PySem.boot_len (by decide) (by decide) hs
end
section
variable {S : Stc} {Γ : τ → Ctx} {s : τ} {a b e : Expr} {es : List Expr} {pos : Pos}
theorem je_tup {E : α → SP} {m : Option (List α × τ)} {p : Pos} (hm : S.mg "tuple" = none) (h : JE S a Γ s m fun x => sh (lstS E x)) (hg : GlS S "tuple" := by rfl) (hs : ∀ env, starEach [a] env = [(false, eval a env)] := by intro _; rfl) : JE S (.Call (.Name "tuple" p) [a] [] pos) Γ s (m.bind fun q => some (q.1, q.2)) fun x => sh (tupS E x) :=
  je_t1 (f := fun x : List α => some x) (fun X hX => hX.K ▸ call_tuple_of) (fun W x v z ok hh e Q k => by
    cases e
    obtain ⟨a, vs, rfl, h2, h3⟩ := hh
    exact ⟨a, vs, rfl, .inl ⟨.inl (.inl (ok a _ h2)), k.newT ok h3⟩⟩) hm h hg (by decide +kernel) (by decide) (by decide) hs
theorem je_tupG {m : Option (α × τ)} {R : α → List SP} {P : β → SP} {g : α → β} {k : Nat} (h : JEA S es Γ s m R) (hR : ∀ x, htupS (R x) = P (g x) := by intro _; rfl) (hl : ∀ x, (R x).length ≤ 1000 := by intro _; exact Nat.le_of_ble_eq_true rfl) : JE S (.Tuple es k pos) Γ s (m.bind fun q => some (g q.1, q.2)) fun y => sh (P y) := JE.of_sh fun σ W F sta z hz Q kk => by
  obtain ⟨q, h1, h2⟩ := run1 hz
  cases h2
  refine ⟨tTup (taOf S es), fun X hX => pe_tup (paO hX), h σ W F sta q h1 _ fun vs W' F' stp sa hh => ?_⟩
  refine ⟨Nat.le_trans (by rw [hh.len]; exact hl q.1) (by decide), fun l hq => ?_⟩
  have e2 := Ext.newB sa.ok (o := .tup vs) hq
  exact kk (.ref l) ⟨upd W'.H l (.tup vs), upd W'.B l (.tup vs)⟩ F' (stp.trans e2.stp0) (sa.ext e2) (by rw [← hR]; exact ⟨l, vs, rfl, upd_same, hh.mono e2.b⟩)
theorem je_dispL {E : β → SP} {m : Option (α × τ)} {R : α → List SP} {g : α → List β} (h : JEA S es Γ s m R) (hR : ∀ x, R x = (g x).map E := by intro _; rfl) (hl : ∀ x, (R x).length ≤ 1000 := by intro _; exact Nat.le_of_ble_eq_true rfl) : JE S (.List es pos) Γ s (m.bind fun q => some (g q.1, q.2)) fun y => lstO (fun x => sh (E x)) y := fun σ W F sta z hz Q kk => by
  obtain ⟨q, h1, h2⟩ := run1 hz
  cases h2
  refine ⟨tLst (taOf S es), fun X hX => pe_lst (paO hX), h σ W F sta q h1 _ fun vs W' F' stp sa hh => ?_⟩
  refine ⟨Nat.le_trans (by rw [hh.len]; exact hl q.1) (by decide), fun l hq => ?_⟩
  have e2 := Ext.new sa.ok (o := .lst vs) hq
  rw [hR] at hh
  have fr : ∀ x ∈ [l], W'.H x = none := fun x hx => by rw [List.mem_singleton.mp hx]; exact hq
  have fp1 : FpOk ⟨upd W'.H l (.lst vs), W'.B⟩ [l] := fp_one (sa.ok.back hq)
  exact kk (.ref l) ⟨upd W'.H l (.lst vs), W'.B⟩ F' [l] (stp.trans (e2.stp fr)) (sa.ext e2) (sa.fp.fresh e2 fp1 fr) ⟨l, vs, [], rfl, upd_same, rfl, Owns.of_each (W := ⟨upd W'.H l (.lst vs), W'.B⟩) hh.each⟩
theorem je_hlS {m : Option (α × τ)} {R : α → List SP} {P : β → SP} {g : α → β} (h : JEA S es Γ s m R) (hR : ∀ x, hlstS (R x) = P (g x) := by intro _; rfl) (hl : ∀ x, (R x).length ≤ 1000 := by intro _; exact Nat.le_of_ble_eq_true rfl) : JE S (.List es pos) Γ s (m.bind fun q => some (g q.1, q.2)) fun y => sh (P y) := JE.of_sh fun σ W F sta z hz Q kk => by
  obtain ⟨q, h1, h2⟩ := run1 hz
  cases h2
  refine ⟨tLst (taOf S es), fun X hX => pe_lst (paO hX), h σ W F sta q h1 _ fun vs W' F' stp sa hh => ?_⟩
  refine ⟨Nat.le_trans (by rw [hh.len]; exact hl q.1) (by decide), fun l hq => ?_⟩
  have e2 := Ext.newB sa.ok (o := .lst vs) hq
  exact kk (.ref l) ⟨upd W'.H l (.lst vs), upd W'.B l (.lst vs)⟩ F' (stp.trans e2.stp0) (sa.ext e2) (by rw [← hR]; exact ⟨l, vs, rfl, upd_same, hh.mono e2.b⟩)
end
/-- a def with state first -/
theorem fnd_state {P : Program} {w : World} {K : PySem.W.Frag} {mg : Str → Option Value} {base : Heap} {x qual : Str} {st : Stmt} {f : Addr} {fd : FuncData} {dvs : List V} {kwd : List (Str × V)} {N ps : List Str} {k : Nat} {O : τ → OP} {G : α → List SP} {fM : α → τ → Option (ρ × τ)} {R : ρ → OP} (F : FunD K x qual (defArgs st) (defBody st) (defScope st) dvs kwd f fd) (Sc : FnScope N ps (defScope st)) (hG : ∀ a, (G a).length + 1 = ps.length) (hn : ps.length ≤ N.length)
    (body : ∀ a s, JB (stcOf P w K mg base N (defScope st) k [0]) (defBody st) (some (O s) :: (shC (G a) ++ nonC (N.length - ps.length))) (fM a s) fun r => .rt (some (O r.2) :: nonC (N.length - 1)) (R r.1)) : FnOk P w K mg base CX0 (k + 1) f fd ps (spS O G fM R) := by
  refine F.ok Sc (fun vs H Q E h => ?_) (fun cdv A outer s H vs Q E hr h => ?_)
  · obtain ⟨a, s, W, F, v0, vr, r, rfl, _, _, _, _, h3, _⟩ := h
    rw [List.length_cons, h3.len, hG]
  · obtain ⟨a, s0, W, Fp, v0, vr, r, rfl, rfl, ok, fp0, h0, h3, h4, kq⟩ := h
    refine ⟨tbOf (stcOf P w K mg base N (defScope st) k [0]) (defBody st), (pbO (in_cx hr)).nox, ?_⟩
    have hl : (v0 :: vr).length = ps.length := by rw [List.length_cons, h3.len]; exact hG a
    have sta : Sta (some (O s0) :: (shC (G a) ++ nonC (N.length - ps.length))) (L2.start N (v0 :: vr)) W Fp := ⟨ok, fp0, by
      unfold L2.start shC nonC
      have := hG a
      simp [h3.len]
      omega, ⟨v0, Fp, [], rfl, (List.append_nil _).symm, h0, by
      unfold L2.start
      rw [hl]
      exact holds_sh h3⟩⟩
    refine body a s0 _ W Fp sta r h4 _ fun v σ' W' F' Fv kp stp sa fp rr => ?_
    obtain ⟨u, F1, F2, b1, b2, b3, b4⟩ := sa.hold
    have e0 : σ'[0]? = some (some v0) := (kp 0 (by simp)).trans rfl
    have eu : u = v0 := by
      rw [List.head?_eq_getElem?] at b1
      rw [e0] at b1
      exact (Option.some.inj (Option.some.inj b1)).symm
    subst eu
    have eF : F2 = [] := by
      have : ∀ (n : Nat) (σ : L2.St) (F : List Addr), Holds (nonC n) σ W' F → F = [] := by
        intro n
        induction n with
        | zero => intro σ F h; exact h
        | succ n ih => intro σ F h; exact ih σ.tail F h
      exact this _ _ _ b4
    subst eF
    rw [List.append_nil] at b2
    subst b2
    exact kq v W' F' Fv stp fp b3 rr
abbrev FnP (K : PySem.W.Frag) (x : Str) (st : Stmt) (f : Addr) (fd : FuncData) : Prop := FunD K x x (defArgs st) (defBody st) (defScope st) [] [] f fd
theorem hets_d {B : Hp} {vs dvs : List V} {ps qs rs : List SP} (h : Hets B vs ps) (hd : Hets B dvs qs) (e : rs = ps ++ qs) : Hets B (vs ++ dvs) rs := e ▸ h.app hd
/-- the law is called with its script -/
theorem law_in {K : PySem.W.Frag} {H : Hp} {a : Addr} {ns : List Int} {fM : List Int × Unit → Option Bool} {E : XK} (hS : SqL K H a (ns.map V.int)) (h : fM (ns, ()) = some true) : spP (fun a : List Int × Unit => [scrS K a.1]) fM (fun b => sh (boolS b)) [.ref a] H (fun v _ => v = .bl true) E :=
  ⟨(ns, ()), ⟨H, H⟩, true, rfl, Ex.refl _, ⟨⟨a, rfl, hS⟩, trivial⟩, h, fun v W' Fv _ _ _ r => r.2⟩
theorem sw_cell {elt : Expr} {gs : List Comprehension} {scope : Scope} {pos py : Pos} {y : Str} {l : Nat} {env : Env} (hy : env.scope.names.lookup y = some .cell) : swapsWith (.ListComp elt gs scope pos) (some (.Name y py)) l env = pure false := by
  have ky : env.kindOf y = some .cell := hy
  unfold swapsWith
  simp only [ky]
  rw [show ((some NameKind.cell == some NameKind.local) : Bool) = false from rfl, Bool.and_false, Bool.false_and, Bool.false_and]
section
variable {S : Stc} {Γ : Ctx}
theorem js_setLcC {x : Str} {py spos pos : Pos} {elt : Expr} {gs : List Comprehension} {scope : Scope} {m : Option α} {R : α → OP} (i : Nat) (nd : S.N.Nodup) (h : JN S (.ListComp elt gs scope pos) Γ m R) (hi : (Γ[i]?).isSome = true := by rfl) (hN : S.N[i]? = some x := by rfl) (hx : S.sc.names.lookup x = some .cell := by rfl) (hp : (S.prot.contains i) = false := by rfl) (hf : S.fn x = true := by rfl) :
    JS S (.Assign [.Name x py] (.ListComp elt gs scope pos) spos) Γ m fun a => .nx (Γ.set i (some (R a))) := fun σ W F sta y hy E k => by
  refine ⟨tAsg (tOf S _) (gName i), fun X hX => ps_set (by rw [hX.N]; exact nd) (by rw [hX.N]; exact hN) (locS (.inr hx) hX) (peO hX) (sw_cell (by rw [hX.sc]; exact hx)) (by rw [hX.fn]; exact .inl hf), h σ W F sta y hy _ fun v W' Fv ext fr fp r => ?_⟩
  obtain ⟨F', s', stp⟩ := sta_set sta ext fr fp r hi
  exact k _ W' F' (Keep.set (ncon hp)) stp s'
end
section
variable {S : Stc} {Γ : τ → Ctx} {s : τ}
theorem js_setLcCE {x : Str} {py spos pos : Pos} {elt : Expr} {gs : List Comprehension} {scope : Scope} {m : Option (α × τ)} {R : α → OP} (i : Nat) (nd : S.N.Nodup) (h : JE S (.ListComp elt gs scope pos) Γ s m R) (hi : ∀ s, ((Γ s)[i]?).isSome = true := by intro _; rfl) (hN : S.N[i]? = some x := by rfl) (hx : S.sc.names.lookup x = some .cell := by rfl) (hp : (S.prot.contains i) = false := by rfl) (hf : S.fn x = true := by rfl) :
    JS S (.Assign [.Name x py] (.ListComp elt gs scope pos) spos) (Γ s) m fun q => .nx ((Γ q.2).set i (some (R q.1))) := fun σ W F sta y hy E k => by
  refine ⟨tAsg (tOf S _) (gName i), fun X hX => ps_set (by rw [hX.N]; exact nd) (by rw [hX.N]; exact hN) (locS (.inr hx) hX) (peO hX) (sw_cell (by rw [hX.sc]; exact hx)) (by rw [hX.fn]; exact .inl hf), h σ W F sta y hy _ fun v W' F' Fv stp sa fp r => ?_⟩
  have hl : i < (Γ y.2).length := by
    have := hi y.2
    cases h : (Γ y.2)[i]? with
    | none => rw [h] at this; cases this
    | some o => exact (List.getElem?_eq_some_iff.mp h).1
  obtain ⟨F2, b1, b2⟩ := sa.put hl r fp
  exact k _ W' F2 (Keep.set (ncon hp)) (stp.perm b2) b1
end
end CC
set_option maxHeartbeats 4000000
/-! Values of any kind. -/
namespace CC
open PySem PySem.Spec L2
open PyProof.Rows hiding St
variable {α β γ δ τ υ ω ρ : Type}
inductive PV where
  | non
  | bl (b : Bool)
  | int (i : Int)
  | str (z : Str)
  | tup (xs : List PV)
  | lst (xs : List PV)
mutual
def anyP (B : Hp) : PV → V → Prop
  | .non, v => v = .non
  | .bl b, v => v = .bl b
  | .int i, v => v = .int i
  | .str z, v => v = .str z
  | .tup xs, v => ∃ a vs, v = .ref a ∧ B a = some (.tup vs) ∧ anysP B xs vs
  | .lst xs, v => ∃ a vs, v = .ref a ∧ B a = some (.lst vs) ∧ anysP B xs vs
def anysP (B : Hp) : List PV → List V → Prop
  | [], [] => True
  | x :: xs, v :: vs => anyP B x v ∧ anysP B xs vs
  | [], _ :: _ => False
  | _ :: _, [] => False
end
mutual
theorem anyP_mono {B B' : Hp} (e : Ex B B') : ∀ (x : PV) (v : V), anyP B x v → anyP B' x v
  | .non, v, h => by unfold anyP at h ⊢; exact h
  | .bl b, v, h => by unfold anyP at h ⊢; exact h
  | .int i, v, h => by unfold anyP at h ⊢; exact h
  | .str z, v, h => by unfold anyP at h ⊢; exact h
  | .tup xs, v, h => by
    unfold anyP at h ⊢
    obtain ⟨a, vs, h1, h2, h3⟩ := h
    exact ⟨a, vs, h1, e a _ h2, anysP_mono e xs vs h3⟩
  | .lst xs, v, h => by
    unfold anyP at h ⊢
    obtain ⟨a, vs, h1, h2, h3⟩ := h
    exact ⟨a, vs, h1, e a _ h2, anysP_mono e xs vs h3⟩
theorem anysP_mono {B B' : Hp} (e : Ex B B') : ∀ (xs : List PV) (vs : List V), anysP B xs vs → anysP B' xs vs
  | [], [], h => by unfold anysP; trivial
  | x :: xs, v :: vs, h => by
    unfold anysP at h ⊢
    exact ⟨anyP_mono e x v h.1, anysP_mono e xs vs h.2⟩
  | [], _ :: _, h => by unfold anysP at h; exact h.elim
  | _ :: _, [], h => by unfold anysP at h; exact h.elim
end
def anyS (x : PV) : SP := ⟨fun B v => anyP B x v, fun h e => anyP_mono e x _ h⟩
theorem anys_each {B : Hp} : ∀ {xs : List PV} {vs : List V}, anysP B xs vs → Each anyS B vs xs
  | [], [], h => trivial
  | x :: xs, v :: vs, h => by
    unfold anysP at h
    exact ⟨h.1, anys_each h.2⟩
  | [], _ :: _, h => by unfold anysP at h; exact h.elim
  | _ :: _, [], h => by unfold anysP at h; exact h.elim
theorem each_anys {B : Hp} : ∀ {xs : List PV} {vs : List V}, Each anyS B vs xs → anysP B xs vs
  | [], [], h => by unfold anysP; trivial
  | x :: xs, v :: vs, h => by
    unfold anysP
    exact ⟨h.1, each_anys h.2⟩
  | [], _ :: _, h => h.elim
  | _ :: _, [], h => h.elim
theorem pv_tup {B : Hp} {xs : List PV} {v : V} (h : (anyS (.tup xs)).P B v) : (tupS anyS xs).P B v := by
  have h' : anyP B (.tup xs) v := h
  unfold anyP at h'
  obtain ⟨a, vs, h1, h2, h3⟩ := h'
  exact ⟨a, vs, h1, h2, anys_each h3⟩
theorem pv_lst {B : Hp} {xs : List PV} {v : V} (h : (anyS (.lst xs)).P B v) : (lstS anyS xs).P B v := by
  have h' : anyP B (.lst xs) v := h
  unfold anyP at h'
  obtain ⟨a, vs, h1, h2, h3⟩ := h'
  exact ⟨a, vs, h1, h2, anys_each h3⟩
/-- a description that is one of any kind -/
structure AnyOf (E : α → SP) (f : α → PV) : Prop where
  go : ∀ B x v, (E x).P B v → (anyS (f x)).P B v
theorem ao_any : AnyOf anyS (fun x => x) := ⟨fun _ _ _ h => h⟩
theorem ao_int : AnyOf intS PV.int := ⟨fun B x v h => by show anyP B (.int x) v; unfold anyP; exact h⟩
theorem ao_bool : AnyOf boolS PV.bl := ⟨fun B x v h => by show anyP B (.bl x) v; unfold anyP; exact h⟩
theorem ao_str : AnyOf strS PV.str := ⟨fun B x v h => by show anyP B (.str x) v; unfold anyP; exact h⟩
theorem ao_non : AnyOf (fun _ : Unit => nonS) (fun _ => PV.non) := ⟨fun B x v h => by show anyP B .non v; unfold anyP; exact h⟩
def optV (f : α → PV) : Option α → PV
  | none => .non
  | some x => f x
theorem ao_opt {E : α → SP} {f : α → PV} (h : AnyOf E f) : AnyOf (optS E) (optV f) := ⟨fun B x v hx => by
  cases x with
  | none => exact ao_non.go B () v hx
  | some x => exact h.go B x v hx⟩
theorem ao_each {E : α → SP} {f : α → PV} (h : AnyOf E f) {B : Hp} : ∀ {xs : List α} {vs : List V}, Each E B vs xs → anysP B (xs.map f) vs
  | [], [], _ => by show anysP B [] []; unfold anysP; trivial
  | x :: xs, v :: vs, e => by
    show anysP B (f x :: xs.map f) (v :: vs)
    unfold anysP
    exact ⟨h.go B x v e.1, ao_each h e.2⟩
  | [], _ :: _, e => e.elim
  | _ :: _, [], e => e.elim
theorem ao_tup {E : α → SP} {f : α → PV} (h : AnyOf E f) : AnyOf (tupS E) (fun xs => PV.tup (xs.map f)) := ⟨fun B x v hx => by
  show anyP B (.tup _) v
  unfold anyP
  obtain ⟨a, vs, h1, h2, h3⟩ := hx
  exact ⟨a, vs, h1, h2, ao_each h h3⟩⟩
theorem ao_lst {E : α → SP} {f : α → PV} (h : AnyOf E f) : AnyOf (lstS E) (fun xs => PV.lst (xs.map f)) := ⟨fun B x v hx => by
  show anyP B (.lst _) v
  unfold anyP
  obtain ⟨a, vs, h1, h2, h3⟩ := hx
  exact ⟨a, vs, h1, h2, ao_each h h3⟩⟩
theorem hts2 {B : Hp} {p q : SP} {vs : List V} (h : Hets B vs [p, q]) : ∃ u v, vs = [u, v] ∧ p.P B u ∧ q.P B v := by
  match vs, h with
  | [u, v], h => exact ⟨u, v, rfl, h.1, h.2.1⟩
theorem hts3 {B : Hp} {p q r : SP} {vs : List V} (h : Hets B vs [p, q, r]) : ∃ u v w, vs = [u, v, w] ∧ p.P B u ∧ q.P B v ∧ r.P B w := by
  match vs, h with
  | [u, v, w], h => exact ⟨u, v, w, rfl, h.1, h.2.1, h.2.2.1⟩
theorem hts4 {B : Hp} {p q r s : SP} {vs : List V} (h : Hets B vs [p, q, r, s]) : ∃ u v w x, vs = [u, v, w, x] ∧ p.P B u ∧ q.P B v ∧ r.P B w ∧ s.P B x := by
  match vs, h with
  | [u, v, w, x], h => exact ⟨u, v, w, x, rfl, h.1, h.2.1, h.2.2.1, h.2.2.2.1⟩
theorem ao_pr {E : α → SP} {G : β → SP} {f : α → PV} {g : β → PV} (h : AnyOf E f) (k : AnyOf G g) : AnyOf (prS E G) (fun p => PV.tup [f p.1, g p.2]) := ⟨fun B x v hx => by
  show anyP B (.tup _) v
  unfold anyP
  obtain ⟨a, vs, h1, h2, h3⟩ := hx
  obtain ⟨u, w, rfl, a1, a2⟩ := hts2 h3
  exact ⟨a, _, h1, h2, each_anys ⟨h.go B _ _ a1, k.go B _ _ a2, trivial⟩⟩⟩
theorem ao_t3 {E : α → SP} {G : β → SP} {I : γ → SP} {f : α → PV} {g : β → PV} {i : γ → PV} (h : AnyOf E f) (k : AnyOf G g) (l : AnyOf I i) : AnyOf (t3S E G I) (fun p => PV.tup [f p.1, g p.2.1, i p.2.2]) := ⟨fun B x v hx => by
  show anyP B (.tup _) v
  unfold anyP
  obtain ⟨a, vs, h1, h2, h3⟩ := hx
  obtain ⟨u, w, y, rfl, a1, a2, a3⟩ := hts3 h3
  exact ⟨a, _, h1, h2, each_anys ⟨h.go B _ _ a1, k.go B _ _ a2, l.go B _ _ a3, trivial⟩⟩⟩
theorem ao_t4 {E : α → SP} {G : β → SP} {I : γ → SP} {J : δ → SP} {f : α → PV} {g : β → PV} {i : γ → PV} {j : δ → PV} (h : AnyOf E f) (k : AnyOf G g) (l : AnyOf I i) (m : AnyOf J j) : AnyOf (t4S E G I J) (fun p => PV.tup [f p.1, g p.2.1, i p.2.2.1, j p.2.2.2]) := ⟨fun B x v hx => by
  show anyP B (.tup _) v
  unfold anyP
  obtain ⟨a, vs, h1, h2, h3⟩ := hx
  obtain ⟨u, w, y, z, rfl, a1, a2, a3, a4⟩ := hts4 h3
  exact ⟨a, _, h1, h2, each_anys ⟨h.go B _ _ a1, k.go B _ _ a2, l.go B _ _ a3, m.go B _ _ a4, trivial⟩⟩⟩
def PV.tyn : PV → String
  | .non => "NoneType"
  | .bl _ => "bool"
  | .int _ => "int"
  | .str _ => "str"
  | .tup _ => "tuple"
  | .lst _ => "list"
def pT : PV → Bool
  | .tup _ => true
  | _ => false
def pL : PV → Bool
  | .lst _ => true
  | _ => false
def pI : PV → Bool
  | .int _ => true
  | .bl _ => true
  | _ => false
def pB : PV → Bool
  | .bl _ => true
  | _ => false
def pS : PV → Bool
  | .str _ => true
  | _ => false
def pN : PV → Bool
  | .non => true
  | _ => false
theorem any_ty {K : PySem.W.Frag} {B H : Hp} (e : Ex B H) : ∀ {x : PV} {v : V}, (anyS x).P B v → TyX K H v (.type x.tyn)
  | .non, v, h => by
    have h' : anyP B .non v := h
    unfold anyP at h'
    subst h'
    exact .base .non
  | .bl b, v, h => by
    have h' : anyP B (.bl b) v := h
    unfold anyP at h'
    subst h'
    exact .base (.bl b)
  | .int i, v, h => by
    have h' : anyP B (.int i) v := h
    unfold anyP at h'
    subst h'
    exact .base (.int i)
  | .str z, v, h => by
    have h' : anyP B (.str z) v := h
    unfold anyP at h'
    subst h'
    exact .base (.str z)
  | .tup xs, v, h => by
    obtain ⟨a, vs, rfl, h2, _⟩ := pv_tup h
    exact .base (.tup (e a _ h2))
  | .lst xs, v, h => by
    obtain ⟨a, vs, rfl, h2, _⟩ := pv_lst h
    exact .base (.lst (e a _ h2))
/-- == of plain values -/
def eqA : PV → PV → Option Bool
  | .non, .non => some true
  | .bl x, .bl y => some (decide (x = y))
  | .int x, .int y => some (decide (x = y))
  | .str x, .str y => some (decide (x = y))
  | _, _ => none
def lenA : PV → Option Int
  | .tup xs => some (xs.length : Int)
  | .lst xs => some (xs.length : Int)
  | _ => none
def ixA (x : PV) (i : Int) : Option PV := match x with
  | .tup xs => atI xs i
  | .lst xs => atI xs i
  | _ => none
def rIxA (K : PySem.W.Frag) : R2 := fun x y H Q => rIxL K x y H Q ∨ rIxT K x y H Q
theorem oIxA {S : Stc} : ∀ X, S.In X → IxR X (rIxA S.K) := fun _ h => h.K ▸ ix_list.or ix_tup
section
variable {S : Stc} {Γ : Ctx} {a b e : Expr} {es : List Expr} {pos : Pos}
theorem jn_any {E : α → SP} {f : α → PV} {m : Option α} (ao : AnyOf E f) (h : JN S e Γ m fun x => sh (E x)) : JN S e Γ (m.bind fun x => some (f x)) fun y => sh (anyS y) :=
  JN.map h fun x W v F r => ⟨r.1, ao.go W.B x v r.2⟩
theorem jn_isiA {p pc : Pos} {c : Str} {cn : String} {m : Option PV} (f : PV → Bool) (hm : S.mg "isinstance" = none) (hmc : S.mg c = none) (h : JN S a Γ m fun x => sh (anyS x)) (hk : (kitB "NoneType" cn, kitB "bool" cn, kitB "int" cn, kitB "str" cn, kitB "tuple" cn, kitB "list" cn) = (some (f .non), some (f (.bl true)), some (f (.int 0)), some (f (.str ⟨#[]⟩)), some (f (.tup [])), some (f (.lst []))) := by decide +kernel) (hf : ∀ b i z xs ys, f (.bl b) = f (.bl true) ∧ f (.int i) = f (.int 0) ∧ f (.str z) = f (.str ⟨#[]⟩) ∧ f (.tup xs) = f (.tup []) ∧ f (.lst ys) = f (.lst []) := by exact fun _ _ _ _ _ => ⟨rfl, rfl, rfl, rfl, rfl⟩) (hg : GlS S "isinstance" := by rfl) (hgc : GlS S c := by rfl) (hvc : bootBuiltins c = some (.type cn) := by decide +kernel) (hn : c ≠ "__name__" := by decide) (hdb : (c == ("__debug__" : Str)) = false := by decide)
    (hs : ∀ env, starEach [a, .Name c pc] env = [(false, eval a env), (false, eval (.Name c pc) env)] := by intro _; rfl) (hs2 : ∀ env, starEach [Expr.Name c pc] env = [(false, eval (.Name c pc) env)] := by intro _; rfl) : JN S (.Call (.Name "isinstance" p) [a, .Name c pc] [] pos) Γ (m.bind fun x => some (f x)) fun z => sh (boolS z) := fun σ W F sta z hz Q kq => by
  have hk' : ∀ x : PV, kitB x.tyn cn = some (f x) := fun x => by
    obtain ⟨k1, k⟩ := Prod.mk.inj hk
    obtain ⟨k2, k⟩ := Prod.mk.inj k
    obtain ⟨k3, k⟩ := Prod.mk.inj k
    obtain ⟨k4, k⟩ := Prod.mk.inj k
    obtain ⟨k5, k6⟩ := Prod.mk.inj k
    cases x with
    | non => exact k1
    | bl b => rw [(hf b 0 ⟨#[]⟩ [] []).1]; exact k2
    | int i => rw [(hf true i ⟨#[]⟩ [] []).2.1]; exact k3
    | str z => rw [(hf true 0 z [] []).2.2.1]; exact k4
    | tup xs => rw [(hf true 0 ⟨#[]⟩ xs []).2.2.2.1]; exact k5
    | lst xs => rw [(hf true 0 ⟨#[]⟩ [] xs).2.2.2.2]; exact k6
  obtain ⟨x, h1, h2⟩ := run1 hz
  cases h2
  refine ⟨tCB (rIsi S.K) (tCons (tOf S a) (tCons (tC (.ty cn)) tNil)), fun X hX => pe_callB (hX.K ▸ call_isi) (hg.gl hX) (mgS hm hX) (by decide +kernel) (pa_cons (peO hX) (pa_cons (pe_bltn (v := .ty cn) (hgc.gl hX) (mgS hmc hX) hvc rfl hn hdb) pa_nil (hs2 _)) ((hs _).trans (by rw [hs2]))) (by decide) (by decide) ((hs _).trans (by rw [hs2])) (by rw [hs2]; rfl), h σ W F sta x h1 _ fun v W' Fv ext _ _ r => ?_⟩
  exact ⟨v, .ty cn, .type x.tyn, .type cn, f x, rfl, .ty cn, any_ty ext.ok r.2, kit_ty (hk' x), (kq.ext ext).val ext.ok rfl⟩
theorem any_non {B : Hp} : ∀ {x : PV} {v : V}, (anyS x).P B v → decide (v = V.non) = pN x
  | .non, v, h => by
    have h' : anyP B .non v := h
    unfold anyP at h'
    subst h'
    rfl
  | .bl b, v, h => by
    have h' : anyP B (.bl b) v := h
    unfold anyP at h'
    subst h'
    rfl
  | .int i, v, h => by
    have h' : anyP B (.int i) v := h
    unfold anyP at h'
    subst h'
    rfl
  | .str z, v, h => by
    have h' : anyP B (.str z) v := h
    unfold anyP at h'
    subst h'
    rfl
  | .tup xs, v, h => by
    obtain ⟨a, vs, rfl, h2, _⟩ := pv_tup h
    rfl
  | .lst xs, v, h => by
    obtain ⟨a, vs, rfl, h2, _⟩ := pv_lst h
    rfl
theorem ov_isNA : OpV (fun x y H Q => y = .non ∧ Q (.bl (decide (x = .non))) H) anyS (fun _ : Unit => nonS) (fun x _ => some (pN x)) fun z => sh (boolS z) := fun W x y v u z ok hx hy e Q k => by
  cases e
  cases hy
  refine ⟨rfl, ?_⟩
  rw [any_non hx]
  exact k.val ok rfl
theorem ov_notNA : OpV (fun x y H Q => y = .non ∧ Q (.bl (!decide (x = .non))) H) anyS (fun _ : Unit => nonS) (fun x _ => some (!pN x)) fun z => sh (boolS z) := fun W x y v u z ok hx hy e Q k => by
  cases e
  cases hy
  refine ⟨rfl, ?_⟩
  rw [any_non hx]
  exact k.val ok rfl
theorem any_flat {B : Hp} : ∀ {x y : PV} {v u : V} {z : Bool}, (anyS x).P B v → (anyS y).P B u → eqA x y = some z → scal v u = true ∧ decide (v = u) = z
  | .non, .non, v, u, z, hx, hy, e => by
    have h1 : anyP B .non v := hx
    have h2 : anyP B .non u := hy
    unfold anyP at h1 h2
    subst h1 h2
    cases e
    exact ⟨rfl, by simp⟩
  | .bl x, .bl y, v, u, z, hx, hy, e => by
    have h1 : anyP B (.bl x) v := hx
    have h2 : anyP B (.bl y) u := hy
    unfold anyP at h1 h2
    subst h1 h2
    cases e
    exact ⟨rfl, by simp⟩
  | .int x, .int y, v, u, z, hx, hy, e => by
    have h1 : anyP B (.int x) v := hx
    have h2 : anyP B (.int y) u := hy
    unfold anyP at h1 h2
    subst h1 h2
    cases e
    exact ⟨rfl, by simp⟩
  | .str x, .str y, v, u, z, hx, hy, e => by
    have h1 : anyP B (.str x) v := hx
    have h2 : anyP B (.str y) u := hy
    unfold anyP at h1 h2
    subst h1 h2
    cases e
    exact ⟨rfl, by simp⟩
theorem ov_eqA : OpV rEq anyS anyS eqA fun z => sh (boolS z) := fun W x y v u z ok hx hy e Q k => by
  obtain ⟨h1, h2⟩ := any_flat hx hy e
  exact ⟨h1, k.val ok (by rw [h2]; rfl)⟩
theorem ov_neA : OpV rNe anyS anyS (fun x y => (eqA x y).bind fun b => some (!b)) fun z => sh (boolS z) := fun W x y v u z ok hx hy e Q k => by
  obtain ⟨b, e1, e2⟩ := run1 e
  cases e2
  obtain ⟨h1, h2⟩ := any_flat hx hy e1
  exact ⟨h1, k.val ok (by rw [h2]; rfl)⟩
theorem iv_any {K : PySem.W.Frag} : IxV (rIxA K) (fun x => sh (anyS x)) intS ixA fun x => sh (anyS x) := fun W x y v u z F1 ok hx hy e Q k => by
  cases x with
  | tup xs => exact .inr (iv_tup W xs y v u z F1 ok ⟨hx.1, pv_tup hx.2⟩ hy e Q k)
  | lst xs => exact .inl (iv_lst W xs y v u z F1 ok ⟨hx.1, pv_lst hx.2⟩ hy e Q k)
  | non => cases e
  | bl _ => cases e
  | int _ => cases e
  | str _ => cases e
theorem len_any {m : Option PV} {p : Pos} (hm : S.mg "len" = none) (h : JN S a Γ m fun x => sh (anyS x)) (hg : GlS S "len" := by rfl) (hs : ∀ env, starEach [a] env = [(false, eval a env)] := by intro _; rfl) : JN S (.Call (.Name "len" p) [a] [] pos) Γ (m.bind fun x => lenA x) fun z => sh (intS z) :=
  jn_b1 (r := fun xs H Q => ∃ p ys, xs = [.ref p] ∧ (SqL S.K H p ys ∨ SqT S.K H p ys) ∧ Q (.int ys.length) H) (f := lenA) (fun X hX => hX.K ▸ call_len_seq) (fun W x v z ok hh e Q k => by
    cases x with
    | tup xs =>
      cases e
      obtain ⟨p, vs, rfl, q2, q3⟩ := pv_tup hh
      exact ⟨p, vs, rfl, .inr (.inl (.inl (ok p _ q2))), k.val ok (by rw [q3.len]; rfl)⟩
    | lst xs =>
      cases e
      obtain ⟨p, vs, rfl, q2, q3⟩ := pv_lst hh
      exact ⟨p, vs, rfl, .inl (.inl (.inl (ok p _ q2))), k.val ok (by rw [q3.len]; rfl)⟩
    | non => cases e
    | bl _ => cases e
    | int _ => cases e
    | str _ => cases e) hm h hg PySem.boot_len (by decide) (by decide) hs
end
/-- nothing is promised yet -/
theorem fn_zero {P : Program} {w : World} {K : PySem.W.Frag} {mg : Str → Option Value} {base : Heap} {x qual : Str} {st : Stmt} {f : Addr} {fd : FuncData} {dvs : List V} {kwd : List (Str × V)} {N ps : List Str} {k : Nat} {G : α → List SP} {R : ρ → OP} (F : FunD K x qual (defArgs st) (defBody st) (defScope st) dvs kwd f fd) (Sc : FnScope N ps (defScope st)) :
    FnOk P w K mg base CX0 (k + 1) f fd ps (spP G (fun _ => none) R) := by
  refine F.ok Sc (fun vs H Q E h => ?_) (fun cdv A outer s H vs Q E hr h => ?_)
  · obtain ⟨a, W, r, _, _, _, h4, _⟩ := h
    cases h4
  · obtain ⟨a, W, r, _, _, _, h4, _⟩ := h
    cases h4
end CC
set_option maxHeartbeats 4000000
/-! Exceptions. -/
namespace CC
open PySem PySem.Spec L2
open PyProof.Rows hiding St
variable {α β γ δ τ υ ω ρ ε : Type}
inductive Res (ε α : Type) where
  | ok (a : α)
  | er (e : ε)
def Res.k (r : Res ε α) (f : α → Option ω) (g : ε → Option ω) : Option ω := match r with
  | .ok a => f a
  | .er e => g e
def XD (Γl : α → Ctx) (Γx : Ctx) (Xp : ε → XP) : Res ε α → Kd
  | .ok a => .nx (Γl a)
  | .er e => .xc Γx (Xp e)
def RX (Δ Δx : Ctx) (R : α → OP) (Xp : ε → XP) : Res ε α → Kd
  | .ok a => .rt Δ (R a)
  | .er e => .xc Δx (Xp e)
def JNX (S : Stc) (e : Expr) (Γ : Ctx) (m : Option (Res ε α)) (R : α → OP) (Xp : ε → XP) : Prop :=
  ∀ σ W F, Sta Γ σ W F → ∀ r, m = some r → ∀ Q : VK, (match r with | .ok x => Got (R x) W Q | .er e => ∀ c d W', Ext W W' → (Xp e).P W'.B c d → S.W c d σ W'.H) → tOf S e σ W.H Q
def spX (G : α → List SP) (fM : α → Option (Res ε ρ)) (R : ρ → OP) (Xp : ε → XP) : Sp := fun vs H Q E => ∃ x W r, W.H = H ∧ Ex W.B W.H ∧ Hets W.B vs (G x) ∧ fM x = some r ∧ (match r with | .ok y => Got (R y) W Q | .er e => ∀ c d W', Ext W W' → (Xp e).P W'.B c d → E c d W'.H)
def tmOf (S : Stc) (e : Expr) : L2.St → Hp → XK → Prop := fun σ H Q => ∃ t : L2.St → Hp → XK → Prop, (∀ X, S.In X → PMk X e t) ∧ t σ H Q
theorem pmO {S : Stc} {X : Cx} {e : Expr} (h : S.In X) : PMk X e (tmOf S e) := fun pins s σ H Q I ⟨_, p, q⟩ => p X h pins s σ H Q I q
/-- an expression that makes an exception -/
def JM (S : Stc) (e : Expr) (Γ : Ctx) (m : Option ε) (Xp : ε → XP) : Prop :=
  ∀ σ W F, Sta Γ σ W F → ∀ x, m = some x → ∀ Q : XK, (∀ c d W', Ext W W' → (Xp x).P W'.B c d → Q c d W'.H) → tmOf S e σ W.H Q
section
variable {S : Stc} {Γ Δ : Ctx} {a b c e : Expr} {es : List Expr} {pos : Pos} {st : Stmt} {rest A B : List Stmt}
theorem jx_of {m : Option α} {R : α → OP} {Xp : ε → XP} (h : JN S e Γ m R) : JNX S e Γ (m.bind fun x => some (Res.ok x)) R Xp := fun σ W F sta r hr Q k => by
  obtain ⟨x, h1, h2⟩ := run1 hr
  cases h2
  exact h σ W F sta x h1 Q k
theorem jx_call {x : Str} {p : Pos} {f : Addr} {fd : FuncData} {ps : List Str} {k : Nat} {G : α → List SP} {fM : α → Option (Res ε ρ)} {R : ρ → OP} {Xp : ε → XP} {m : Option α} (Fn : FnOk S.P S.w S.K S.mg S.base (L2.CX S.P S.w) k f fd ps (spX G fM R Xp)) (hm : S.mg x = some (.ref f)) (kp : PySem.W.keepIn S.K (.ref f) = true) (hb : Binds S.K fd ps [])
    (hk : k ≤ S.k) (ha : JA S (e :: es) Γ m G) (hg : GlS S x := by rfl) (hdb : (x == ("__debug__" : Str)) = false := by decide) (he : ∀ env, starEach (e :: es) env = (false, eval e env) :: starEach es env := by intro _; rfl) (hpl : ∀ env, (backTo pos (starEach es env)).any (·.1) = false := by intro _; rfl) (hcm : S.calm = true := by rfl) :
    JNX S (.Call (.Name x p) (e :: es) [] pos) Γ (m.bind fun y => fM y) R Xp := fun σ W F st z hz Q kk => by
  obtain ⟨y, h1, h2⟩ := run1 hz
  refine ⟨tCallS (spX G fM R Xp) (WE S.W) (taOf S (e :: es)), fun X hX => pe_callS (fnokS Fn hX) ((hX.room hcm).mono hk) (hg.gl hX) (mgS hm hX) (by rw [hX.K]; exact kp) (by rw [hX.K]; exact hb) (fun σ => by rw [← hX.prog, ← hX.w]; exact passAt hX.tk σ) (paO hX) hdb (he _) (hpl _), ha σ W F st y h1 _ fun vs W' ext hh => ?_⟩
  refine ⟨y, W', z, rfl, ext.ok, hh, h2, ?_⟩
  cases z with
  | ok v => exact Got.ext kk ext
  | er u => exact fun c d W2 e2 hp => kk c d W2 (ext.trans e2) hp
theorem jx_if {mc : Option Bool} {ma mb : Option (Res ε α)} {R : α → OP} {Xp : ε → XP} (hc : JT S c Γ mc) (ha : JNX S a Γ ma R Xp) (hb : JNX S b Γ mb R Xp) : JNX S (.IfExp c a b pos) Γ (mc.bind fun t => bif t then ma else mb) R Xp := fun σ W F st z hz Q k => by
  obtain ⟨t, h1, h2⟩ := run1 hz
  refine ⟨tIf (ttOf S c) (tOf S a) (tOf S b), fun X hX => pe_ifExp (ptO hX) (peO hX) (peO hX), hc σ W F st t h1 _ fun W1 e1 => ?_⟩
  cases t with
  | true =>
    refine iteT (ha σ W1 F (st.ext e1) z h2 Q ?_)
    cases z with
    | ok x => exact Got.ext k e1
    | er u => exact fun c d W2 e2 hp => k c d W2 (e1.trans e2) hp
  | false =>
    refine iteF (hb σ W1 F (st.ext e1) z h2 Q ?_)
    cases z with
    | ok x => exact Got.ext k e1
    | er u => exact fun c d W2 e2 hp => k c d W2 (e1.trans e2) hp
def JAX (S : Stc) (es : List Expr) (Γ : Ctx) (m : Option (Res ε α)) (G : α → List SP) (Xp : ε → XP) : Prop :=
  ∀ σ W F, Sta Γ σ W F → ∀ r, m = some r → ∀ Q : List V → Hp → Prop, (match r with | .ok x => ∀ vs W', Ext W W' → Hets W'.B vs (G x) → Q vs W'.H | .er e => ∀ c d W', Ext W W' → (Xp e).P W'.B c d → S.W c d σ W'.H) → taOf S es σ W.H Q
def consX (r : Res ε α) (m : Option (Res ε β)) : Option (Res ε (α × β)) := r.k (fun x => m.bind fun q => q.k (fun y => some (.ok (x, y))) fun e => some (.er e)) fun e => some (.er e)
theorem jax_of {m : Option α} {G : α → List SP} {Xp : ε → XP} (h : JA S es Γ m G) : JAX S es Γ (m.bind fun x => some (Res.ok x)) G Xp := fun σ W F sta r hr Q k => by
  obtain ⟨x, h1, h2⟩ := run1 hr
  cases h2
  exact h σ W F sta x h1 Q k
theorem jax_cons {ma : Option (Res ε α)} {mb : Option (Res ε β)} {E : α → SP} {G : β → List SP} {Xp : ε → XP} (ha : JNX S e Γ ma (fun x => sh (E x)) Xp) (hb : JAX S es Γ mb G Xp) (hs : ∀ env, starEach (e :: es) env = (false, eval e env) :: starEach es env := by intro _; rfl) :
    JAX S (e :: es) Γ (ma.bind fun r => consX r mb) (fun p => E p.1 :: G p.2) Xp := fun σ W F st z hz Q k => by
  obtain ⟨r, h1, h2⟩ := run1 hz
  refine ⟨tCons (tOf S e) (taOf S es), fun X hX => pa_cons (peO hX) (paO hX) (hs _), ha σ W F st r h1 _ ?_⟩
  cases r with
  | er u =>
    cases h2
    exact k
  | ok x =>
    obtain ⟨q, h3, h4⟩ := run1 (f := fun q : Res ε β => q.k (fun y => some (Res.ok (x, y))) fun e => some (.er e)) h2
    intro v W1 F1 e1 _ _ r1
    refine hb σ W1 F (st.ext e1) q h3 _ ?_
    cases q with
    | er u =>
      cases h4
      exact fun c d W2 e2 hp => k c d W2 (e1.trans e2) hp
    | ok y =>
      cases h4
      exact fun vs W2 e2 h => k (v :: vs) W2 (e1.trans e2) ⟨SP.mono _ r1.2 e2.b, h⟩
def mapX (g : α → β) : Res ε α → Res ε β
  | .ok x => .ok (g x)
  | .er e => .er e
theorem jx_tupG {m : Option (Res ε α)} {G : α → List SP} {P : β → SP} {g : α → β} {Xp : ε → XP} {k : Nat} (h : JAX S es Γ m G Xp) (hR : ∀ x, htupS (G x) = P (g x) := by intro _; rfl) (hl : ∀ x, (G x).length ≤ 1000 := by intro _; exact Nat.le_of_ble_eq_true rfl) : JNX S (.Tuple es k pos) Γ (m.bind fun r => some (mapX g r)) (fun y => sh (P y)) Xp := fun σ W F st z hz Q kk => by
  obtain ⟨r, h1, h2⟩ := run1 hz
  cases h2
  refine ⟨tTup (taOf S es), fun X hX => pe_tup (paO hX), h σ W F st r h1 _ ?_⟩
  cases r with
  | er u => exact kk
  | ok x =>
    intro vs W' e hh
    refine ⟨Nat.le_trans (by rw [hh.len]; exact hl x) (by decide), fun q hq => ?_⟩
    have e2 := Ext.newB e.ok (o := .tup vs) hq
    exact kk (.ref q) ⟨upd W'.H q (.tup vs), upd W'.B q (.tup vs)⟩ [] (e.trans e2) (fun _ h => (List.not_mem_nil h).elim) FpOk.nil ⟨rfl, by rw [← hR]; exact ⟨q, vs, rfl, upd_same, hh.mono e2.b⟩⟩
theorem js_setX {x : Str} {pos' : Pos} {m : Option (Res ε α)} {R : α → OP} {Xp : ε → XP} (i : Nat) (nd : S.N.Nodup) (h : JNX S e Γ m R Xp) (hi : (Γ[i]?).isSome = true := by rfl) (hN : S.N[i]? = some x := by rfl) (hx : Loc S.sc x := by first | exact Or.inl rfl | exact Or.inr rfl) (hp : (S.prot.contains i) = false := by rfl)
    (hs : ∀ env, swapsWith e (some (.Name x pos')) pos.line env = pure false := by intro _; rfl) (hf : S.fn x = true ∨ S.sc.names.lookup x = some .local := by first | exact .inl rfl | exact .inr rfl) : JS S (.Assign [.Name x pos'] e pos) Γ m (XD (fun a => Γ.set i (some (R a))) Γ Xp) := fun σ W F sta y hy E k => by
  refine ⟨tAsg (tOf S e) (gName i), fun X hX => ps_set (by rw [hX.N]; exact nd) (by rw [hX.N]; exact hN) (locS hx hX) (peO hX) (hs _) (by rw [hX.fn, hX.sc]; exact hf), h σ W F sta y hy _ ?_⟩
  cases y with
  | ok v =>
    exact fun v W' Fv ext fr fp r => by
      obtain ⟨F', s', stp⟩ := sta_set sta ext fr fp r hi
      exact k _ W' F' (Keep.set (ncon hp)) stp s'
  | er u => exact fun c d W' ext hp => k c d σ W' F Keep.refl ext.stp0 (sta.ext ext) hp
theorem jb_retX {m : Option (Res ε α)} {R : α → OP} {Xp : ε → XP} {Δx : Ctx} (w : Weak Γ Δ) (wx : Weak Γ Δx) (h : JNX S e Γ m R Xp) : JB S (.Return (some e) pos :: rest) Γ m (RX Δ Δx R Xp) := fun σ W F sta y hy E k => by
  refine ⟨tSeq (tRet (tOf S e)) tNever, fun X hX => pss_cons (ps_ret (peO hX)) pss_never, h σ W F sta y hy _ ?_⟩
  cases y with
  | ok v =>
    exact fun v W' Fv ext fr fp r => by
      obtain ⟨F', s', sub⟩ := (sta.ext ext).weak w
      have stp := (ext.stp (F := F) fr).perm (F2 := F' ++ Fv) fun b hb => by
        rcases List.mem_append.mp hb with z | z
        · exact List.mem_append_left _ (sub b z)
        · exact List.mem_append_right _ z
      have fp' := sta.fp.fresh ext fp fr
      have fp2 : FpOk W' (F' ++ Fv) := s'.fp.app fp fun b hb h2 => fp'.disj b (sub b hb) h2
      exact k v σ W' F' Fv Keep.refl stp s' fp2 r
  | er u =>
    exact fun c d W' ext hp => by
      obtain ⟨F', s', sub⟩ := (sta.ext ext).weak wx
      exact k c d σ W' F' Keep.refl (ext.stp0.perm sub) s' hp
theorem jb_consX {ms : Option (Res ε α)} {Γl : α → Ctx} {Xp : ε → XP} {mr : α → Option ω} {D : ω → Kd} (ι : ε → ω) (w : Weak Γ Δ) (h : JS S st Γ ms (XD Γl Γ Xp)) (hι : ∀ e, D (ι e) = .xc Δ (Xp e)) (hr : ∀ x, JB S rest (Γl x) (mr x) D) : JB S (st :: rest) Γ (ms.bind fun r => r.k mr fun e => some (ι e)) D := fun σ W F sta z hz E k => by
  obtain ⟨r, h1, h2⟩ := run1 hz
  refine ⟨tSeq (tsOf S st) (tbOf S rest), fun X hX => pss_cons (psO hX) (pbO hX), ?_⟩
  refine h σ W F sta r h1 { E with nx := tbOf S rest E } ?_
  cases r with
  | ok x => exact fun σ' W' F' kp stp sta' => hr x σ' W' F' sta' z h2 E (k.before kp stp)
  | er u =>
    cases h2
    rw [hι] at k
    exact fun c d σ' W' F' kp stp sta' hp => by
      obtain ⟨F2, s', sub⟩ := sta'.weak w
      exact k c d σ' W' F2 kp (stp.perm sub) s' hp
theorem jb_raise {m : Option ε} {Xp : ε → XP} {D : ω → Kd} (ι : ε → ω) (w : Weak Γ Δ) (h : JM S e Γ m Xp) (hι : ∀ e, D (ι e) = .xc Δ (Xp e)) (hcm : S.calm = true := by rfl) : JB S (.Raise (some e) none pos :: rest) Γ (m.bind fun e => some (ι e)) D := fun σ W F sta z hz E k => by
  obtain ⟨u, h1, h2⟩ := run1 hz
  cases h2
  rw [hι] at k
  refine ⟨tSeq (fun _ σ H => tmOf S e σ H fun cls d H' => S.W cls d σ H') tNever, fun X hX => pss_cons (ps_raise (hX.calm.trans hcm) hX.tk (pmO hX)) pss_never, h σ W F sta u h1 _ fun c d W' ext hp => ?_⟩
  obtain ⟨F', s', sub⟩ := (sta.ext ext).weak w
  exact k c d σ W' F' Keep.refl (ext.stp0.perm sub) s' hp
end
/-- a def that may raise -/
theorem in_cxX {P : Program} {w : World} {K : PySem.W.Frag} {mg : Str → Option Value} {base : Heap} {N : List Str} {st : Stmt} {k : Nat} {prot : List Nat} {qual : Str} {f : Addr} {cdv : Value} {A : Around} {outer : List Env} {s : Shared} {H : Hp} {E : XK} (hr : Room k (A.deeper (envOfC qual (defScope st) s.heap.objs.size f cdv))) :
    ({ stcOf P w K mg base N (defScope st) k prot with W := fun c d _ H => E c d H } : Stc).In (cxOf (L2.CX P w) P w K mg base N qual (defScope st) f cdv A outer s H E) := ⟨rfl, rfl, rfl, rfl, rfl, rfl, rfl, rfl, rfl, fun _ => hr, hr.units, passes_of rfl, takes_of rfl rfl rfl rfl, fun _ => ⟨rfl, rfl⟩, nofun⟩
theorem fnd_pureX {P : Program} {w : World} {K : PySem.W.Frag} {mg : Str → Option Value} {base : Heap} {x qual : Str} {st : Stmt} {f : Addr} {fd : FuncData} {dvs : List V} {kwd : List (Str × V)} {N ps : List Str} {k : Nat} {G : α → List SP} {fM : α → Option (Res ε ρ)} {R : ρ → OP} {Xp : ε → XP} {Δ : Ctx} (F : FunD K x qual (defArgs st) (defBody st) (defScope st) dvs kwd f fd) (Sc : FnScope N ps (defScope st)) (hG : ∀ a, (G a).length = ps.length) (hn : ps.length ≤ N.length)
    (body : ∀ a (wx : WX), JB { stcOf P w K mg base N (defScope st) k [] with W := wx } (defBody st) (shC (G a) ++ nonC (N.length - ps.length)) (fM a) (RX Δ Δ R Xp)) : FnOk P w K mg base (L2.CX P w) (k + 1) f fd ps (spX G fM R Xp) := by
  refine F.ok Sc (fun vs H Q E h => ?_) (fun cdv A outer s H vs Q E hr h => ?_)
  · obtain ⟨a, W, r, _, _, h3, _⟩ := h
    rw [h3.len, hG]
  · obtain ⟨a, W, r, rfl, ok, h3, h4, kq⟩ := h
    refine ⟨tbOf { stcOf P w K mg base N (defScope st) k [] with W := fun c d _ H => E c d H } (defBody st), pbO (in_cxX hr), ?_⟩
    have hl : vs.length = ps.length := h3.len.trans (hG a)
    have sta : Sta (shC (G a) ++ nonC (N.length - ps.length)) (L2.start N vs) W [] := ⟨ok, FpOk.nil, by unfold L2.start shC nonC; simp [h3.len, hG, hl], by unfold L2.start; rw [hl]; exact holds_sh h3⟩
    refine body a _ _ W [] sta r h4 _ ?_
    cases r with
    | ok y =>
      intro v σ' W' F' Fv _ stp _ fp rr
      obtain ⟨ext, fr⟩ := stp.ext
      exact kq v W' Fv ext (fun a ha => fr a (List.mem_append_right _ ha)) fp.right rr
    | er u => exact fun c d σ' W' F' _ stp _ hp => kq c d W' stp.ext.1 hp
/-! ### what is raised -/
/-- an exception of the class at C, without attributes -/
def clsX (C : Addr) : XP := ⟨fun _ c d => c = .ref C ∧ d = none, fun h _ => h⟩
/-- an exception of the class C that holds this under that name (or nothing) -/
def excD (o : Option (Str × SP)) (B : Hp) (d : Option Addr) : Prop := match o with
  | none => d = none
  | some q => ∃ dd w, d = some dd ∧ B dd = some (.xd [(q.1, w)]) ∧ q.2.P B w
theorem excD_mono {o : Option (Str × SP)} {B B' : Hp} {d : Option Addr} (h : excD o B d) (e : Ex B B') : excD o B' d := by
  cases o with
  | none => exact h
  | some q =>
    obtain ⟨dd, w, h1, h2, h3⟩ := h
    exact ⟨dd, w, h1, e _ _ h2, q.2.mono h3 e⟩
def excX (C : Addr) (o : Option (Str × SP)) : XP := ⟨fun B c d => c = .ref C ∧ excD o B d, fun h e => ⟨h.1, excD_mono h.2 e⟩⟩
/-- it, caught -/
def excS (a : Addr) (d : Option Addr) (o : Option (Str × SP)) : SP := ⟨fun B v => v = .ref a ∧ excD o B d, fun h e => ⟨h.1, excD_mono h.2 e⟩⟩
/-- what the top tells of such a class -/
structure ExcF (K : PySem.W.Frag) (C : Addr) : Prop where
  q : PySem.W.excIn K C He.veBase "ValueError.__new__" = true
  kp : PySem.W.keepIn K (.ref C) = true
  s : PySem.W.subIn K (.ref C) (.type "BaseException") = some true
  t : PySem.W.typeIn K (.ref C) = some (.type "type")
theorem pmk_own0 {X : Cx} {C : Addr} {bmB : List Value} {B newId initId : String} {x : Str} {p pos : Pos} (F : ExcBaseFacts B newId initId bmB) (q : PySem.W.excIn X.K C bmB newId = true) (gC : X.mg x = some (.ref C))
    (kC : PySem.W.keepIn X.K (.ref C) = true) (r : Raises X (.ref C)) (hg : Gl X x) (hdb : (x == ("__debug__" : Str)) = false := by decide) :
    PMk X (.Call (.Name x p) [] [] pos) (fun _ H Q => Q (.ref C) none H) := by
  intro pins s σ H Q I h
  refine wpAny_Call_Name_kw (ld_glob I hg gC ?_ hdb)
  refine PySem.W.callWith_K0 I.kIn kC ?_
  show wpAny _ _ (call (.ref C) []) _ _ _
  obtain ⟨bm, N, nm, qn, bs, hdct, sn, sub, ab, col, dd, k0, k1, k2, k3, k5, mN, hC, hN, hni, T⟩ := exc_obj I.kIn q
  refine wpAny_call_exc_subT F T hC hN hni (fun h' e hm => ?_) (by show 0 ≤ sizeLine; exact Nat.zero_le _)
  exact mk_of I hm r h (I.hok.gone hm.new)
section
variable {S : Stc} {Γ Δ : Ctx} {a b c e : Expr} {es : List Expr} {pos : Pos} {st : Stmt} {rest A B : List Stmt}
theorem jm_own0 {x : Str} {p : Pos} {C : Addr} {u : ε} {Xp : ε → XP} (F : ExcF S.K C) (hm : S.mg x = some (.ref C)) (hX : Xp u = clsX C := by rfl) (hg : GlS S x := by rfl) (hdb : (x == ("__debug__" : Str)) = false := by decide) : JM S (.Call (.Name x p) [] [] pos) Γ (some u) Xp := fun σ W F' sta y hy Q k => by
  cases hy
  refine ⟨fun _ H Q => Q (.ref C) none H, fun X hX' => pmk_own0 PySem.F.excBase_ValueError (by rw [hX'.K]; exact F.q) (mgS hm hX') (by rw [hX'.K]; exact F.kp) (raises_own (by rw [hX'.K]; exact F.s) (by rw [hX'.K]; exact F.t)) (hg.gl hX') hdb, k _ _ W (Ext.refl sta.ok) ?_⟩
  rw [hX]
  exact ⟨rfl, rfl⟩
theorem jm_ownA {x : Str} {p : Pos} {C : Addr} {m : Option α} {G : α → List SP} {u : α → ε} {Xp : ε → XP} (F : ExcF S.K C) (hm : S.mg x = some (.ref C)) (ha : JA S (e :: es) Γ m G) (hX : ∀ y, Xp (u y) = clsX C := by intro _; rfl) (hl : ∀ y, (G y).length ≤ 1000 := by intro _; exact Nat.le_of_ble_eq_true rfl) (hg : GlS S x := by rfl) (hdb : (x == ("__debug__" : Str)) = false := by decide)
    (he : ∀ env, starEach (e :: es) env = (false, eval e env) :: starEach es env := by intro _; rfl) (hpl : ∀ env, (backTo pos (starEach es env)).any (·.1) = false := by intro _; rfl) : JM S (.Call (.Name x p) (e :: es) [] pos) Γ (m.bind fun y => some (u y)) Xp := fun σ W F' sta y hy Q k => by
  obtain ⟨y, h1, h2⟩ := run1 hy
  cases h2
  refine ⟨fun σ H Q => taOf S (e :: es) σ H fun vs H1 => vs.length ≤ sizeLine ∧ Q (.ref C) none H1, fun X hX' => pmk_ownA PySem.F.excBase_ValueError (by rw [hX'.K]; exact F.q) (mgS hm hX') (by rw [hX'.K]; exact F.kp) (raises_own (by rw [hX'.K]; exact F.s) (by rw [hX'.K]; exact F.t)) (hg.gl hX') (paO hX') hdb (he _) (hpl _), ha σ W F' sta y h1 _ fun vs W1 ext hh => ⟨?_, k _ _ W1 ext ?_⟩⟩
  · rw [hh.len]
    exact Nat.le_trans (hl y) (by decide)
  · rw [hX]
    exact ⟨rfl, rfl⟩
/-! ### try .. except C: (every exception of the body is C's) -/
/-- the context of an except suite -/
abbrev Stc.sui (S : Stc) : Stc := { S with W := fun _ _ _ _ => False, calm := false, top := false, ex := none }
theorem Stc.In.sui {X : Cx} (h : S.In X) (a : Addr) (pn : List (Addr × Obj)) : S.sui.In (X.suite a pn) :=
  ⟨h.prog, h.w, h.K, h.mg, h.base, h.N, h.sc, h.fn, rfl, nofun, h.un, PassesOwn.never, takes_none, nofun, nofun⟩
theorem Stc.In.tr {X : Cx} (h : S.In X) (hx : S.ex = none) {W : WX} {pn : List (Addr × Obj)} {xe : Value → Shared → Prop} (tk : Takes (X.tr pn xe) W) (pass : PassesOwn (model X.prog X.w) X.A X.env xe) : ({ S with W := W } : Stc).In (X.tr pn xe) :=
  ⟨h.prog, h.w, h.K, h.mg, h.base, h.N, h.sc, h.fn, h.calm, h.room, h.un, pass, tk, h.top, fun a C d z => by have : S.ex = some (a, C, d) := z; rw [hx] at this; cases this⟩
/-- what the handler does with the body's outcome -/
def tryM (m : Option (Res ε ω)) (f : ε → Option ω) : Option ω := m.bind fun r => r.k (fun x => some x) f
def TD (D : ω → Kd) (Γx : Ctx) (Xp : ε → XP) : Res ε ω → Kd
  | .ok x => D x
  | .er e => .xc Γx (Xp e)
theorem js_try {x : Str} {c : Value} {np pos' : Pos} {b₀ : Stmt} {mb : Option (Res ε ω)} {ms : ε → Option ω} {Xp : ε → XP} {D : ω → Kd} (Γx : Ctx) (hb : ∀ wx : WX, JB { S with W := wx } B Γ mb (TD D Γx Xp)) (hs : ∀ u, JB S.sui (b₀ :: A) Γx (ms u) D) (hm : S.mg x = some c) (hx : ∀ u B c' d, (Xp u).P B c' d → PySem.W.exmOne S.K c' c = some true)
    (hx0 : ∀ o, ∀ Γ' R, D o ≠ .xc Γ' R) (hg : GlS S x := by rfl) (hdb : (x == ("__debug__" : Str)) = false := by decide) (htop : S.top = true := by rfl) (hex : S.ex = none := by rfl) : JS S (.Try B [.ExceptHandler (some (.Name x np)) none (b₀ :: A) pos'] [] [] pos) Γ (tryM mb ms) D := fun σ W F sta z hz E k => by
  obtain ⟨r, h1, h2⟩ := run1 hz
  refine ⟨fun D σ H => tbOf { S with W := wOnly S.K c (fun _ _ _ => tbOf S.sui (b₀ :: A)) S.W D } B D σ H, fun X hX => ?_, ?_⟩
  · obtain ⟨t1, t2⟩ := hX.top htop
    have := ps_try_only (pos := pos) (pos' := pos') (np := np) t1 t2 (c := c) (x := x) (b₀ := b₀) (suite := A) (body := B) (ts := fun _ _ _ => tbOf S.sui (b₀ :: A)) (tb := fun W => tbOf { S with W := W } B) ⟨hg.gl hX, hdb, .inl (mgS hm hX)⟩ hX.tk (fun W pn xe tk pass => pbO (hX.tr hex tk pass)) (fun a oe cls d pn _ _ => pbO (hX.sui a _))
    rw [hX.K] at this
    exact this
  · refine hb _ σ W F sta r h1 E ?_
    cases r with
    | ok o =>
      cases h2
      show Post _ S.prot σ W F E (D z)
      generalize hq : D z = q at k
      cases q with
      | nx Γ => exact k
      | bk Γ => exact k
      | ct Γ => exact k
      | rt Γ R => exact k
      | xc Γ R => exact absurd hq (hx0 z Γ R)
    | er u =>
      intro c' d σ' W' F' kp stp sa hp
      refine ⟨true, hx u _ _ _ hp, fun _ a ha => ?_, fun q => nomatch q⟩
      refine hs u σ' W' F' sa z h2 E ?_
      have k' := k.before kp stp
      generalize hq : D z = q at k'
      cases q with
      | nx Γ => exact k'
      | bk Γ => exact k'
      | ct Γ => exact k'
      | rt Γ R => exact k'
      | xc Γ R => exact absurd hq (hx0 z Γ R)
end
end CC
set_option maxHeartbeats 4000000
/-! More operators. -/
namespace CC
open PySem PySem.Spec L2
open PyProof.Rows hiding St
variable {α β γ δ τ υ ω ρ ε : Type}
/-! ### in -/
structure FlatE [DecidableEq α] (E : α → SP) (V : α → V) : Prop where
  eq : ∀ {B x v}, (E x).P B v → v = V x
  flat : ∀ x, flatV (V x) = true
  inj : ∀ x y, eqV (V x) (V y) = decide (x = y)
theorem fl_int : FlatE intS V.int := ⟨fun h => h, fun _ => rfl, fun x y => by show (x == y) = _; rw [Bool.eq_iff_iff]; simp⟩
theorem fl_str : FlatE strS V.str := ⟨fun h => h, fun _ => rfl, fun x y => by show (x == y) = _; rw [Bool.eq_iff_iff]; simp⟩
theorem fl_bool : FlatE boolS V.bl := ⟨fun h => h, fun _ => rfl, fun x y => by show (x == y) = _; rw [Bool.eq_iff_iff]; simp⟩
theorem each_flat [DecidableEq α] {E : α → SP} {V : α → V} (f : FlatE E V) {B : Hp} : ∀ {vs : List L2.V} {xs : List α}, Each E B vs xs → vs = xs.map V
  | [], [], _ => rfl
  | v :: vs, x :: xs, h => by rw [f.eq h.1, each_flat f h.2]; rfl
  | [], _ :: _, h => h.elim
  | _ :: _, [], h => h.elim
theorem flat_all [DecidableEq α] {E : α → SP} {V : α → V} (f : FlatE E V) (xs : List α) : (xs.map V).all flatV = true := by
  rw [List.all_map]
  exact List.all_eq_true.mpr fun x _ => f.flat x
theorem flat_in [DecidableEq α] {E : α → SP} {V : α → V} (f : FlatE E V) (x : α) (xs : List α) : inV (V x) (xs.map V) = decide (x ∈ xs) := by
  unfold inV
  rw [List.any_map]
  have e : ((fun y => eqV y (V x)) ∘ V) = fun y => decide (y = x) := funext fun y => f.inj y x
  rw [e]
  rw [Bool.eq_iff_iff]
  simp
theorem ov_inT [DecidableEq α] {K : PySem.W.Frag} {E : α → SP} {V : α → V} (f : FlatE E V) : OpV (rIn K false) E (tupS E) (fun x xs => some (decide (x ∈ xs))) fun z => sh (boolS z) := fun W x y v u z ok hx hy e Q k => by
  cases e
  obtain ⟨a, vs, rfl, h2, h3⟩ := hy
  have e1 := each_flat f h3
  have e2 := f.eq hx
  subst e1 e2
  exact ⟨a, _, rfl, .inr (.inl (.inl (ok a _ h2))), f.flat x, flat_all f y, k.val ok (by show L2.V.bl (inV (V x) (y.map V)) = _; rw [flat_in f])⟩
theorem ov_inL [DecidableEq α] {K : PySem.W.Frag} {E : α → SP} {V : α → V} (f : FlatE E V) : OpV (rIn K false) E (lstS E) (fun x xs => some (decide (x ∈ xs))) fun z => sh (boolS z) := fun W x y v u z ok hx hy e Q k => by
  cases e
  obtain ⟨a, vs, rfl, h2, h3⟩ := hy
  have e1 := each_flat f h3
  have e2 := f.eq hx
  subst e1 e2
  exact ⟨a, _, rfl, .inl (.inl (.inl (ok a _ h2))), f.flat x, flat_all f y, k.val ok (by show L2.V.bl (inV (V x) (y.map V)) = _; rw [flat_in f])⟩
theorem ov_ninT [DecidableEq α] {K : PySem.W.Frag} {E : α → SP} {V : α → V} (f : FlatE E V) : OpV (rIn K true) E (tupS E) (fun x xs => some (!decide (x ∈ xs))) fun z => sh (boolS z) := fun W x y v u z ok hx hy e Q k => by
  cases e
  obtain ⟨a, vs, rfl, h2, h3⟩ := hy
  have e1 := each_flat f h3
  have e2 := f.eq hx
  subst e1 e2
  exact ⟨a, _, rfl, .inr (.inl (.inl (ok a _ h2))), f.flat x, flat_all f y, k.val ok (by show L2.V.bl (!inV (V x) (y.map V)) = _; rw [flat_in f])⟩
theorem ov_ninL [DecidableEq α] {K : PySem.W.Frag} {E : α → SP} {V : α → V} (f : FlatE E V) : OpV (rIn K true) E (lstS E) (fun x xs => some (!decide (x ∈ xs))) fun z => sh (boolS z) := fun W x y v u z ok hx hy e Q k => by
  cases e
  obtain ⟨a, vs, rfl, h2, h3⟩ := hy
  have e1 := each_flat f h3
  have e2 := f.eq hx
  subst e1 e2
  exact ⟨a, _, rfl, .inl (.inl (.inl (ok a _ h2))), f.flat x, flat_all f y, k.val ok (by show L2.V.bl (!inV (V x) (y.map V)) = _; rw [flat_in f])⟩
theorem oIn {S : Stc} : ∀ X, S.In X → OpR X (compareOp .In) (rIn S.K false) := fun _ h => h.K ▸ op_in_seq
theorem oNotIn {S : Stc} : ∀ X, S.In X → OpR X (compareOp .NotIn) (rIn S.K true) := fun _ h => h.K ▸ op_notIn_seq
/-! ### tuple +, list * -/
theorem oCatT {S : Stc} : ∀ X, S.In X → OpR X (binaryOp .Add) (rCatA S.K) := fun _ h => h.K ▸ op_catA
theorem ov_catT {K : PySem.W.Frag} {E : α → SP} : OpV (rCatA K) (tupS E) (tupS E) catM fun x => sh (tupS E x) := fun W x y v u z ok hx hy e Q k => by
  unfold catM at e
  split at e
  · rename_i hl
    cases e
    obtain ⟨a, vs, rfl, a2, a3⟩ := hx
    obtain ⟨b, us, rfl, b2, b3⟩ := hy
    refine ⟨a, b, vs, us, rfl, rfl, .inl (.inl (ok a _ a2)), .inl (.inl (ok b _ b2)), lim_le (by rw [a3.len, b3.len]; exact hl), fun h => ?_, fun _ h => ?_, fun _ _ => k.newT ok (a3.app b3)⟩
    · have : x = [] := List.eq_nil_of_length_eq_zero (by rw [← a3.len, h]; rfl)
      subst this
      exact k.val ok ⟨b, us, rfl, b2, b3⟩
    · have : y = [] := List.eq_nil_of_length_eq_zero (by rw [← b3.len, h]; rfl)
      subst this
      rw [List.append_nil] at k
      exact k.val ok ⟨a, vs, rfl, a2, a3⟩
  · cases e
def repM (xs : List α) (k : Int) : Option (List α) := if xs.length * k.toNat ≤ LIM ∧ -1000000 ≤ k ∧ k ≤ 1000000 then some (List.replicate k.toNat xs).flatten else none
theorem oRep {S : Stc} : ∀ X, S.In X → OpR X (binaryOp .Mult) rRep := fun _ _ => op_rep
theorem each_rep {E : α → SP} {B : Hp} {vs : List V} {xs : List α} (h : Each E B vs xs) : ∀ n : Nat, Each E B (List.replicate n vs).flatten (List.replicate n xs).flatten
  | 0 => trivial
  | n + 1 => by
    rw [List.replicate_succ, List.replicate_succ, List.flatten_cons, List.flatten_cons]
    exact h.app (each_rep h n)
theorem ov_rep {E : α → SP} : OpV rRep (lstS E) intS repM (lstO fun x => sh (E x)) := fun W x y v u z ok hx hy e Q k => by
  unfold repM at e
  split at e
  · rename_i hl
    cases e
    cases hy
    obtain ⟨a, vs, rfl, a2, a3⟩ := hx
    exact ⟨a, y, vs, rfl, rfl, ok a _ a2, by omega, by omega, lim_le (by rw [a3.len]; exact hl.1), k.newL ok (each_rep a3 _)⟩
  · cases e
/-! ### a < b < c -/
section
variable {S : Stc} {Γ : Ctx} {a b c e : Expr} {pos : Pos}
theorem jn_chain {op op' : CmpOp} {r r' : R2} {E : α → SP} {G : β → SP} {I : γ → SP} {f : α → β → Option Bool} {g : β → γ → Option Bool} {ma : Option α} {mb : Option β} {mc : Option γ} (ho : ∀ X, S.In X → OpR X (compareOp op) r) (hr : OpV r E G f fun z => sh (boolS z)) (ho' : ∀ X, S.In X → OpR X (compareOp op') r') (hr' : OpV r' G I g fun z => sh (boolS z))
    (ha : JN S a Γ ma fun x => sh (E x)) (hb : JN S b Γ mb fun x => sh (G x)) (hc : JN S c Γ mc fun x => sh (I x)) (hm : lastMarks [op, op'] [b, c] = false := by with_unfolding_all rfl) :
    JN S (.Compare a [op, op'] [b, c] pos) Γ (ma.bind fun x => mb.bind fun y => (f x y).bind fun t => bif t then mc.bind fun z => g y z else some false) fun z => sh (boolS z) := fun σ W F st z hz Q k => by
  obtain ⟨x, y, h1, h2, h3⟩ := run2 hz
  obtain ⟨t, h4, h5⟩ := run1 h3
  refine ⟨tChain r r' (tOf S a) (tOf S b) (tOf S c), fun X hX => pe_chain (ho X hX) (ho' X hX) (peO hX) (peO hX) (peO hX) hm, ?_⟩
  refine ha σ W F st x h1 _ fun v W1 F1 e1 _ _ r1 => hb σ W1 F (st.ext e1) y h2 _ fun u W2 F2 e2 _ _ r2 => ?_
  refine hr W2 x y v u t e2.ok (SP.mono _ r1.2 e2.b) r2.2 h4 _ fun w W3 F3 e3 _ _ r3 => ?_
  have e13 := (e1.trans e2).trans e3
  refine ⟨t, r3.2, ?_⟩
  cases t with
  | false =>
    cases h5
    rw [if_neg (fun z => nomatch z)]
    exact (k.ext e13).val e3.ok rfl
  | true =>
    rw [if_pos rfl]
    obtain ⟨q, h6, h7⟩ := run1 (f := fun z => g y z) h5
    refine hc σ W3 F (st.ext e13) q h6 _ fun w' W4 F4 e4 _ _ r4 => ?_
    exact hr' W4 y q u w' z e4.ok (SP.mono _ (SP.mono _ r2.2 e3.b) e4.b) r4.2 h7 Q (k.ext (e13.trans e4))
theorem sum_lst {m : Option (List Int)} {p : Pos} (hm : S.mg "sum" = none) (h : JN S a Γ m fun x => sh (lstS intS x)) (hg : GlS S "sum" := by rfl) (hs : ∀ env, starEach [a] env = [(false, eval a env)] := by intro _; rfl) (hcm : S.calm = true := by rfl) : JN S (.Call (.Name "sum" p) [a] [] pos) Γ (m.bind fun x => some x.sum) fun z => sh (intS z) :=
  jn_b1 (f := fun x : List Int => some x.sum) (fun X hX => hX.K ▸ cr_sum (hX.calm.trans hcm)) (fun W x v z ok hh e Q k => by
    cases e
    obtain ⟨a, vs, rfl, h2, h3⟩ := hh
    have e1 := each_flat fl_int h3
    subst e1
    exact ⟨a, x, rfl, .inl (.inl (ok a _ h2)), k.val ok rfl⟩) hm h hg (by decide +kernel) (by decide) (by decide) hs
end
end CC
set_option maxHeartbeats 4000000
/-! Dicts: keys are ints (texts), values are shared; records with written keys. -/
namespace CC
open PySem PySem.Spec L2
open PyProof.Rows hiding St
variable {α β γ δ τ υ ω ρ ε κ : Type}
structure KeyE (kE : κ → SP) (kk : κ → Key) : Prop where
  eq : ∀ {B k v}, (kE k).P B v → v = kV (kk k)
  inj : ∀ {a b}, kk a = kk b → a = b
theorem ke_int : KeyE intS Sum.inl := ⟨fun h => h, fun h => Sum.inl.inj h⟩
theorem ke_str : KeyE strS Sum.inr := ⟨fun h => h, fun h => Sum.inr.inj h⟩
def DRel (kk : κ → Key) (E : α → SP) (B : Hp) : List (Key × V) → List (κ × α) → Prop
  | [], [] => True
  | p :: r, q :: s => p.1 = kk q.1 ∧ (E q.2).P B p.2 ∧ DRel kk E B r s
  | _, _ => False
theorem DRel.mono {kk : κ → Key} {E : α → SP} {B B' : Hp} (e : Ex B B') : ∀ {r : List (Key × V)} {s : List (κ × α)}, DRel kk E B r s → DRel kk E B' r s
  | [], [], _ => trivial
  | _ :: _, _ :: _, h => ⟨h.1, SP.mono _ h.2.1 e, DRel.mono e h.2.2⟩
  | [], _ :: _, h => h.elim
  | _ :: _, [], h => h.elim
theorem DRel.len {kk : κ → Key} {E : α → SP} {B : Hp} : ∀ {r : List (Key × V)} {s : List (κ × α)}, DRel kk E B r s → r.length = s.length
  | [], [], _ => rfl
  | _ :: _, _ :: _, h => by rw [List.length_cons, List.length_cons, DRel.len h.2.2]
  | [], _ :: _, h => h.elim
  | _ :: _, [], h => h.elim
variable [DecidableEq κ]
def getM : List (κ × α) → κ → Option α
  | [], _ => none
  | q :: s, k => if q.1 = k then some q.2 else getM s k
def putR : List (κ × α) → κ → α → List (κ × α)
  | [], _, _ => []
  | q :: s, k, x => (if q.1 = k then (q.1, x) else q) :: putR s k x
def putM (s : List (κ × α)) (k : κ) (x : α) : List (κ × α) := if (getM s k).isSome then putR s k x else s ++ [(k, x)]
theorem DRel.get {kE : κ → SP} {kk : κ → Key} (K : KeyE kE kk) {E : α → SP} {B : Hp} : ∀ {r : List (Key × V)} {s : List (κ × α)} (k : κ), DRel kk E B r s → match getM s k with | none => valV r (kk k) = none | some x => ∃ v, valV r (kk k) = some v ∧ (E x).P B v
  | [], [], k, _ => rfl
  | p :: r, q :: s, k, h => by
    unfold getM
    by_cases e : q.1 = k
    · rw [if_pos e]
      exact ⟨p.2, valV_pos (h.1.trans (by rw [e])), h.2.1⟩
    · rw [if_neg e]
      have := DRel.get K k h.2.2
      rw [valV_neg (fun z => e (K.inj (h.1.symm.trans z)))]
      exact this
  | [], _ :: _, _, h => h.elim
  | _ :: _, [], _, h => h.elim
theorem DRel.repl {kE : κ → SP} {kk : κ → Key} (K : KeyE kE kk) {E : α → SP} {B : Hp} {k : κ} {x : α} {v : V} (hv : (E x).P B v) : ∀ {r : List (Key × V)} {s : List (κ × α)}, DRel kk E B r s → DRel kk E B (r.map fun kv => if kv.1 = kk k then (kv.1, v) else kv) (putR s k x)
  | [], [], _ => trivial
  | p :: r, q :: s, h => by
    have ih := DRel.repl K (k := k) hv h.2.2
    rw [List.map_cons]
    unfold putR
    by_cases e : q.1 = k
    · rw [if_pos e, if_pos (h.1.trans (by rw [e]))]
      exact ⟨h.1, hv, ih⟩
    · rw [if_neg e, if_neg (fun z => e (K.inj (h.1.symm.trans z)))]
      exact ⟨h.1, h.2.1, ih⟩
  | [], _ :: _, h => h.elim
  | _ :: _, [], h => h.elim
theorem DRel.snoc {kk : κ → Key} {E : α → SP} {B : Hp} {k : κ} {x : α} {v : V} (hv : (E x).P B v) : ∀ {r : List (Key × V)} {s : List (κ × α)}, DRel kk E B r s → DRel kk E B (r ++ [(kk k, v)]) (s ++ [(k, x)])
  | [], [], _ => ⟨rfl, hv, trivial⟩
  | _ :: _, _ :: _, h => ⟨h.1, h.2.1, DRel.snoc hv h.2.2⟩
  | [], _ :: _, h => h.elim
  | _ :: _, [], h => h.elim
theorem DRel.put {kE : κ → SP} {kk : κ → Key} (K : KeyE kE kk) {E : α → SP} {B : Hp} {r : List (Key × V)} {s : List (κ × α)} {k : κ} {x : α} {v : V} (hv : (E x).P B v) (h : DRel kk E B r s) : DRel kk E B (putK r (kk k) v) (putM s k x) := by
  have g := h.get K k
  unfold putK putM
  rw [valV_any]
  cases q : getM s k with
  | none =>
    rw [q] at g
    rw [show (valV r (kk k)).isSome = false by rw [g]; rfl, if_neg (fun z => nomatch z), if_neg (fun z => nomatch z)]
    exact h.snoc hv
  | some y =>
    rw [q] at g
    obtain ⟨u, g, _⟩ := g
    rw [show (valV r (kk k)).isSome = true by rw [g]; rfl, if_pos rfl, if_pos (show (some y).isSome = true from rfl)]
    exact h.repl K hv
omit [DecidableEq κ] in
theorem DRel.nil {kk : κ → Key} {E : α → SP} {B : Hp} : DRel kk E B [] ([] : List (κ × α)) := trivial
/-- a dict that stands still; one of one's own -/
def dkS (kk : κ → Key) (E : α → SP) (s : List (κ × α)) : SP := ⟨fun B v => ∃ a r, v = .ref a ∧ B a = some (.dK r) ∧ DRel kk E B r s, fun h e => by
  obtain ⟨a, r, h1, h2, h3⟩ := h
  exact ⟨a, r, h1, e a _ h2, h3.mono e⟩⟩
def dkO (kk : κ → Key) (E : α → SP) (s : List (κ × α)) : OP := ⟨fun W v F => ∃ a r, v = .ref a ∧ W.H a = some (.dK r) ∧ F = [a] ∧ DRel kk E W.B r s, fun h e k => by
  obtain ⟨a, r, h1, h2, rfl, h4⟩ := h
  exact ⟨a, r, h1, (k a List.mem_cons_self).trans h2, rfl, h4.mono e⟩⟩
omit [DecidableEq κ] in
theorem fz_dk {kk : κ → Key} {E : α → SP} (s : List (κ × α)) : FrzN (dkO kk E s) (dkS kk E s) := ⟨fun {W v F} h nd fr ok => by
  obtain ⟨a, r, rfl, h2, rfl, h4⟩ := h
  have na : W.B a = none := fr a List.mem_cons_self
  refine ⟨upd W.B a (.dK r), Ex.new na, fun b o e => ?_, fun b hb n => ?_, a, r, rfl, upd_same, h4.mono (Ex.new na)⟩
  · by_cases z : b = a
    · subst z
      rw [upd_same] at e
      rw [h2]
      exact e
    · rw [upd_ne z] at e
      exact ok b o e
  · have z : b ≠ a := fun z => n (z ▸ List.mem_cons_self)
    rw [upd_ne z]
    exact hb⟩
section
variable {S : Stc} {Γ : Ctx} {a b e : Expr} {es : List Expr} {pos : Pos}
omit [DecidableEq κ] in
theorem jn_dnew {kk : κ → Key} {E : α → SP} : JN S (.Dict [] [] pos) Γ (some []) (dkO kk E) := fun σ W F sta z hz Q kq => by
  cases hz
  refine ⟨tDNewK, fun X hX => pe_dnewK, fun p hp => ?_⟩
  exact kq (.ref p) ⟨upd W.H p (.dK []), W.B⟩ [p] (Ext.new sta.ok hp) (fun x hx => by rw [List.mem_singleton.mp hx]; exact hp) (fp_one (sta.ok.back hp)) ⟨p, [], rfl, upd_same, rfl, DRel.nil⟩
/-- what is read of either -/
def DRd (kk : κ → Key) (E : α → SP) (R : List (κ × α) → OP) : Prop := ∀ W s v F, Ex W.B W.H → (R s).C W v F → ∃ a r, v = .ref a ∧ W.H a = some (.dK r) ∧ DRel kk E W.B r s
omit [DecidableEq κ] in
theorem rd_dkS {kk : κ → Key} {E : α → SP} : DRd kk E (fun s => sh (dkS kk E s)) := fun W s v F ok h => by
  obtain ⟨_, a, r, h1, h2, h3⟩ := h
  exact ⟨a, r, h1, ok a _ h2, h3⟩
omit [DecidableEq κ] in
theorem rd_dkO {kk : κ → Key} {E : α → SP} : DRd kk E (dkO kk E) := fun W s v F ok h => by
  obtain ⟨a, r, h1, h2, _, h3⟩ := h
  exact ⟨a, r, h1, h2, h3⟩
theorem jn_din {kE : κ → SP} {kk : κ → Key} {E : α → SP} {R : List (κ × α) → OP} {ma : Option κ} {mb : Option (List (κ × α))} (K : KeyE kE kk) (D : DRd kk E R) (ha : JN S a Γ ma fun k => sh (kE k)) (hb : JR S b Γ mb R) (h1 : behindInMarks .In b = false := by first | exact nobehind _ (by decide) (by decide) | rfl) :
    JN S (.Compare a [.In] [b] pos) Γ (ma.bind fun k => mb.bind fun s => some (getM s k).isSome) fun z => sh (boolS z) := fun σ W F st z hz Q kq => by
  obtain ⟨k, s, m1, m2, m3⟩ := run2 hz
  cases m3
  refine ⟨tDIn (tOf S a) (tOf S b), fun X hX => pe_cmp (pc_din (by have := hX.un; omega) (peO hX) (peO hX)) h1, ?_⟩
  refine ha σ W F st k m1 _ fun v W1 F1 e1 _ _ r1 => hb σ W1 F (st.ext e1) s m2 _ fun u W2 e2 ⟨F2, r2, _⟩ => ?_
  obtain ⟨p, r, rfl, h2, h3⟩ := D W2 s u F2 e2.ok r2
  have ek := K.eq r1.2
  subst ek
  refine ⟨p, _, rfl, DGet.k h2, ?_⟩
  have g := h3.get K k
  have e : (valV r (kk k)).isSome = (getM s k).isSome := by
    cases q : getM s k with
    | none => rw [q] at g; rw [g]; rfl
    | some y =>
      rw [q] at g
      obtain ⟨u, g, _⟩ := g
      rw [g]
      rfl
  exact (kq.ext (e1.trans e2)).val e2.ok (by rw [e]; rfl)
theorem jn_dnin {kE : κ → SP} {kk : κ → Key} {E : α → SP} {R : List (κ × α) → OP} {ma : Option κ} {mb : Option (List (κ × α))} (K : KeyE kE kk) (D : DRd kk E R) (ha : JN S a Γ ma fun k => sh (kE k)) (hb : JR S b Γ mb R) (h1 : behindInMarks .NotIn b = false := by first | exact nobehind _ (by decide) (by decide) | rfl) :
    JN S (.Compare a [.NotIn] [b] pos) Γ (ma.bind fun k => mb.bind fun s => some (!(getM s k).isSome)) fun z => sh (boolS z) := fun σ W F st z hz Q kq => by
  obtain ⟨k, s, m1, m2, m3⟩ := run2 hz
  cases m3
  refine ⟨tDNotIn (tOf S a) (tOf S b), fun X hX => pe_cmp (pc_dnotin (by have := hX.un; omega) (peO hX) (peO hX)) h1, ?_⟩
  refine ha σ W F st k m1 _ fun v W1 F1 e1 _ _ r1 => hb σ W1 F (st.ext e1) s m2 _ fun u W2 e2 ⟨F2, r2, _⟩ => ?_
  obtain ⟨p, r, rfl, h2, h3⟩ := D W2 s u F2 e2.ok r2
  have ek := K.eq r1.2
  subst ek
  refine ⟨p, _, rfl, DGet.k h2, ?_⟩
  have g := h3.get K k
  have e : (valV r (kk k)).isSome = (getM s k).isSome := by
    cases q : getM s k with
    | none => rw [q] at g; rw [g]; rfl
    | some y =>
      rw [q] at g
      obtain ⟨u, g, _⟩ := g
      rw [g]
      rfl
  exact (kq.ext (e1.trans e2)).val e2.ok (by rw [e]; rfl)
theorem jn_dget {kE : κ → SP} {kk : κ → Key} {E : α → SP} {R : List (κ × α) → OP} {ma : Option κ} {mb : Option (List (κ × α))} (K : KeyE kE kk) (D : DRd kk E R) (hb : JR S b Γ mb R) (ha : JN S a Γ ma fun k => sh (kE k)) (hs : NoSl a := by exact fun _ _ => rfl) :
    JN S (.Subscript b a pos) Γ (mb.bind fun s => ma.bind fun k => getM s k) fun z => sh (E z) := fun σ W F st z hz Q kq => by
  obtain ⟨s, k, m1, m2, m3⟩ := run2 hz
  refine ⟨tDGet (tOf S b) (tOf S a), fun X hX => pe_dget (by have := hX.un; omega) (peO hX) (peO hX) hs, ?_⟩
  refine hb σ W F st s m1 _ fun u W1 e1 ⟨F2, r2, al⟩ => ha σ W1 F (st.ext e1) k m2 _ fun v W2 F1 e2 _ _ r1 => ?_
  have r2' : (R s).C W2 u F2 := OP.loc _ r2 e2.b fun x hx => e2.h.eq (al x hx)
  obtain ⟨p, r, rfl, h2, h3⟩ := D W2 s u F2 e2.ok r2'
  have ek := K.eq r1.2
  subst ek
  have g := h3.get K k
  rw [m3] at g
  obtain ⟨w, g1, g2⟩ := g
  exact ⟨p, w, rfl, by have := DGet.k (k := kk k) h2; rwa [g1] at this, (kq.ext (e1.trans e2)).val e2.ok g2⟩
omit [DecidableEq κ] in
theorem len_dk {kk : κ → Key} {E : α → SP} {R : List (κ × α) → OP} {m : Option (List (κ × α))} {p : Pos} (D : DRd kk E R) (hm : S.mg "len" = none) (h : JR S a Γ m R) (hg : GlS S "len" := by rfl) (hs : ∀ env, starEach [a] env = [(false, eval a env)] := by intro _; rfl) : JN S (.Call (.Name "len" p) [a] [] pos) Γ (m.bind fun xs => some (xs.length : Int)) fun z => sh (intS z) := fun σ W F sta z hz Q kq => by
  obtain ⟨s, h1, h2⟩ := run1 hz
  cases h2
  refine ⟨tCB (fun xs H Q => ∃ a kvs, xs = [V.ref a] ∧ H a = some (.dK kvs) ∧ Q (.int kvs.length) H) (tCons (tOf S a) tNil), fun X hX => pe_callB call_lenD (hg.gl hX) (mgS hm hX) PySem.boot_len (pa_cons (peO hX) pa_nil (hs _)) (by decide) (by decide) (hs _) rfl, h σ W F sta s h1 _ fun v W' ext ⟨F1, r0, al⟩ => ?_⟩
  obtain ⟨p, r, rfl, h2, h3⟩ := D W' s v F1 ext.ok r0
  exact ⟨p, r, rfl, h2, (kq.ext ext).val ext.ok (by rw [h3.len]; rfl)⟩
def putMO (s : List (κ × α)) (k : κ) (x : α) : Option (List (κ × α)) := if s.length < LIM then some (putM s k x) else none
theorem js_dput {x : Str} {p0 tpos : Pos} {kE : κ → SP} {kk : κ → Key} {E : α → SP} {s : List (κ × α)} {mv : Option α} {mk : Option κ} (i : Nat) (K : KeyE kE kk) (h : JN S e Γ mv fun x => sh (E x)) (hk : JN S b Γ mk fun k => sh (kE k)) (hi : Γ[i]? = some (some (dkO kk E s)) := by rfl) (hN : S.N[i]? = some x := by rfl) (hv : Vis S.sc x := by first | exact Or.inl rfl | exact Or.inr (Or.inl rfl) | exact Or.inr (Or.inr rfl))
    (hd : (x == ("__debug__" : Str)) = false := by decide) (hcd : (x == ("__classdict__" : Str)) = false := by decide) (hs : ∀ env, swapsWith e (some (.Subscript (.Name x p0) b tpos)) pos.line env = pure false := by intro _; rfl) :
    JS S (.Assign [.Subscript (.Name x p0) b tpos] e pos) Γ (mv.bind fun y => mk.bind fun k => putMO s k y) fun s' => .nx (Γ.set i (some (dkO kk E s'))) := fun σ W F sta z hz Ed kq => by
  obtain ⟨y, k, m1, m2, m3⟩ := run2 hz
  unfold putMO at m3
  split at m3
  · rename_i hlen
    cases m3
    refine ⟨sDPut (tVar i) (tOf S b) (tOf S e), fun X hX => ps_dput (by have := hX.un; omega) (pe_var (by rw [hX.N]; exact hN) (visS hv hX) hd hcd) (peO hX) (peO hX) (hs _), ?_⟩
    refine h σ W F sta y m1 _ fun u W1 Fv ext fr fp r => ?_
    obtain ⟨rfl, r⟩ := r
    obtain ⟨v, F1, F2, a1, a2, a3, a4⟩ := (sta.ext ext).hold.at hi
    refine ⟨v, a1, hk σ W1 F (sta.ext ext) k m2 _ fun w W3 Fv3 ext3 _ _ r3 => ?_⟩
    have sta3 := (sta.ext ext).ext ext3
    obtain ⟨v', F1', F2', c1, c2, c3, c4⟩ := sta3.hold.at hi
    have ev : v' = v := by rw [a1] at c1; exact (Option.some.inj (Option.some.inj c1)).symm
    subst ev
    obtain ⟨p, rr, rfl, d2, rfl, d4⟩ := c2
    have ek := K.eq r3.2
    subst ek
    have hB : W3.B p = none := (sta3.fp.perm c3).fr p (by simp)
    refine ⟨p, _, rfl, DPut.k d2 (lim_lt (by rw [d4.len]; exact hlen)), ?_⟩
    have d5 : DRel kk E W3.B (putK rr (kk k) u) (putM s k y) := d4.put K (SP.mono _ r ext3.b)
    have fpA := (sta3.fp.perm c3).left
    obtain ⟨F', s', stp⟩ := sta_own (W' := ⟨upd W3.H p (.dK (putK rr (kk k) u)), W3.B⟩) (F1' := [p]) (o' := dkO kk E (putM s k y)) [] sta3 (by rw [List.append_nil]; exact sta3.fp) c1 c3 c4 (wr_ok ext3.ok hB) rfl (fun a ha _ => upd_ne fun z => ha (z ▸ List.mem_cons_self)) wr_al
      ⟨fpA.nd, fun a ha => wr_al a (fpA.al a ha), fpA.fr⟩ (fun a ha => .inl ha) ⟨p, _, rfl, upd_same, rfl, d5⟩
    rw [List.append_nil] at stp
    exact kq σ _ F' Keep.refl ((ext.stp0.trans ext3.stp0).trans stp) s'
  · cases m3
end
end CC
set_option maxHeartbeats 4000000
/-! Records: a dict of one's own with written keys. -/
namespace CC
open PySem PySem.Spec L2
open PyProof.Rows hiding St
variable {α β γ δ τ υ ω ρ ε κ : Type}
def kvz : List Str → List V → List (Key × V)
  | k :: ks, v :: vs => (.inr k, v) :: kvz ks vs
  | _, _ => []
theorem kvz_len : ∀ {ks : List Str} {vs : List V}, vs.length = ks.length → (kvz ks vs).length = ks.length
  | [], [], _ => rfl
  | k :: ks, v :: vs, h => by
    show (kvz ks vs).length + 1 = _
    rw [kvz_len (by simpa using h)]
    rfl
  | [], _ :: _, h => by simp at h
  | _ :: _, [], h => by simp at h
theorem kvz_val : ∀ {ks : List Str} {vs : List V} {i : Nat} {x : Str} {v : V}, ks.Nodup → ks[i]? = some x → vs[i]? = some v → valV (kvz ks vs) (.inr x) = some v
  | k :: ks, u :: vs, 0, x, v, nd, h1, h2 => by
    have e1 : k = x := by simpa using h1
    have e2 : u = v := by simpa using h2
    subst e1 e2
    exact valV_pos rfl
  | k :: ks, u :: vs, i + 1, x, v, nd, h1, h2 => by
    have h1' : ks[i]? = some x := by simpa using h1
    have ne : ¬ ((.inr k : Key) = .inr x) := fun z => by
      have := Sum.inr.inj z
      exact (List.nodup_cons.mp nd).1 (this ▸ List.mem_of_getElem? h1')
    show valV ((.inr k, u) :: kvz ks vs) (.inr x) = _
    rw [valV_neg ne]
    exact kvz_val (List.nodup_cons.mp nd).2 h1' (by simpa using h2)
  | [], _, _, _, _, _, h1, _ => by simp at h1
  | _ :: _, [], _, _, _, _, _, h2 => by simp at h2
theorem kvz_map : ∀ {ks : List Str} {vs : List V} {x : Str} {u : V}, x ∉ ks → (kvz ks vs).map (fun kv => if kv.1 = (.inr x : Key) then (kv.1, u) else kv) = kvz ks vs
  | [], _, _, _, _ => rfl
  | _ :: _, [], _, _, _ => rfl
  | k :: ks, v :: vs, x, u, h => by
    have ne : ¬ ((.inr k : Key) = .inr x) := fun z => h (by rw [Sum.inr.inj z]; exact List.mem_cons_self)
    show (if (.inr k : Key) = .inr x then _ else _) :: (kvz ks vs).map _ = _
    rw [if_neg ne, kvz_map (fun z => h (List.mem_cons_of_mem _ z))]
    rfl
theorem kvz_put : ∀ {ks : List Str} {vs : List V} {i : Nat} {x : Str} {u : V}, ks.Nodup → vs.length = ks.length → ks[i]? = some x → (kvz ks vs).map (fun kv => if kv.1 = (.inr x : Key) then (kv.1, u) else kv) = kvz ks (vs.set i u)
  | k :: ks, v :: vs, 0, x, u, nd, hl, h1 => by
    have e1 : k = x := by simpa using h1
    subst e1
    show (if (.inr k : Key) = .inr k then _ else _) :: (kvz ks vs).map _ = _
    rw [if_pos rfl, kvz_map (List.nodup_cons.mp nd).1]
    rfl
  | k :: ks, v :: vs, i + 1, x, u, nd, hl, h1 => by
    have h1' : ks[i]? = some x := by simpa using h1
    have ne : ¬ ((.inr k : Key) = .inr x) := fun z => by
      have := Sum.inr.inj z
      exact (List.nodup_cons.mp nd).1 (this ▸ List.mem_of_getElem? h1')
    show (if (.inr k : Key) = .inr x then _ else _) :: (kvz ks vs).map _ = _
    rw [if_neg ne, kvz_put (List.nodup_cons.mp nd).2 (by simpa using hl) h1']
    rfl
  | [], _, _, _, _, _, _, h1 => by simp at h1
  | _ :: _, [], _, _, _, _, hl, _ => by simp at hl
theorem kvz_putK {ks : List Str} {vs : List V} {i : Nat} {x : Str} {u v : V} (nd : ks.Nodup) (hl : vs.length = ks.length) (h1 : ks[i]? = some x) (h2 : vs[i]? = some v) : putK (kvz ks vs) (.inr x) u = kvz ks (vs.set i u) := by
  unfold putK
  rw [valV_any, kvz_val nd h1 h2, if_pos (show (some v).isSome = true from rfl), kvz_put nd hl h1]
theorem kvz_merge : ∀ {ks : List Str} {vs : List V} {acc : List (Key × V)}, ks.Nodup → (∀ k ∈ ks, valV acc (.inr k) = none) → mergeK acc (kvz ks vs) = acc ++ kvz ks vs
  | [], _, acc, _, _ => by
    show acc = acc ++ []
    rw [List.append_nil]
  | _ :: _, [], acc, _, _ => by
    show acc = acc ++ []
    rw [List.append_nil]
  | k :: ks, v :: vs, acc, nd, h => by
    show mergeK (putK acc (.inr k) v) (kvz ks vs) = _
    rw [putK_new v (h k List.mem_cons_self), kvz_merge (List.nodup_cons.mp nd).2 fun j hj => ?_, List.append_assoc]
    · rfl
    · rw [valV_snoc _ _ _ _ (h k List.mem_cons_self), if_neg (fun z => (List.nodup_cons.mp nd).1 (by have e : j = k := Sum.inr.inj z; rw [← e]; exact hj))]
      exact h j (List.mem_cons_of_mem _ hj)
/-- the record with the keys ks -/
def recO (ks : List Str) (ps : List OP) : OP := ⟨fun W v F => ∃ a vs F2, v = .ref a ∧ W.H a = some (.dK (kvz ks vs)) ∧ F = a :: F2 ∧ HetO W vs ps F2, fun h e k => by
  obtain ⟨a, vs, F2, h1, h2, h3, h4⟩ := h
  subst h3
  exact ⟨a, vs, F2, h1, (k a List.mem_cons_self).trans h2, rfl, h4.loc e fun b hb => k b (List.mem_cons_of_mem _ hb)⟩⟩
section
variable {S : Stc} {Γ : Ctx} {a b e : Expr} {es : List Expr} {pos : Pos}
theorem jr_ixD {ks : List Str} {ps : α → List OP} {R : β → OP} {g : α → β} {m : Option α} {x : Str} {kk p'} (k : Nat) (h : JR S a Γ m fun x => recO ks (ps x)) (hk : ∀ x, (ps x)[k]? = some (R (g x)) := by intro _; rfl) (hx : ks[k]? = some x := by rfl) (nd : ks.Nodup := by decide) :
    JR S (.Subscript a (.Constant (.str x) kk p') pos) Γ (m.bind fun x => some (g x)) R := fun σ W F sta z hz Q kq => by
  obtain ⟨y, h1, h2⟩ := run1 hz
  cases h2
  refine ⟨tDGet (tOf S a) (tC (.str x)), fun X hX => pe_dget (by have := hX.un; omega) (peO hX) pe_str (fun _ _ => rfl), h σ W F sta y h1 _ fun v W' ext ⟨F1, r, al⟩ => ?_⟩
  obtain ⟨p, vs, F2, rfl, q2, rfl, q3⟩ := r
  obtain ⟨u, G1, G2, u1, u2, u3, _⟩ := q3.at (hk y)
  have gd : DGet W'.H p (kV (.inr x)) (valV (kvz ks vs) (.inr x)) := DGet.k q2
  rw [kvz_val nd hx u1] at gd
  exact ⟨p, u, rfl, gd, kq u W' ext ⟨G1, u2, fun b hb => al b (List.mem_cons_of_mem _ (u3.mem_iff.mpr (List.mem_append_left _ hb)))⟩⟩
theorem js_setD {x y : Str} {p0 tpos : Pos} {ks : List Str} {ps : List OP} {E : α → SP} {o : OP} {mv : Option α} {kk p'} (i k : Nat) (h : JN S e Γ mv fun x => sh (E x)) (hi : Γ[i]? = some (some (recO ks ps)) := by rfl) (hk : ps[k]? = some o := by rfl) (hx : ks[k]? = some y := by rfl) (hl : ps.length = ks.length := by rfl) (nd : ks.Nodup := by decide) (hle : ks.length ≤ 1000 := by decide) (hN : S.N[i]? = some x := by rfl) (hv : Vis S.sc x := by first | exact Or.inl rfl | exact Or.inr (Or.inl rfl) | exact Or.inr (Or.inr rfl))
    (hd : (x == ("__debug__" : Str)) = false := by decide) (hcd : (x == ("__classdict__" : Str)) = false := by decide) (hs : ∀ env, swapsWith e (some (.Subscript (.Name x p0) (.Constant (.str y) kk p') tpos)) pos.line env = pure false := by intro _; rfl) :
    JS S (.Assign [.Subscript (.Name x p0) (.Constant (.str y) kk p') tpos] e pos) Γ mv fun z => .nx (Γ.set i (some (recO ks (ps.set k (sh (E z)))))) := fun σ W F sta z m1 Ed kq => by
  refine ⟨sDPut (tVar i) (tC (.str y)) (tOf S e), fun X hX => ps_dput (by have := hX.un; omega) (pe_var (by rw [hX.N]; exact hN) (visS hv hX) hd hcd) pe_str (peO hX) (hs _), ?_⟩
  refine h σ W F sta z m1 _ fun u W1 Fv ext fr fp r => ?_
  obtain ⟨rfl, r⟩ := r
  have sta1 := sta.ext ext
  obtain ⟨v, F1, F2, a1, a2, a3, a4⟩ := sta1.hold.at hi
  obtain ⟨p, vs, G2, rfl, b2, rfl, b4⟩ := a2
  have hB : W1.B p = none := (sta1.fp.perm a3).fr p (by simp)
  obtain ⟨w0, K1, K2, k1, k2, k3, k4⟩ := b4.at hk
  have fpA := (sta1.fp.perm a3).left
  have hvl : vs.length = ks.length := by rw [b4.len]; exact hl
  have nP : ∀ a ∈ G2, a ≠ p := fun a ha z => (List.nodup_cons.mp fpA.nd).1 (z ▸ ha)
  obtain ⟨G', g1, g2⟩ := k4 ⟨upd W1.H p (.dK (kvz ks (vs.set k u))), W1.B⟩ (sh (E z)) u [] (fun _ _ h => h) (fun a ha => upd_ne (nP a (k3.mem_iff.mpr (List.mem_append_right _ ha)))) ⟨rfl, r⟩
  have sub : ∀ a ∈ p :: G', a ∈ p :: G2 := fun a ha => by
    rcases List.mem_cons.mp ha with z | z
    · exact z ▸ List.mem_cons_self
    · exact List.mem_cons_of_mem _ (k3.mem_iff.mpr (List.mem_append_right _ (by simpa using g2.mem_iff.mp z)))
  have fpB : FpOk W1 (p :: G') := by
    refine FpOk.left (F' := K1) (fpA.perm ?_)
    refine List.Perm.cons p ?_
    refine k3.trans (List.perm_append_comm.trans (List.Perm.append_right K1 ?_))
    simpa using g2.symm
  refine ⟨.ref p, a1, p, _, rfl, DPut.k (k := .inr y) b2 (by rw [kvz_len hvl]; exact Nat.lt_of_le_of_lt hle (by decide)), ?_⟩
  rw [kvz_putK nd hvl hx k1]
  obtain ⟨F', s', stp⟩ := sta_own (W' := ⟨upd W1.H p (.dK (kvz ks (vs.set k u))), W1.B⟩) (F1' := p :: G') (o' := recO ks (ps.set k (sh (E z)))) [] sta1 (by rw [List.append_nil]; exact sta1.fp) a1 a3 a4 (wr_ok ext.ok hB) rfl (fun a ha _ => upd_ne fun z => ha (z ▸ List.mem_cons_self)) wr_al
    ⟨fpB.nd, fun a ha => wr_al a (fpB.al a ha), fpB.fr⟩ (fun a ha => .inl (sub a ha)) ⟨p, vs.set k u, G', rfl, upd_same, rfl, g1⟩
  rw [List.append_nil] at stp
  exact kq σ _ F' Keep.refl (ext.stp0.trans stp) s'
/-! ### {'a': e, ..} -/
def pz : List Str → List V → List (V × V)
  | k :: ks, v :: vs => (.str k, v) :: pz ks vs
  | _, _ => []
theorem pz_eq : ∀ (ks : List Str) (vs : List V), pz ks vs = (kvz ks vs).map fun kv => (kV kv.1, kv.2)
  | [], _ => rfl
  | _ :: _, [] => rfl
  | k :: ks, v :: vs => by
    show (V.str k, v) :: pz ks vs = (kV (.inr k), v) :: _
    rw [pz_eq ks vs]
    rfl
def JP (S : Stc) (pos : Pos) (ks : List Str) (keys : List (Option Expr)) (vals : List Expr) (Γ : Ctx) (m : Option α) (R : α → List SP) : Prop :=
  ∃ trs, (∀ X, S.In X → PPs X pos keys vals trs) ∧ ∀ σ W F, Sta Γ σ W F → ∀ x, m = some x → ∀ Q : List (V × V) → Hp → Prop, (∀ vs W', Ext W W' → Hets W'.B vs (R x) → Q (pz ks vs) W'.H) → tPairs trs σ W.H Q
theorem jp_nil : JP S pos [] [] [] Γ (some ()) fun _ => [] := ⟨[], fun X _ => pps_nil, fun σ W F sta x hx Q k => k [] W (Ext.refl sta.ok) trivial⟩
theorem jp_cons {x : Str} {kk p'} {ks : List Str} {keys : List (Option Expr)} {vals : List Expr} {ma : Option α} {mb : Option β} {E : α → SP} {G : β → List SP} (ha : JN S e Γ ma fun x => sh (E x)) (hb : JP S pos ks keys vals Γ mb G) :
    JP S pos (x :: ks) (some (.Constant (.str x) kk p') :: keys) (e :: vals) Γ (ma.bind fun x => mb.bind fun y => some (x, y)) fun p => E p.1 :: G p.2 := by
  obtain ⟨trs, t1, t2⟩ := hb
  refine ⟨(tC (.str x), tOf S e) :: trs, fun X hX => pps_cons pe_str (peO hX) (t1 X hX), fun σ W F st z hz Q k => ?_⟩
  obtain ⟨y, w, h1, h2, h3⟩ := run2 hz
  cases h3
  show tOf S e σ W.H _
  refine ha σ W F st y h1 _ fun v W1 F1 e1 _ _ r1 => t2 σ W1 F (st.ext e1) w h2 _ fun vs W2 e2 h => ?_
  exact k (v :: vs) W2 (e1.trans e2) ⟨SP.mono _ r1.2 e2.b, h⟩
theorem HetO.of_hts {W : Wd} : ∀ {vs : List V} {ps : List SP}, Hets W.B vs ps → HetO W vs (ps.map sh) []
  | [], [], _ => rfl
  | _ :: _, _ :: _, h => ⟨[], [], rfl, ⟨rfl, h.1⟩, HetO.of_hts h.2⟩
  | [], _ :: _, h => h.elim
  | _ :: _, [], h => h.elim
theorem jn_rec {ks : List Str} {keys : List (Option Expr)} {vals : List Expr} {m : Option α} {R : α → List SP} {T : β → OP} {g : α → β} (h : JP S pos ks keys vals Γ m R) (hR : ∀ x, recO ks ((R x).map sh) = T (g x) := by intro _; rfl) (nd : ks.Nodup := by decide) (hks : ks.length ≤ 15 := by decide) (hl : ∀ x, (R x).length = ks.length := by intro _; rfl)
    (hall : keys.all (·.isSome) = true := by rfl) (hl2 : keys.length = vals.length := by rfl) (h0 : keys ≠ [] := by exact fun z => nomatch z) (h15 : keys.length ≤ 15 := by exact Nat.le_of_ble_eq_true rfl) : JN S (.Dict keys vals pos) Γ (m.bind fun x => some (g x)) T := fun σ W F sta z hz Q kk => by
  obtain ⟨x, h1, h2⟩ := run1 hz
  cases h2
  obtain ⟨trs, t1, t2⟩ := h
  refine ⟨tDisp trs, fun X hX => pe_disp (t1 X hX) hall hl2 h0 h15, fun p hp => ?_⟩
  have e1 : Ext W ⟨upd W.H p (.dK []), W.B⟩ := Ext.new sta.ok hp
  refine t2 σ ⟨upd W.H p (.dK []), W.B⟩ F (sta.ext e1) x h1 _ fun vs W2 e2 hh => ?_
  have hp2 : W2.H p = some (.dK []) := e2.h p _ upd_same
  have hvl : vs.length = ks.length := hh.len.trans (hl x)
  refine ⟨hp2, kvz ks vs, pz_eq ks vs, by rw [kvz_len hvl]; exact hks, ?_⟩
  rw [kvz_merge nd (fun _ _ => rfl), List.nil_append]
  have hB : W2.B p = none := e2.fr p (by show upd W.H p (.dK []) p ≠ none; rw [upd_same]; exact fun z => nomatch z) (sta.ok.back hp)
  have e3 : Ext W ⟨upd W2.H p (.dK (kvz ks vs)), W2.B⟩ := by
    refine ⟨wr_ok e2.ok hB, fun a o h => ?_, e2.b, fun a h3 h4 => ?_⟩
    · have na : a ≠ p := fun z => by rw [z, hp] at h; cases h
      show upd W2.H p _ a = _
      rw [upd_ne na]
      exact e2.h a o (e1.h a o h)
    · exact (e1.trans e2).fr a h3 h4
  have fp3 : FpOk ⟨upd W2.H p (.dK (kvz ks vs)), W2.B⟩ [p] := by
    refine ⟨List.nodup_cons.mpr ⟨by simp, List.nodup_nil⟩, fun a ha => ?_, fun a ha => ?_⟩
    · rw [List.mem_singleton.mp ha]
      show upd W2.H p _ p ≠ none
      rw [upd_same]
      exact fun z => nomatch z
    · rw [List.mem_singleton.mp ha]
      exact hB
  exact kk (.ref p) _ [p] e3 (fun a ha => by rw [List.mem_singleton.mp ha]; exact hp) fp3
    (by rw [← hR]; exact ⟨p, vs, [], rfl, upd_same, rfl, HetO.of_hts (W := ⟨upd W2.H p (.dK (kvz ks vs)), W2.B⟩) hh⟩)
end
end CC
set_option maxHeartbeats 4000000
/-! Comprehensions of two clauses. -/
namespace CC
open PySem PySem.Spec L2
open PyProof.Rows hiding St
variable {α β γ δ τ υ ω ρ ε κ : Type}
/-- a new list at D is being made: bs of ys is left (W' stood behind the making) -/
def Bld (R : β → OP) (W' : Wd) (D : Addr) (ys bs : List β) (W1 : Wd) : Prop := W'.H D = none ∧ Ext W' W1 ∧ ∃ (acc : List V) (as : List β) (Fa : List Addr), W1.H D = some (.lst acc) ∧ W1.B D = none ∧ as ++ bs = ys ∧ Owns R W1 acc as Fa ∧ FpOk W1 Fa ∧ D ∉ Fa ∧ ∀ a ∈ Fa, W'.H a = none
theorem Bld.start {R : β → OP} {W' : Wd} {D : Addr} {ys : List β} (ok : Ex W'.B W'.H) (hD : W'.H D = none) : Bld R W' D ys ys ⟨upd W'.H D (.lst []), W'.B⟩ :=
  ⟨hD, Ext.new ok hD, [], [], [], upd_same, ok.back hD, rfl, rfl, FpOk.nil, by simp, by simp⟩
theorem Bld.ext {R : β → OP} {W' W1 W2 : Wd} {D : Addr} {ys bs : List β} (b : Bld R W' D ys bs W1) (e : Ext W1 W2) : Bld R W' D ys bs W2 := by
  obtain ⟨hD, e1, acc, as, Fa, d1, d2, c2, o1, o2, o3, o4⟩ := b
  exact ⟨hD, e1.trans e, acc, as, Fa, e.h D _ d1, e.fr D (by rw [d1]; exact fun z => nomatch z) d2, c2, o1.loc e.b fun a ha => e.h.eq (o2.al a ha), o2.ext e, o3, o4⟩
theorem Bld.step {R : β → OP} {W' W1 W4 : Wd} {D : Addr} {ys bs : List β} {y : β} {u : V} {Fu : List Addr} (b : Bld R W' D ys (y :: bs) W1) (hl : ys.length ≤ LIM) (e4 : Ext W1 W4) (fr4 : ∀ a ∈ Fu, W1.H a = none) (fp4 : FpOk W4 Fu) (r4 : (R y).C W4 u Fu) :
    ∃ acc, W4.H D = some (.lst acc) ∧ acc.length < sizeLine ∧ Bld R W' D ys bs ⟨upd W4.H D (.lst (acc ++ [u])), W4.B⟩ := by
  obtain ⟨hD, e1, acc, as, Fa, d1, d2, c2, o1, o2, o3, o4⟩ := b
  have hD4 : W4.H D = some (.lst acc) := e4.h D _ d1
  have hB4 : W4.B D = none := e4.fr D (by rw [d1]; exact fun z => nomatch z) d2
  have ha4 : acc.length < LIM := by
    have h1 := o1.len
    have h2 := congrArg List.length c2
    rw [List.length_append, List.length_cons] at h2
    omega
  refine ⟨acc, hD4, lim_lt ha4, hD, ?_, acc ++ [u], as ++ [y], Fa ++ Fu, upd_same, hB4, by rw [List.append_assoc]; exact c2, ?_, ?_, ?_, ?_⟩
  · have q := e1.trans e4
    refine ⟨fun a o h => ?_, fun a o h => ?_, q.b, q.fr⟩
    · have z : a ≠ D := fun z => by
        rw [z] at h
        rw [show W4.B D = some o from h] at hB4
        cases hB4
      show upd W4.H D _ a = some o
      rw [upd_ne z]
      exact q.ok a o h
    · show upd W4.H D _ a = some o
      rw [upd_ne (ne_of_none h hD)]
      exact q.h a o h
  · have nD : ∀ a ∈ Fa ++ Fu, a ≠ D := fun a ha z => by
      rcases List.mem_append.mp ha with h | h
      · exact o3 (z ▸ h)
      · have q2 := fr4 a h
        rw [z, d1] at q2
        cases q2
    have A1 : Owns R W4 acc as Fa := o1.loc e4.b fun a ha => e4.h.eq (o2.al a ha)
    have A2 : Owns R W4 [u] [y] Fu := ⟨Fu, [], (List.append_nil _).symm, r4, rfl⟩
    have A3 : Owns R W4 (acc ++ [u]) (as ++ [y]) (Fa ++ Fu) := A1.app A2
    refine Owns.loc (W := W4) (W' := ⟨upd W4.H D (.lst (acc ++ [u])), W4.B⟩) (fun _ _ h => h) A3 fun a ha => ?_
    show upd W4.H D (.lst (acc ++ [u])) a = W4.H a
    exact upd_ne (nD a ha)
  · have fpA : FpOk W4 (Fa ++ Fu) := o2.fresh e4 fp4 fr4
    refine ⟨fpA.nd, fun a ha => ?_, fpA.fr⟩
    show upd W4.H D _ a ≠ none
    by_cases z : a = D
    · rw [z, upd_same]
      exact fun z => nomatch z
    · rw [upd_ne z]
      exact fpA.al a ha
  · intro h
    rcases List.mem_append.mp h with h | h
    · exact o3 h
    · have q2 := fr4 D h
      rw [d1] at q2
      cases q2
  · intro a ha
    rcases List.mem_append.mp ha with h | h
    · exact o4 a h
    · exact e1.h.back (fr4 a h)
theorem Sta.via {Γ : Ctx} {σ : L2.St} {W' W3 W5 : Wd} {F F2 : List Addr} (s : Sta Γ σ W3 F2) (sub : ∀ a ∈ F2, a ∈ F) (fp : FpOk W' F) (e3 : Ext W' W3) (e5 : Ext W' W5) (eb : Ex W3.B W5.B) : Sta Γ σ W5 F2 :=
  ⟨e5.ok, ⟨s.fp.nd, fun a h => e5.h.ne (fp.al a (sub a h)), fun a h => e5.fr a (fp.al a (sub a h)) (fp.fr a (sub a h))⟩, s.len, s.hold.loc eb fun a h => (e5.h.eq (fp.al a (sub a h))).trans (e3.h.eq (fp.al a (sub a h))).symm⟩
def comp2Go (t : α → Option Bool) (it : α → Option (List β)) (t1 : α → β → Option Bool) (f : α → β → Option γ) : List α → Option (List γ)
  | [] => some []
  | x :: xs => (t x).bind fun b => bif b then (it x).bind fun zs => (compGo (t1 x) (f x) zs).bind fun ys => (comp2Go t it t1 f xs).bind fun r => some (ys ++ r) else comp2Go t it t1 f xs
def comp2M (t : α → Option Bool) (it : α → Option (List β)) (t1 : α → β → Option Bool) (f : α → β → Option γ) (xs : List α) : Option (List γ) := (comp2Go t it t1 f xs).bind fun ys => if ys.length ≤ LIM then some ys else none
def JC2 (S : Stc) (elt tg iter : Expr) (ifs : List Expr) (tg1 iter1 : Expr) (ifs1 : List Expr) (scope : Scope) (Γ : Ctx) (m : Option α) (R : α → OP) : Prop :=
  ∃ (own : List (Str × Nat)) (vs1 : List Nat), BlkOk S.N S.sc scope own ∧ (∀ i ∈ vs1, i ∈ own.map (·.2)) ∧ ∀ σ W F, Sta Γ σ W F → ∀ x, m = some x → ∀ Q : VK, Got (R x) W Q → tLc2 (tiOf S tg iter) (tgOf (S.blk scope) tg) (ttsOf (S.blk scope) ifs) (tiOf (S.blk scope) tg1 iter1) (tgOf (S.blk scope) tg1) (ttsOf (S.blk scope) ifs1) (tOf (S.blk scope) elt) (own.map (·.2)) vs1 σ W.H Q
section
variable {S : Stc} {Γ : Ctx} {elt tg iter tg1 iter1 : Expr} {ifs ifs1 : List Expr} {pos : Pos}
theorem jn_lc2 {scope : Scope} {m : Option α} {R : α → OP} (nd : S.N.Nodup) (h : JC2 S elt tg iter ifs tg1 iter1 ifs1 scope Γ m R) (hs : ∀ env x, foldedSetIterable iter env x = pure x := by intro _ _; rfl) (hs1 : ∀ env x, foldedSetIterable iter1 env x = pure x := by intro _ _; rfl) (hcm : S.calm = true := by rfl) :
    JN S (.ListComp elt [⟨tg, iter, ifs, 0⟩, ⟨tg1, iter1, ifs1, 0⟩] scope pos) Γ m R := fun σ W F st x hx Q k => by
  obtain ⟨own, vs1, ok, hv, go⟩ := h
  exact ⟨_, fun X hX => pe_lc2 (hX.calm.trans hcm) (by rw [hX.N]; exact nd) (piO hX) (by rw [hX.N, hX.sc]; exact ok) hv (fun s H C cl fp => pgO (hX.blk scope s H C cl fp)) (fun s H C cl fp => ptsO (hX.blk scope s H C cl fp)) (fun s H C cl fp => piO (hX.blk scope s H C cl fp)) (fun s H C cl fp => pgO (hX.blk scope s H C cl fp)) (fun s H C cl fp => ptsO (hX.blk scope s H C cl fp)) (fun s H C cl fp => peO (hX.blk scope s H C cl fp)) (hs _) hs1, go σ W F st x hx Q k⟩
theorem jc2_of {scope : Scope} {mi : Option (List α)} {E : α → SP} {E1 : β → SP} {up : α → Ctx → Ctx} {up1 : β → Ctx → Ctx} {ws ws1 : List Nat} {mt : α → Option Bool} {mi1 : α → Option (List β)} {mt1 : α → β → Option Bool} {me : α → β → Option γ} {R : γ → OP} (own : List (Str × Nat)) (vs1 : List Nat) (hi : JIc S tg iter Γ mi E) (ok : blkC S.N S.sc scope own = true) (hg : JG (S.blk scope) tg E up ws)
    (hw : ∀ i ∈ ws, i ∈ own.map (·.2)) (hl : ∀ i ∈ ws, i < Γ.length) (ht : ∀ x, JTs (S.blk scope) ifs (up x (wipeC Γ (own.map (·.2)))) (mt x)) (hv : ∀ i ∈ vs1, i ∈ own.map (·.2))
    (hi1 : ∀ x, JI (S.blk scope) tg1 iter1 (up x (wipeC Γ (own.map (·.2)))) (mi1 x) E1) (hg1 : JG (S.blk scope) tg1 E1 up1 ws1) (hw1 : ∀ i ∈ ws1, i ∈ vs1) (hl1 : ∀ x, ∀ i ∈ ws1, i < (up x (wipeC Γ (own.map (·.2)))).length)
    (ht1 : ∀ x z, JTs (S.blk scope) ifs1 (up1 z (wipeC (up x (wipeC Γ (own.map (·.2)))) vs1)) (mt1 x z)) (he : ∀ x z, JN (S.blk scope) elt (up1 z (wipeC (up x (wipeC Γ (own.map (·.2)))) vs1)) (me x z) R) :
    JC2 S elt tg iter ifs tg1 iter1 ifs1 scope Γ (mi.bind fun xs => comp2M mt mi1 mt1 me xs) fun ys => lstO R ys := by
  refine ⟨own, vs1, blkOk_by ok, hv, fun σ W F st ys hx Q k => ?_⟩
  obtain ⟨xs, h1, h2⟩ := run1 hx
  unfold comp2M at h2
  obtain ⟨ys', h2, h3⟩ := run1 h2
  split at h3
  · rename_i hlen
    cases h3
    refine hi σ W F st xs h1 _ fun J W' ext iok => fun D hD => ?_
    have st' := st.ext ext
    refine ⟨fun i m H => m = xs.length - i ∧ i ≤ xs.length ∧ ∃ (W1 : Wd) (bs : List γ), W1.H = H ∧ Bld R W' D ys bs W1 ∧ comp2Go mt mi1 mt1 me (xs.drop i) = some bs, ⟨xs.length, by simp, Nat.zero_le _, _, ys, rfl, Bld.start ext.ok hD, by simpa using h2⟩, ?_⟩
    rintro i m H ⟨rfl, hi', W1, bs, rfl, bd, c1⟩
    obtain ⟨iok1, iok2⟩ := iok W1 bd.2.1
    by_cases hlt : i < xs.length
    · obtain ⟨g1, g2⟩ := iok1 i xs[i] (List.getElem?_eq_getElem hlt)
      refine .inr ⟨g1, fun H' => ∃ m', m' < xs.length - i ∧ (m' = xs.length - (i + 1) ∧ i + 1 ≤ xs.length ∧ ∃ (W1 : Wd) (bs : List γ), W1.H = H' ∧ Bld R W' D ys bs W1 ∧ comp2Go mt mi1 mt1 me (xs.drop (i + 1)) = some bs), fun H' h => h, fun v H' y => ?_⟩
      obtain ⟨W2, rfl, e2, p2⟩ := g2 v H' y
      have hDrop : xs.drop i = xs[i] :: xs.drop (i + 1) := List.drop_eq_getElem_cons hlt
      rw [hDrop] at c1
      obtain ⟨b, t1, t2⟩ := run1 (f := fun b => bif b then (mi1 xs[i]).bind fun zs => (compGo (mt1 xs[i]) (me xs[i]) zs).bind fun ys => (comp2Go mt mi1 mt1 me (xs.drop (i + 1))).bind fun r => some (ys ++ r) else comp2Go mt mi1 mt1 me (xs.drop (i + 1))) c1
      obtain ⟨Fw, sw, subw⟩ := (st'.ext (bd.2.1.trans e2)).wipe (own.map (·.2))
      refine hg _ _ W2 Fw xs[i] v sw (fun j hj => by rw [wipeC_len]; exact hl j hj) p2 _ fun σ2 F2 wp _ s2 sub2 => ⟨?_, ?_⟩
      · rw [wp _ hw]
        exact jc_of.wipe_wipe σ (own.map (·.2))
      refine ht xs[i] σ2 W2 F2 s2 b t1 _ fun W3 e3 => ?_
      have bd3 := (bd.ext e2).ext e3
      cases b with
      | false => exact iteF ⟨xs.length - (i + 1), by omega, rfl, hlt, W3, bs, rfl, bd3, t2⟩
      | true =>
        obtain ⟨zs, u1, u2⟩ := run1 (f := fun zs => (compGo (mt1 xs[i]) (me xs[i]) zs).bind fun ys => (comp2Go mt mi1 mt1 me (xs.drop (i + 1))).bind fun r => some (ys ++ r)) t2
        obtain ⟨ys1, r1, u3, u4, u5⟩ := run2 (f := fun ys r => some (ys ++ r)) u2
        cases u5
        refine iteT (hi1 xs[i] σ2 W3 F2 (s2.ext e3) zs u1 _ fun J1 W4 ext4 jok => ?_)
        have s4 := (s2.ext e3).ext ext4
        refine ⟨fun j m H => m = zs.length - j ∧ j ≤ zs.length ∧ ∃ (W5 : Wd) (cs : List γ), W5.H = H ∧ Ex W4.B W5.B ∧ Bld R W' D ys (cs ++ r1) W5 ∧ compGo (mt1 xs[i]) (me xs[i]) (zs.drop j) = some cs, ⟨zs.length, by simp, Nat.zero_le _, W4, ys1, rfl, Ex.refl _, bd3.ext ext4, by simpa using u3⟩, ?_⟩
        rintro j m H ⟨rfl, hj', W5, cs, rfl, e5, bd5, c5⟩
        obtain ⟨jok1, jok2⟩ := jok W5 ⟨bd5.2.1.ok, e5⟩
        by_cases hltj : j < zs.length
        · obtain ⟨q1, q2⟩ := jok1 j zs[j] (List.getElem?_eq_getElem hltj)
          refine .inr ⟨q1, fun H' => ∃ m', m' < zs.length - j ∧ (m' = zs.length - (j + 1) ∧ j + 1 ≤ zs.length ∧ ∃ (W5 : Wd) (cs : List γ), W5.H = H' ∧ Ex W4.B W5.B ∧ Bld R W' D ys (cs ++ r1) W5 ∧ compGo (mt1 xs[i]) (me xs[i]) (zs.drop (j + 1)) = some cs), fun H' h => h, fun v1 H' y1 => ?_⟩
          obtain ⟨W6, rfl, e6, p6⟩ := q2 v1 H' y1
          have hDrop1 : zs.drop j = zs[j] :: zs.drop (j + 1) := List.drop_eq_getElem_cons hltj
          rw [hDrop1] at c5
          obtain ⟨b1, w1, w2⟩ := run1 (f := fun b => bif b then (me xs[i] zs[j]).bind fun y => (compGo (mt1 xs[i]) (me xs[i]) (zs.drop (j + 1))).bind fun ys => some (y :: ys) else compGo (mt1 xs[i]) (me xs[i]) (zs.drop (j + 1))) c5
          obtain ⟨Fv, sv, subv⟩ := ((s4.via (fun a ha => subw a (sub2 a ha)) st'.fp ((bd3.ext ext4).2.1) bd5.2.1 e5).ext e6).wipe vs1
          refine hg1 _ _ W6 Fv zs[j] v1 sv (fun l hl' => by rw [wipeC_len]; exact hl1 xs[i] l hl') p6 _ fun σ3 F3 wp3 _ s3 sub3 => ⟨?_, ?_⟩
          · rw [wp3 _ hw1]
            exact jc_of.wipe_wipe σ2 vs1
          refine ht1 xs[i] zs[j] σ3 W6 F3 s3 b1 w1 _ fun W7 e7 => ?_
          have e57 : Ex W4.B W7.B := e5.trans (e6.trans e7).b
          cases b1 with
          | false => exact iteF ⟨zs.length - (j + 1), by omega, rfl, hltj, W7, cs, rfl, e57, (bd5.ext e6).ext e7, w2⟩
          | true =>
            obtain ⟨y2, cs2, w3, w4, w5⟩ := run2 (f := fun y ys => some (y :: ys)) w2
            cases w5
            refine iteT (he xs[i] zs[j] σ3 W7 F3 (s3.ext e7) y2 w3 _ fun u W8 Fu e8 fr8 fp8 r8 => ?_)
            obtain ⟨acc, a1, a2, a3⟩ := ((bd5.ext e6).ext e7).step hlen e8 fr8 fp8 r8
            exact ⟨acc, a1, a2, zs.length - (j + 1), by omega, rfl, hltj, ⟨upd W8.H D (.lst (acc ++ [u])), W8.B⟩, cs2, rfl, e57.trans e8.b, a3, w4⟩
        · have ej : j = zs.length := by omega
          subst ej
          rw [List.drop_length] at c5
          cases c5
          exact .inl ⟨jok2 _ (Nat.le_refl _), xs.length - (i + 1), by omega, rfl, hlt, W5, r1, rfl, bd5, u4⟩
    · have ei : i = xs.length := by omega
      subst ei
      rw [List.drop_length] at c1
      cases c1
      obtain ⟨hD0, e1, acc, as, Fa, d1, d2, c2, o1, o2, o3, o4⟩ := bd
      rw [List.append_nil] at c2
      subst c2
      refine .inl ⟨iok2 _ (Nat.le_refl _), k (.ref D) W1 (D :: Fa) (ext.trans e1) (fun a ha => ?_) ?_ ⟨D, acc, Fa, rfl, d1, rfl, o1⟩⟩
      · rcases List.mem_cons.mp ha with z | z
        · rw [z]; exact ext.h.back hD
        · exact ext.h.back (o4 a z)
      · refine ⟨List.nodup_cons.mpr ⟨o3, o2.nd⟩, fun a ha => ?_, fun a ha => ?_⟩
        · rcases List.mem_cons.mp ha with z | z
          · rw [z, d1]; exact fun z => nomatch z
          · exact o2.al a z
        · rcases List.mem_cons.mp ha with z | z
          · rw [z]; exact d2
          · exact o2.fr a z
  · cases h3
theorem js_setLc2 {x : Str} {py spos : Pos} {scope : Scope} {m : Option α} {R : α → OP} (i : Nat) (nd : S.N.Nodup) (h : JC2 S elt tg iter ifs tg1 iter1 ifs1 scope Γ m R) (hi : (Γ[i]?).isSome = true := by rfl) (hN : S.N[i]? = some x := by rfl) (hx : S.sc.names.lookup x = some .local := by rfl) (hp : (S.prot.contains i) = false := by rfl)
    (hk : S.sc.kind = .function := by rfl) (hl : (py.line == pos.line) = true := by rfl) (hown : (scope.names.any fun (n, k) => n == x && (k == .local || k == .cell)) = false := by decide +kernel) (hs : ∀ env x, foldedSetIterable iter env x = pure x := by intro _ _; rfl) (hs1 : ∀ env x, foldedSetIterable iter1 env x = pure x := by intro _ _; rfl) (hcm : S.calm = true := by rfl) :
    JS S (.Assign [.Name x py] (.ListComp elt [⟨tg, iter, ifs, 0⟩, ⟨tg1, iter1, ifs1, 0⟩] scope pos) spos) Γ m fun a => .nx (Γ.set i (some (R a))) := fun σ W F sta y hy E k => by
  obtain ⟨own, vs1, ok, hv, go⟩ := h
  refine ⟨_, fun X hX => ps_setLc2 (hX.calm.trans hcm) (by rw [hX.N]; exact nd) (by rw [hX.N]; exact hN) (by rw [hX.sc]; exact hx) (sw_true (by rw [hX.sc]; exact hk) (by rw [hX.sc]; exact hx) hl hown) (piO hX) (by rw [hX.N, hX.sc]; exact ok) hv (fun s H C cl fp => pgO (hX.blk scope s H C cl fp)) (fun s H C cl fp => ptsO (hX.blk scope s H C cl fp)) (fun s H C cl fp => piO (hX.blk scope s H C cl fp)) (fun s H C cl fp => pgO (hX.blk scope s H C cl fp)) (fun s H C cl fp => ptsO (hX.blk scope s H C cl fp)) (fun s H C cl fp => peO (hX.blk scope s H C cl fp)) (hs _) hs1, go σ W F sta y hy _ fun v W' Fv ext fr fp r => ?_⟩
  obtain ⟨F', s', stp⟩ := sta_set sta ext fr fp r hi
  exact k _ W' F' (Keep.set (ncon hp)) stp s'
end
end CC
set_option maxHeartbeats 4000000
/-! Calls with keywords in any order; an item of a list in a list taken out; written numbers of the module. -/
namespace CC
open PySem PySem.Spec L2
open PyProof.Rows hiding St
variable {α β γ δ τ υ ω ρ ε κ : Type}
def sel (l : List α) (is : List Nat) : List α := is.filterMap fun i => l[i]?
theorem vals_sel {vs : List V} {us : List Value} (h : Vals vs us) : ∀ is : List Nat, Vals (sel vs is) (sel us is)
  | [] => .nil
  | i :: is => by
    have ih := vals_sel h is
    unfold sel at ih ⊢
    cases e : vs[i]? with
    | none =>
      have e2 : us[i]? = none := by
        rw [List.getElem?_eq_none_iff] at e ⊢
        rw [← h.length]
        exact e
      rw [List.filterMap_cons_none e, List.filterMap_cons_none e2]
      exact ih
    | some v =>
      obtain ⟨u, e2, r⟩ := h.get e
      rw [List.filterMap_cons_some e, List.filterMap_cons_some e2]
      exact .cons r ih
theorem hets_sel {B : Hp} {vs : List V} {ps : List SP} (h : Hets B vs ps) : ∀ is : List Nat, Hets B (sel vs is) (sel ps is)
  | [] => trivial
  | i :: is => by
    have ih := hets_sel h is
    unfold sel at ih ⊢
    cases e : ps[i]? with
    | none =>
      have e2 : vs[i]? = none := by
        rw [List.getElem?_eq_none_iff] at e ⊢
        rw [h.len]
        exact e
      rw [List.filterMap_cons_none e, List.filterMap_cons_none e2]
      exact ih
    | some p =>
      obtain ⟨v, e2, r⟩ := h.get e
      rw [List.filterMap_cons_some e, List.filterMap_cons_some e2]
      exact ⟨r, ih⟩
theorem hets_s {B : Hp} {vs zs : List V} {ps qs rs : List SP} {is : List Nat} (h : Hets B vs ps) (k : Hets B zs qs) (e : rs = sel (ps ++ qs) is) : Hets B (sel (vs ++ zs) is) rs := e ▸ hets_sel (h.app k) is
theorem kb_plain {K : PySem.W.Frag} {x qual : Str} {params : Arguments} {body : List Stmt} {scope : Scope} {f : Addr} {fd : FuncData} {ps : List Str} (F : FunD K x qual params body scope [] [] f fd) (n : Nat) (ks : List Str) (is : List Nat)
    (h : ∀ (kV doc pm : Value) (an : Option Addr) (cdv ct : Value) (us ws : List Value), us.length = n → ws.length = ks.length → bindArgs (PySem.W.fnOf x qual params body scope .none kV doc pm an cdv ct) ⟨us, ks.zip ws⟩ = pure (ps.zip (sel (us ++ ws) is))) :
    KBn K fd ps n ks (fun us ws => sel (us ++ ws) is) (fun vs zs => sel (vs ++ zs) is) := by
  obtain ⟨oc, od, dV, kV, doc, pm, an, cdv, ct, osl, rfl, lk, hcd, hD, hK⟩ := F.ex
  rcases hD with ⟨_, rfl⟩ | ⟨e, _⟩
  · exact ⟨fun s us ws X l1 l2 => .of_eq (h kV doc pm an cdv ct us ws l1 l2), fun r q => vals_sel (r.append q) is⟩
  · exact absurd rfl e
section
variable {S : Stc} {Γ : Ctx} {a b e : Expr} {es : List Expr} {pos : Pos}
/-- a number of the module -/
theorem jn_gint {x : Str} {i : Int} (hm : ∃ t, S.mg x = some (.int i t)) (hg : GlS S x := by rfl) (hd : (x == ("__debug__" : Str)) = false := by decide) : JN S (.Name x pos) Γ (some i) fun z => sh (intS z) := by
  obtain ⟨t, hm⟩ := hm
  exact jn_c (v := .int i) (E := intS) (a := i) (fun X hX => pe_glob (hg.gl hX) (mgS hm hX) ⟨t, rfl⟩ hd) fun _ => rfl
end
section
variable {S : Stc} {Γ : τ → Ctx} {s : τ} {tg iter : Expr} {pos : Pos} {A : List Stmt}
theorem js_forE1 {mi : Option (List α × τ)} {E : α → SP} {up : α → Ctx → Ctx} {ws : List Nat} {Γl : υ → Ctx} {T : ρ → Kd} {f : α → υ → Option (Out υ ρ)} (s0 : τ → υ) (hi : JIE S tg iter Γ s mi E) (hg : JG S tg E up ws) (w : ∀ s, Weak (Γ s) (Γl (s0 s))) (hl : ∀ s, ∀ i ∈ ws, i < (Γl s).length)
    (hT : ∀ r, NoNx (T r) ∧ (∀ Δ, T r ≠ .bk Δ) ∧ ∀ Δ, T r ≠ .ct Δ) (hb : ∀ x s, JB S A (up x (Γl s)) (f x s) (DL Γl T)) (hs : ∀ env x, foldedSetIterable iter env x = pure x := by intro _ _; rfl) (hcm : S.calm = true := by rfl) :
    JS S (.For tg iter A [] pos) (Γ s) (mi.bind fun q => loopGo f q.1 (s0 q.2)) (DF Γl T) := fun σ W F sta z hz Ed k => by
  obtain ⟨q, h1, h2⟩ := run1 hz
  exact js_forE (Γl := fun _ => Γl) (f := fun _ => f) s0 hi hg w (fun _ => hl) hT (fun _ => hb) hs hcm σ W F sta (q.2, z) (by rw [h1]; show (loopGo f q.1 (s0 q.2)).bind _ = _; rw [h2]; rfl) Ed k
theorem js_forSE {mi : Option (List α × τ)} {E : α → SP} {up : α → Ctx → Ctx} {ws : List Nat} {Γl : υ → Ctx} {f : α → υ → Option υ} (s0 : τ → υ) (hi : JIE S tg iter Γ s mi E) (hg : JG S tg E up ws) (w : ∀ s, Weak (Γ s) (Γl (s0 s))) (hl : ∀ s, ∀ i ∈ ws, i < (Γl s).length)
    (hb : ∀ x s, JB S A (up x (Γl s)) (f x s) fun s' => .nx (Γl s')) (hs : ∀ env x, foldedSetIterable iter env x = pure x := by intro _ _; rfl) (hcm : S.calm = true := by rfl) :
    JS S (.For tg iter A [] pos) (Γ s) (mi.bind fun q => foldGo f q.1 (s0 q.2)) fun s => .nx (Γl s) := fun σ W F sta z hz Ed k => by
  have h := js_forE1 (ρ := Empty) (T := fun r => nomatch r) (f := fun x s => (f x s).bind fun s' => some (.nx s')) (pos := pos) s0 hi hg w hl (fun r => nomatch r) (fun x s => JB.map (hb x s) fun s' => rfl) hs hcm
  refine h σ W F sta (.nx z) ?_ Ed k
  obtain ⟨q, h1, h2⟩ := run1 hz
  rw [h1]
  show loopGo _ q.1 (s0 q.2) = _
  rw [loopGo_fold, h2]
  rfl
end
/-- a def with state first that falls off its end -/
theorem fnd_stateN {P : Program} {w : World} {K : PySem.W.Frag} {mg : Str → Option Value} {base : Heap} {x qual : Str} {st : Stmt} {f : Addr} {fd : FuncData} {dvs : List V} {kwd : List (Str × V)} {N ps : List Str} {k : Nat} {O : τ → OP} {G : α → List SP} {fM : α → τ → Option τ} (F : FunD K x qual (defArgs st) (defBody st) (defScope st) dvs kwd f fd) (Sc : FnScope N ps (defScope st)) (hG : ∀ a, (G a).length + 1 = ps.length) (hn : ps.length ≤ N.length)
    (body : ∀ a s, JB (stcOf P w K mg base N (defScope st) k [0]) (defBody st) (some (O s) :: (shC (G a) ++ nonC (N.length - ps.length))) (fM a s) fun r => .nx (some (O r) :: nonC (N.length - 1))) : FnOk P w K mg base CX0 (k + 1) f fd ps (spS O G (fun a s => (fM a s).bind fun s' => some ((), s')) fun _ => sh nonS) := by
  refine F.ok Sc (fun vs H Q E h => ?_) (fun cdv A outer s H vs Q E hr h => ?_)
  · obtain ⟨a, s, W, F, v0, vr, r, rfl, _, _, _, _, h3, _⟩ := h
    rw [List.length_cons, h3.len, hG]
  · obtain ⟨a, s0, W, Fp, v0, vr, r, rfl, rfl, ok, fp0, h0, h3, h4, kq⟩ := h
    obtain ⟨s1, h5, h6⟩ := run1 h4
    cases h6
    refine ⟨tbOf (stcOf P w K mg base N (defScope st) k [0]) (defBody st), (pbO (in_cx hr)).nox, ?_⟩
    have hl : (v0 :: vr).length = ps.length := by rw [List.length_cons, h3.len]; exact hG a
    have sta : Sta (some (O s0) :: (shC (G a) ++ nonC (N.length - ps.length))) (L2.start N (v0 :: vr)) W Fp := ⟨ok, fp0, by
      unfold L2.start shC nonC
      have := hG a
      simp [h3.len]
      omega, ⟨v0, Fp, [], rfl, (List.append_nil _).symm, h0, by
      unfold L2.start
      rw [hl]
      exact holds_sh h3⟩⟩
    refine body a s0 _ W Fp sta s1 h5 _ fun σ' W' F' kp stp sa => ?_
    obtain ⟨u, F1, F2, b1, b2, b3, b4⟩ := sa.hold
    have e0 : σ'[0]? = some (some v0) := (kp 0 (by simp)).trans rfl
    have eu : u = v0 := by
      rw [List.head?_eq_getElem?] at b1
      rw [e0] at b1
      exact (Option.some.inj (Option.some.inj b1)).symm
    subst eu
    have eF : F2 = [] := by
      have : ∀ (n : Nat) (σ : L2.St) (F : List Addr), Holds (nonC n) σ W' F → F = [] := by
        intro n
        induction n with
        | zero => intro σ F h; exact h
        | succ n ih => intro σ F h; exact ih σ.tail F h
      exact this _ _ _ b4
    subst eF
    rw [List.append_nil] at b2
    subst b2
    exact kq .non W' F' [] (by rw [List.append_nil]; exact stp) (by rw [List.append_nil]; exact sa.fp) b3 ⟨rfl, rfl⟩
end CC
set_option maxHeartbeats 4000000
/-! A row of a table under a second name. -/
namespace CC
open PySem PySem.Spec L2
open PyProof.Rows hiding St
variable {α β γ δ τ υ ω ρ ε κ : Type}
/-- all owned but the k-th -/
def OwnsBut (E : α → OP) (W : Wd) : Nat → List V → List α → List Addr → Prop
  | 0, _ :: vs, _ :: xs, F => Owns E W vs xs F
  | k + 1, v :: vs, x :: xs, F => ∃ F1 F2, F = F1 ++ F2 ∧ (E x).C W v F1 ∧ OwnsBut E W k vs xs F2
  | _, [], _, _ => False
  | _, _ :: _, [], _ => False
theorem OwnsBut.loc {E : α → OP} {W W' : Wd} (e : Ex W.B W'.B) : ∀ {k : Nat} {vs : List V} {xs : List α} {F : List Addr}, OwnsBut E W k vs xs F → (∀ a ∈ F, W'.H a = W.H a) → OwnsBut E W' k vs xs F
  | 0, _ :: _, _ :: _, _, h, q => Owns.loc e h q
  | k + 1, _ :: _, _ :: _, _, ⟨F1, F2, h1, h2, h3⟩, q => by
    subst h1
    exact ⟨F1, F2, rfl, OP.loc _ h2 e fun a ha => q a (List.mem_append_left _ ha), OwnsBut.loc e h3 fun a ha => q a (List.mem_append_right _ ha)⟩
  | 0, [], _, _, h, _ => h.elim
  | 0, _ :: _, [], _, h, _ => h.elim
  | _ + 1, [], _, _, h, _ => h.elim
  | _ + 1, _ :: _, [], _, h, _ => h.elim
theorem Owns.split {E : α → OP} {W : Wd} : ∀ {k : Nat} {vs : List V} {xs : List α} {F : List Addr} {x : α}, Owns E W vs xs F → xs[k]? = some x → ∃ v F1 F2, vs[k]? = some v ∧ (E x).C W v F1 ∧ OwnsBut E W k vs xs F2 ∧ F.Perm (F1 ++ F2)
  | 0, v :: vs, y :: xs, _, x, ⟨F1, F2, h1, h2, h3⟩, e => by
    have : y = x := by simpa using e
    subst this h1
    exact ⟨v, F1, F2, rfl, h2, h3, .refl _⟩
  | k + 1, v :: vs, y :: xs, _, x, ⟨F1, F2, h1, h2, h3⟩, e => by
    subst h1
    obtain ⟨u, G1, G2, a1, a2, a3, a4⟩ := Owns.split (k := k) h3 (by simpa using e)
    refine ⟨u, G1, F1 ++ G2, by simpa using a1, a2, ⟨F1, G2, rfl, h2, a3⟩, ?_⟩
    refine (List.Perm.append_left F1 a4).trans ?_
    rw [← List.append_assoc, ← List.append_assoc]
    exact List.Perm.append_right G2 List.perm_append_comm
  | _, [], [], _, _, _, e => by simp at e
  | _, [], _ :: _, _, _, h, _ => h.elim
  | _, _ :: _, [], _, _, h, _ => h.elim
theorem OwnsBut.join {E : α → OP} {W : Wd} : ∀ {k : Nat} {vs : List V} {xs : List α} {F2 F1 : List Addr} {x : α} {v : V}, OwnsBut E W k vs xs F2 → vs[k]? = some v → (E x).C W v F1 → ∃ F, Owns E W vs (xs.set k x) F ∧ F.Perm (F1 ++ F2)
  | 0, u :: vs, y :: xs, F2, F1, x, v, h, e, c => by
    have : u = v := by simpa using e
    subst this
    exact ⟨F1 ++ F2, ⟨F1, F2, rfl, c, h⟩, .refl _⟩
  | k + 1, u :: vs, y :: xs, _, F1, x, v, ⟨G1, G2, h1, h2, h3⟩, e, c => by
    subst h1
    obtain ⟨F, a1, a2⟩ := OwnsBut.join (k := k) h3 (by simpa using e) c
    refine ⟨G1 ++ F, ⟨G1, F, rfl, h2, a1⟩, ?_⟩
    refine (List.Perm.append_left G1 a2).trans ?_
    rw [← List.append_assoc, ← List.append_assoc]
    exact List.Perm.append_right G2 List.perm_append_comm
  | 0, [], _, _, _, _, _, h, _, _ => h.elim
  | 0, _ :: _, [], _, _, _, _, h, _, _ => h.elim
  | _ + 1, [], _, _, _, _, _, h, _, _ => h.elim
  | _ + 1, _ :: _, [], _, _, _, _, h, _, _ => h.elim
/-- a list whose k-th item, the value v, is lent -/
def holeO (E : α → OP) (k : Nat) (v : V) (xs : List α) : OP := ⟨fun W w F => ∃ a vs F2, w = .ref a ∧ W.H a = some (.lst vs) ∧ F = a :: F2 ∧ vs[k]? = some v ∧ OwnsBut E W k vs xs F2, fun h e q => by
  obtain ⟨a, vs, F2, h1, h2, h3, h4, h5⟩ := h
  subst h3
  exact ⟨a, vs, F2, h1, (q a List.mem_cons_self).trans h2, rfl, h4, h5.loc e fun b hb => q b (List.mem_cons_of_mem _ hb)⟩⟩
/-- the very value v -/
def alO (o : OP) (v : V) : OP := ⟨fun W w F => w = v ∧ o.C W w F, fun h e q => ⟨h.1, o.loc h.2 e q⟩⟩
section
variable {S : Stc} {Γ Δ : Ctx} {a b e : Expr} {pos : Pos} {st : Stmt} {rest : List Stmt}
theorem jb_borrow {r u : Str} {p0 p1 p2 : Pos} {E : α → OP} {xss : List α} {mi : Option Int} {mr : Nat → α → Option ω} {D : ω → Kd} (iu ir : Nat) (nd : S.N.Nodup) (ha : JN S a Γ mi fun z => sh (intS z)) (hi : Γ[iu]? = some (some (lstO E xss)) := by rfl) (hir : (Γ[ir]?).isSome = true := by rfl) (hne : iu ≠ ir := by decide)
    (hr : ∀ k v x, JB S rest ((Γ.set iu (some (holeO E k v xss))).set ir (some (alO (E x) v))) (mr k x) D)
    (hNu : S.N[iu]? = some u := by rfl) (hNr : S.N[ir]? = some r := by rfl) (hvu : Vis S.sc u := by first | exact Or.inl rfl | exact Or.inr (Or.inl rfl) | exact Or.inr (Or.inr rfl)) (hd : (u == ("__debug__" : Str)) = false := by decide) (hcd : (u == ("__classdict__" : Str)) = false := by decide)
    (hx : Loc S.sc r := by first | exact Or.inl rfl | exact Or.inr rfl) (hp : (S.prot.contains ir) = false := by rfl) (hpl : PlainIx a := by exact fun _ _ => rfl)
    (hs : ∀ env, swapsWith (.Subscript (.Name u p0) a p1) (some (.Name r p2)) pos.line env = pure false := by intro _; rfl) (hf : S.fn r = true ∨ S.sc.names.lookup r = some .local := by first | exact .inl rfl | exact .inr rfl) :
    JB S (.Assign [.Name r p2] (.Subscript (.Name u p0) a p1) pos :: rest) Γ (mi.bind fun i => (ixN xss.length i).bind fun k => (xss[k]?).bind fun x => mr k x) D := fun σ W F sta z hz Ed kk => by
  obtain ⟨i, m1, m2⟩ := run1 hz
  obtain ⟨k, m3, m4⟩ := run1 (f := fun k => (xss[k]?).bind fun x => mr k x) m2
  obtain ⟨x, m5, m6⟩ := run1 (f := fun x => mr k x) m4
  refine ⟨tSeq (tAsg (tOp (rIxL S.K) (tVar iu) (tOf S a)) (gName ir)) (tbOf S rest), fun X hX => pss_cons (ps_set (by rw [hX.N]; exact nd) (by rw [hX.N]; exact hNr) (locS hx hX) (pe_ix (oIxL X hX) (pe_var (by rw [hX.N]; exact hNu) (visS hvu hX) hd hcd) (peO hX) hpl) (hs _) (by rw [hX.fn, hX.sc]; exact hf)) (pbO hX), ?_⟩
  obtain ⟨w, F1, F2, a1, _⟩ := sta.hold.at hi
  refine ⟨w, a1, ha σ W F sta i m1 _ fun t W1 _ ext _ _ r1 => ?_⟩
  obtain ⟨_, rfl⟩ := r1
  have sta1 := sta.ext ext
  obtain ⟨w', F1', F2', c1, c2, c3, c4⟩ := sta1.hold.at hi
  have ev : w' = w := by rw [a1] at c1; exact (Option.some.inj (Option.some.inj c1)).symm
  subst ev
  obtain ⟨p, vs, G2, rfl, d2, rfl, d4⟩ := c2
  obtain ⟨v, K1, K2, k1, k2, k3, k4⟩ := d4.split m5
  refine ⟨p, vs, i, v, rfl, rfl, .inl (.inl d2), by unfold atI; rw [d4.len, m3]; exact k1, ?_⟩
  obtain ⟨F', s1, s2⟩ := c4 W1 (holeO E k v xss) (.ref p) (p :: K2) (fun _ _ h => h) (fun _ _ => rfl) ⟨p, vs, K2, rfl, d2, rfl, k1, k3⟩
  rw [set_back c1] at s1
  have pF : F.Perm (F' ++ K1) := by
    refine c3.trans ?_
    refine List.Perm.trans ?_ (List.Perm.append_right K1 s2.symm)
    have e1 : ((p :: G2) ++ F2').Perm ((p :: (K2 ++ K1)) ++ F2') := List.Perm.append_right F2' (List.Perm.cons p (k4.trans List.perm_append_comm))
    refine e1.trans ?_
    show ((p :: K2) ++ K1 ++ F2').Perm _
    rw [List.append_assoc, List.append_assoc]
    exact List.Perm.append_left _ List.perm_append_comm
  have fpA := sta1.fp.perm pF
  have s3 : Sta (Γ.set iu (some (holeO E k v xss))) σ W1 F' := ⟨sta1.ok, fpA.left, by rw [List.length_set]; exact sta1.len, s1⟩
  have hlt : ir < (Γ.set iu (some (holeO E k v xss))).length := by
    rw [List.length_set]
    cases h : Γ[ir]? with
    | none => rw [h] at hir; cases hir
    | some o => exact (List.getElem?_eq_some_iff.mp h).1
  obtain ⟨F3, s4, sub⟩ := s3.put (o := alO (E x) v) (v := v) (F1 := K1) hlt ⟨rfl, k2⟩ fpA
  refine hr k v x (σ.set ir (some v)) W1 F3 s4 z m6 Ed (kk.before (Keep.set (ncon hp)) ?_)
  exact ext.stp0.perm fun b hb => pF.mem_iff.mpr (sub b hb)
/-- what was lent is put back -/
theorem jb_back {sts : List Stmt} {E : α → OP} {xss : List α} {m : Option ω} {D : ω → Kd} {k : Nat} {v : V} {x : α} (iu ir : Nat) (hu : (Γ.set ir none)[iu]? = some (some (holeO E k v xss))) (hr : Γ[ir]? = some (some (alO (E x) v))) (h : JB S sts ((Γ.set ir none).set iu (some (lstO E (xss.set k x)))) m D) : JB S sts Γ m D := fun σ W F sta z hz Ed kk => by
  obtain ⟨w, F1, F2, a1, ⟨rfl, a2⟩, a3, s1⟩ := sta_take sta hr
  obtain ⟨w', G1, G2, c1, c2, c3, c4⟩ := s1.hold.at hu
  obtain ⟨p, vs, H2, rfl, d2, rfl, d3, d4⟩ := c2
  obtain ⟨F', e1, e2⟩ := d4.join d3 a2
  obtain ⟨F3, t1, t2⟩ := c4 W (lstO E (xss.set k x)) (.ref p) (p :: F') (fun _ _ h => h) (fun _ _ => rfl) ⟨p, vs, F', rfl, d2, rfl, e1⟩
  rw [set_back c1] at t1
  have pF : F.Perm F3 := by
    refine a3.trans ?_
    refine (List.Perm.append_right F1 c3).trans ?_
    refine List.Perm.trans ?_ t2.symm
    show ((p :: H2) ++ G2 ++ F1).Perm (p :: F' ++ G2)
    refine List.Perm.trans ?_ (List.Perm.append_right G2 (List.Perm.cons p e2.symm))
    show (p :: (H2 ++ G2 ++ F1)).Perm (p :: ((F1 ++ H2) ++ G2))
    refine List.Perm.cons p ?_
    rw [List.append_assoc F1]
    exact List.perm_append_comm
  have s2 : Sta ((Γ.set ir none).set iu (some (lstO E (xss.set k x)))) σ W F3 := ⟨sta.ok, sta.fp.perm pF, by rw [List.length_set]; exact s1.len, t1⟩
  exact h σ W F3 s2 z hz Ed (kk.before Keep.refl ((Stp.refl sta.ok).perm fun b hb => pF.mem_iff.mpr hb))
theorem ts_prot {D : Ends} {σ : L2.St} {H : Hp} {p : List Nat} (h : tsOf { S with prot := p } st D σ H) : tsOf S st D σ H := by
  obtain ⟨t, h1, h2⟩ := h
  exact ⟨t, fun X hX => h1 X ⟨hX.prog, hX.w, hX.K, hX.mg, hX.base, hX.N, hX.sc, hX.fn, hX.calm, hX.room, hX.un, hX.pass, hX.tk, hX.top, hX.ex⟩, h2⟩
/-- a statement over the lent row, which keeps its slot -/
theorem js_al {o : OP} {o' : τ → OP} {v : V} {m : Option τ} {Γl : τ → Ctx} (ir : Nat) (hi : Γ[ir]? = some (some (alO o v))) (h : JS { S with prot := ir :: S.prot } st (Γ.set ir (some o)) m fun x => .nx (Γl x)) (hl : ∀ x, (Γl x)[ir]? = some (some (o' x)) := by intro _; rfl) :
    JS S st Γ m fun x => .nx ((Γl x).set ir (some (alO (o' x) v))) := fun σ W F sta z hz Ed kk => by
  obtain ⟨w, F1, F2, a1, ⟨rfl, a2⟩, a3, a4⟩ := sta.hold.at hi
  obtain ⟨F', s1, s2⟩ := a4 W o w F1 (fun _ _ h => h) (fun _ _ => rfl) a2
  rw [set_back a1] at s1
  have pF : F.Perm F' := a3.trans s2.symm
  have sta' : Sta (Γ.set ir (some o)) σ W F' := ⟨sta.ok, sta.fp.perm pF, by rw [List.length_set]; exact sta.len, s1⟩
  refine ts_prot (p := ir :: S.prot) (h σ W F' sta' z hz Ed fun σ' W' F2' kp stp sa => ?_)
  have e0 : σ'[ir]? = some (some w) := (kp ir List.mem_cons_self).trans a1
  obtain ⟨w', G1, G2, b1, b2, b3, b4⟩ := sa.hold.at (hl z)
  have ew : w' = w := by rw [e0] at b1; exact (Option.some.inj (Option.some.inj b1)).symm
  subst ew
  obtain ⟨F3, t1, t2⟩ := b4 W' (alO (o' z) w') w' G1 (fun _ _ h => h) (fun _ _ => rfl) ⟨rfl, b2⟩
  rw [set_back b1] at t1
  have pG : F2'.Perm F3 := b3.trans t2.symm
  refine kk σ' W' F3 (fun p hp => kp p (List.mem_cons_of_mem _ hp)) ?_ ⟨sa.ok, sa.fp.perm pG, by rw [List.length_set]; exact sa.len, t1⟩
  exact (stp.permL fun b hb => pF.mem_iff.mpr hb).perm fun b hb => pG.mem_iff.mpr hb
end
theorem iv_alO {K : PySem.W.Frag} {E : α → OP} {v : V} : IxV (rIxL K) (fun xs => alO (lstO E xs) v) intS (fun xs i => atI xs i) E := fun W x y v u z F1 ok hx hy e Q k => iv_lstO W x y v u z F1 ok hx.2 hy e Q k
section
variable {S : Stc} {Γ Δ : Ctx} {a b e : Expr} {pos : Pos} {st : Stmt} {rest : List Stmt}
theorem sta_frz {σ : L2.St} {W : Wd} {F : List Addr} {i : Nat} {o : OP} {p : SP} (st : Sta Γ σ W F) (hi : Γ[i]? = some (some o)) (f : FrzN o p) : ∃ B' F', Ex W.B B' ∧ Sta (Γ.set i (some (sh p))) σ ⟨W.H, B'⟩ F' := by
  obtain ⟨v, F1, F2, a1, a2, a3, a4⟩ := st.hold.at hi
  have fp := st.fp.perm a3
  obtain ⟨B', b1, b2, b3, b4⟩ := f.run a2 fp.left.nd fp.left.fr st.ok
  obtain ⟨F', c1, c2⟩ := a4 ⟨W.H, B'⟩ (sh p) v [] b1 (fun _ _ => rfl) ⟨rfl, b4⟩
  have fp' : FpOk ⟨W.H, B'⟩ F' := by
    refine FpOk.perm (F := F2) ?_ (by simpa using c2.symm)
    exact ⟨fp.right.nd, fp.right.al, fun a ha => b3 a (fp.right.fr a ha) fun z => fp.disj a z ha⟩
  rw [set_back a1] at c1
  exact ⟨B', F', b1, b2, fp', by rw [List.length_set]; exact st.len, c1⟩
theorem ext_thaw {W W' : Wd} {B' : Hp} (ok : Ex W.B W.H) (b : Ex W.B B') (e : Ext ⟨W.H, B'⟩ W') : Ext W ⟨W'.H, W.B⟩ := ⟨ok.trans e.h, e.h, Ex.refl _, fun _ _ h => h⟩
/-- what is owned is read as if it stood still; the value does not lean on it -/
theorem jn_thaw {m : Option α} {E : α → SP} {i : Nat} {o : OP} {p : SP} (hE : ∀ x B B' v, (E x).P B v → (E x).P B' v) (hi : Γ[i]? = some (some o)) (f : FrzN o p) (h : JN S e (Γ.set i (some (sh p))) m fun x => sh (E x)) : JN S e Γ m fun x => sh (E x) := fun σ W F st x hx Q k => by
  obtain ⟨B', F', b, st'⟩ := sta_frz st hi f
  exact h σ ⟨W.H, B'⟩ F' st' x hx Q fun v W' Fv ext fr fp r => k v ⟨W'.H, W.B⟩ [] (ext_thaw st.ok b ext) (by simp) FpOk.nil ⟨rfl, hE _ _ _ _ r.2⟩
theorem jt_thaw {m : Option Bool} {i : Nat} {o : OP} {p : SP} (hi : Γ[i]? = some (some o)) (f : FrzN o p) (h : JT S e (Γ.set i (some (sh p))) m) : JT S e Γ m := fun σ W F st x hx Q k => by
  obtain ⟨B', F', b, st'⟩ := sta_frz st hi f
  exact h σ ⟨W.H, B'⟩ F' st' x hx Q fun W' ext => k ⟨W'.H, W.B⟩ (ext_thaw st.ok b ext)
theorem flat_int : ∀ (x : Int) (B B' : Hp) (v : V), (intS x).P B v → (intS x).P B' v := fun _ _ _ _ h => h
theorem flat_bool : ∀ (x : Bool) (B B' : Hp) (v : V), (boolS x).P B v → (boolS x).P B' v := fun _ _ _ _ h => h
theorem flat_str : ∀ (x : Str) (B B' : Hp) (v : V), (strS x).P B v → (strS x).P B' v := fun _ _ _ _ h => h
end
section
variable {S : Stc} {Γ : Ctx} {a b e : Expr} {pos : Pos}
theorem each_ints {B : Hp} : ∀ {ns : List Int}, Each intS B (ns.map V.int) ns
  | [] => trivial
  | _ :: _ => ⟨rfl, each_ints⟩
theorem sorted_ints {m : Option (List Int)} {p : Pos} (hm : S.mg "sorted" = none) (h : JN S a Γ m fun x => sh (lstS intS x)) (hg : GlS S "sorted" := by rfl) (hs : ∀ env, starEach [a] env = [(false, eval a env)] := by intro _; rfl) : JN S (.Call (.Name "sorted" p) [a] [] pos) Γ (m.bind fun xs => some (sortI xs)) (lstO fun x => sh (intS x)) :=
  jn_b1 (f := fun xs : List Int => some (sortI xs)) (fun X hX => hX.K ▸ cr_sortedI) (fun W x v z ok hh e Q k => by
    cases e
    obtain ⟨a, vs, rfl, h2, h3⟩ := hh
    have e1 := each_flat fl_int h3
    subst e1
    refine ⟨a, x, rfl, .inl (.inl (ok a _ h2)), fun ys p perm srt np => ?_⟩
    have e : ys = sortI x := srt_uniq leI_an (List.Pairwise.imp (fun {u w} hn => by unfold leI; simpa using hn) srt) (isort_srt leI_tot leI_tr x) (perm.trans (isort_perm leI x).symm)
    subst e
    exact k.newL ok each_ints p np) hm h hg (by decide +kernel) (by decide) (by decide) hs
end
end CC
set_option maxHeartbeats 4000000
/-! A list of one's own within a list of several kinds. -/
namespace CC
open PySem PySem.Spec L2
open PyProof.Rows hiding St
variable {α β γ δ τ υ ω ρ ε κ : Type}
section
variable {S : Stc} {Γ : Ctx} {a b e : Expr} {es : List Expr} {pos : Pos}
/-- [fresh, shared, ..] -/
theorem jn_hl1 {m0 : Option α} {m : Option β} {R0 : α → OP} {G : β → List SP} {T : γ → OP} {g : α → β → γ} (h0 : JN S e Γ m0 R0) (h : JA S es Γ m G) (hR : ∀ x y, hetO (R0 x :: (G y).map sh) = T (g x y) := by intro _ _; rfl) (hl : ∀ x, (G x).length ≤ 1000 := by intro _; exact Nat.le_of_ble_eq_true rfl) (hs : ∀ env, starEach (e :: es) env = (false, eval e env) :: starEach es env := by intro _; rfl) :
    JN S (.List (e :: es) pos) Γ (m0.bind fun x => m.bind fun y => some (g x y)) T := fun σ W F sta z hz Q kk => by
  obtain ⟨x, y, h1, h2, h3⟩ := run2 hz
  cases h3
  refine ⟨tLst (tCons (tOf S e) (taOf S es)), fun X hX => pe_lst (pa_cons (peO hX) (paO hX) (hs _)), ?_⟩
  refine h0 σ W F sta x h1 _ fun v W1 Fv e1 fr fp r => ?_
  refine h σ W1 F (sta.ext e1) y h2 _ fun vs W2 e2 hh => ?_
  refine ⟨Nat.le_trans (by rw [List.length_cons, hh.len]; exact Nat.succ_le_succ (hl y)) (by decide), fun q hq => ?_⟩
  have e3 : Ext W2 ⟨upd W2.H q (.lst (v :: vs)), W2.B⟩ := Ext.new e2.ok hq
  have r2 : (R0 x).C W2 v Fv := (R0 x).ext r e2 fp
  have nq : ∀ b ∈ Fv, b ≠ q := fun b hb z => (fp.ext e2).al b hb (z ▸ hq)
  have r3 : (R0 x).C ⟨upd W2.H q (.lst (v :: vs)), W2.B⟩ v Fv := (R0 x).loc r2 (fun _ _ h => h) fun b hb => upd_ne (nq b hb)
  refine kk (.ref q) ⟨upd W2.H q (.lst (v :: vs)), W2.B⟩ (q :: Fv) ((e1.trans e2).trans e3) (fun b hb => ?_) ?_ (by rw [← hR]; exact ⟨q, v :: vs, Fv, rfl, upd_same, rfl, Fv, [], (List.append_nil _).symm, r3, HetO.of_hts (W := ⟨upd W2.H q (.lst (v :: vs)), W2.B⟩) hh⟩)
  · rcases List.mem_cons.mp hb with z | z
    · rw [z]; exact (e1.trans e2).h.back hq
    · exact fr b z
  · have f2 := fp.ext e2
    refine ⟨List.nodup_cons.mpr ⟨fun hb => nq q hb rfl, f2.nd⟩, fun b hb => wr_al' b hb f2, fun b hb => ?_⟩
    rcases List.mem_cons.mp hb with z | z
    · rw [z]
      exact e2.ok.back hq
    · exact f2.fr b z
where
  wr_al' {W2 : Wd} {q : Addr} {o : HO} {Fv : List Addr} (b : Addr) (hb : b ∈ q :: Fv) (f2 : FpOk W2 Fv) : upd W2.H q o b ≠ none := by
    by_cases z : b = q
    · rw [z, upd_same]
      exact fun z => nomatch z
    · rw [upd_ne z]
      exact f2.al b ((List.mem_cons.mp hb).resolve_left z)
end
section
variable {S : Stc} {Γ : τ → Ctx} {s : τ} {e : Expr} {pos : Pos}
/-- x[k].pop(e), x a list of several kinds, its k-th item a list of its own -/
theorem je_popH {x : Str} {p0 apos p2 : Pos} {kk p'} {ps : τ → List OP} {E : α → SP} {mi : Option Int} {j : Int} (i k : Nat) (get : τ → List α) (put : τ → List α → τ) (h : JN S e (Γ s) mi fun z => sh (intS z)) (hi : ∀ s, (Γ s)[i]? = some (some (hetO (ps s))) := by intro _; rfl) (hk : ∀ s, (ps s)[k]? = some (lstO (fun y => sh (E y)) (get s)) := by intro _; rfl)
    (hp : ∀ s u, (Γ s).set i (some (hetO ((ps s).set k (lstO (fun y => sh (E y)) u)))) = Γ (put s u) := by intro _ _; rfl) (hj : j = (k : Int) := by rfl)
    (hN : S.N[i]? = some x := by rfl) (hv : Vis S.sc x := by first | exact Or.inl rfl | exact Or.inr (Or.inl rfl) | exact Or.inr (Or.inr rfl)) (hd : (x == ("__debug__" : Str)) = false := by decide) (hcd : (x == ("__classdict__" : Str)) = false := by decide)
    (hbase : ∀ env, attributeBase (.Subscript (.Name x p0) (.Constant (.int j) kk p') p2) "pop" env (eval (.Subscript (.Name x p0) (.Constant (.int j) kk p') p2) env) = eval (.Subscript (.Name x p0) (.Constant (.int j) kk p') p2) env := by intro _; rfl)
    (hfew : ∀ env, ((backTo pos (starEach [e] env)).all (fun x => !x.1) && (backToKw pos (keywordEach [] env)).all (fun x => x.1.isSome) && decide ([e].length + ([] : List Keyword).length + (if ([] : List Keyword).isEmpty then 0 else 1) < 30)) = true := by intro _; rfl)
    (hline : (apos.endLine == pos.line) = true := by rfl) (hs : ∀ env, starEach [e] env = (false, eval e env) :: starEach [] env := by intro _; rfl) :
    JE S (.Call (.Attribute (.Subscript (.Name x p0) (.Constant (.int j) kk p') p2) "pop" apos) [e] [] pos) Γ s (mi.bind fun z => (popAt (get s) z).bind fun r => some (r.1, put s r.2)) fun y => sh (E y) := fun σ W F sta z hz Q kq => by
  obtain ⟨q, h1, h2⟩ := run1 hz
  obtain ⟨r, h3, h4⟩ := run1 (f := fun r : α × List α => some (r.1, put s r.2)) h2
  cases h4
  unfold popAt at h3
  split at h3
  · rename_i hb
    obtain ⟨y, h5, h6⟩ := run1 (f := fun y : α => some (y, (get s).eraseIdx q.toNat)) h3
    cases h6
    refine ⟨tBM S.K "list" rPopAt (tOp (rIxL S.K) (tVar i) (tC (.int j))) (tCons (tOf S e) tNil), fun X hX => hX.K ▸ pe_bm PySem.F.plainAttrs_list PySem.F.slot_list_pop PySem.F.type_list_pop mt_popAt (pe_ix (hX.K ▸ oIxL X hX) (pe_var (by rw [hX.N]; exact hN) (visS hv hX) hd hcd) pe_int (fun _ _ => rfl)) (pa_cons (peO hX) pa_nil (hs _)) (hbase _) (hfew _) hline (hs _) rfl, ?_⟩
    obtain ⟨v, F1, F2, a1, a2, a3, a4⟩ := sta.hold.at (hi s)
    obtain ⟨a, vs, G2, rfl, b2, rfl, b4⟩ := id a2
    obtain ⟨w, K1, K2, k1, k2, k3, k4⟩ := b4.at (hk s)
    obtain ⟨p, us, L2', rfl, l2, rfl, l4⟩ := k2
    refine ⟨.ref a, a1, a, vs, j, .ref p, rfl, rfl, .inl (.inl b2), by rw [hj]; exact atI_k k1, ?_⟩
    refine ⟨.inl ⟨rfl, us, .inl (.inl l2)⟩, h σ W F sta q h1 _ fun u W1 Fa ext _ _ r1 => ?_⟩
    obtain ⟨_, rfl⟩ := r1
    have sta1 := sta.ext ext
    obtain ⟨v', F1', F2', c1, c2, c3, c4⟩ := sta1.hold.at (hi s)
    have ev : v' = .ref a := by rw [a1] at c1; exact (Option.some.inj (Option.some.inj c1)).symm
    subst ev
    obtain ⟨a', vs', G3, e1, d2, rfl, d4⟩ := c2
    cases e1
    have evs : vs' = vs := by
      rw [ext.h a _ b2] at d2
      cases d2
      rfl
    subst evs
    obtain ⟨w', M1, M2, n1, n2, n3, n4⟩ := d4.at (hk s)
    rw [k1] at n1
    cases n1
    obtain ⟨p', us', L3, e2, o2, rfl, o4⟩ := n2
    cases e2
    obtain ⟨rfl, o5⟩ := o4.each
    have fpA := (sta1.fp.perm c3).left
    have hB : W1.B p = none := fpA.fr p (List.mem_cons_of_mem _ (n3.mem_iff.mpr (by simp)))
    have hne : a ≠ p := fun z => (List.nodup_cons.mp fpA.nd).1 (z ▸ n3.mem_iff.mpr (by simp))
    have hK : ∀ b ∈ M2, b ≠ p := fun b hb z => by
      have nd := (n3.nodup_iff.mp (List.nodup_cons.mp fpA.nd).2)
      exact (List.nodup_cons.mp nd).1 (z ▸ hb)
    obtain ⟨t, t1, t2⟩ := o5.get h5
    have hlen := o5.len
    have hlt : q.toNat < (get s).length := (List.getElem?_eq_some_iff.mp h5).1
    have z : LIM = 1000000 := rfl
    have eseq : seqIndex? q us'.length = some q.toNat := by
      have hx : ixN us'.length q = some q.toNat := by
        unfold ixN
        rw [if_pos hb.1, if_pos (by omega)]
      exact (ixN_seq hx).1
    refine ⟨p, us', q, q.toNat, t, rfl, rfl, o2, by omega, by omega, eseq, t1, ?_⟩
    have rN : (lstO (fun x => sh (E x)) ((get s).eraseIdx q.toNat)).C ⟨upd W1.H p (.lst (us'.eraseIdx q.toNat)), W1.B⟩ (.ref p) [p] :=
      ⟨p, _, [], rfl, upd_same, rfl, Owns.of_each (o5.eraseIdx q.toNat)⟩
    obtain ⟨G', g1, g2⟩ := n4 ⟨upd W1.H p (.lst (us'.eraseIdx q.toNat)), W1.B⟩ (lstO (fun x => sh (E x)) ((get s).eraseIdx q.toNat)) (.ref p) [p] (fun _ _ h => h) (fun b hb => upd_ne (hK b hb)) rN
    have hset : vs'.set k (.ref p) = vs' := by
      refine List.ext_getElem? fun n => ?_
      by_cases z : k = n
      · subst z
        rw [k1, List.getElem?_set_self (List.getElem?_eq_some_iff.mp k1).1]
      · rw [List.getElem?_set_ne z]
    rw [hset] at g1
    have pG : (a :: G').Perm (a :: G3) := List.Perm.cons a (g2.trans n3.symm)
    have fpB := fpA.perm pG.symm
    obtain ⟨F', s', stp⟩ := sta_own (W' := ⟨upd W1.H p (.lst (us'.eraseIdx q.toNat)), W1.B⟩) (F1' := a :: G') (o' := hetO ((ps s).set k (lstO (fun x => sh (E x)) ((get s).eraseIdx q.toNat)))) [] sta1 (by rw [List.append_nil]; exact sta1.fp) c1 c3 c4 (wr_ok ext.ok hB) rfl
      (fun b hb _ => upd_ne fun z => hb (z ▸ List.mem_cons_of_mem _ (n3.mem_iff.mpr (by simp)))) wr_al ⟨fpB.nd, fun b hb => wr_al b (fpB.al b hb), fpB.fr⟩ (fun b hb => .inl (pG.mem_iff.mp hb)) ⟨a, vs', G', rfl, (upd_ne hne).trans d2, rfl, g1⟩
    rw [List.append_nil] at stp
    rw [hp] at s'
    refine kq t _ F' [] (by rw [List.append_nil]; exact ext.stp0.trans stp) s' (by rw [List.append_nil]; exact s'.fp) ⟨rfl, t2⟩
  · cases h3
end
section
variable {S : Stc} {Γ : τ → Ctx} {s : τ} {a e : Expr} {pos : Pos}
theorem je_abs {m : Option (Int × τ)} {p : Pos} (hm : S.mg "abs" = none) (h : JE S a Γ s m fun x => sh (intS x)) (hg : GlS S "abs" := by rfl) (hs : ∀ env, starEach [a] env = [(false, eval a env)] := by intro _; rfl) : JE S (.Call (.Name "abs" p) [a] [] pos) Γ s (m.bind fun q => some (absI q.1, q.2)) fun z => sh (intS z) :=
  je_b1 (f := fun x : Int => some (absI x)) (fun X hX => call_abs) (fun W x v z ok hh e Q k => by
    cases e
    cases hh
    exact ⟨_, rfl, k.val ok rfl⟩) hm h hg (by decide +kernel) (by decide) (by decide) hs
end
/-! ### == of values of any kind -/
mutual
def toD : PV → PyData
  | .non => .none
  | .bl b => .bool b
  | .int i => .int i
  | .str z => .str z
  | .tup xs => .tuple (toDs xs)
  | .lst xs => .list (toDs xs)
def toDs : List PV → List PyData
  | [] => []
  | x :: xs => toD x :: toDs xs
end
mutual
theorem any_dp {K : PySem.W.Frag} {B H : Hp} (e : Ex B H) : ∀ (x : PV) (v : V), anyP B x v → Dp K H v (toD x)
  | .non, v, h => by unfold anyP at h; unfold toD; subst h; exact .non
  | .bl b, v, h => by unfold anyP at h; unfold toD; subst h; exact .bl b
  | .int i, v, h => by unfold anyP at h; unfold toD; subst h; exact .int i
  | .str z, v, h => by unfold anyP at h; unfold toD; subst h; exact .str z
  | .tup xs, v, h => by
    unfold anyP at h
    unfold toD
    obtain ⟨a, vs, rfl, h2, h3⟩ := h
    exact .tup (.inl (.inl (e a _ h2))) (anys_dp e xs vs h3)
  | .lst xs, v, h => by
    unfold anyP at h
    unfold toD
    obtain ⟨a, vs, rfl, h2, h3⟩ := h
    exact .lst (.inl (.inl (e a _ h2))) (anys_dp e xs vs h3)
theorem anys_dp {K : PySem.W.Frag} {B H : Hp} (e : Ex B H) : ∀ (xs : List PV) (vs : List V), anysP B xs vs → DpAll K H vs (toDs xs)
  | [], [], _ => by unfold toDs; exact .nil
  | x :: xs, v :: vs, h => by
    unfold anysP at h
    unfold toDs
    exact .cons (any_dp e x v h.1) (anys_dp e xs vs h.2)
  | [], _ :: _, h => by unfold anysP at h; exact h.elim
  | _ :: _, [], h => by unfold anysP at h; exact h.elim
end
def eqP (x y : PV) : Option Bool := if SeqAt.shaped (toD x) = true ∧ SeqAt.shaped (toD y) = true then some (PyData.eqv (toD x) (toD y)) else none
def neP (x y : PV) : Option Bool := (eqP x y).bind fun b => some (!b)
theorem oEqD {S : Stc} : ∀ X, S.In X → OpR X (compareOp .Eq) (rEqD S.K) := fun _ h => h.K ▸ op_eqD h.un
theorem oNeD {S : Stc} : ∀ X, S.In X → OpR X (compareOp .NotEq) (rNeD S.K) := fun _ h => h.K ▸ op_neD h.un
theorem ov_eqP {K : PySem.W.Frag} : OpV (rEqD K) anyS anyS eqP fun z => sh (boolS z) := fun W x y v u z ok hx hy e Q k => by
  unfold eqP at e
  split at e
  · rename_i hs
    cases e
    exact ⟨_, _, any_dp ok x v hx, any_dp ok y u hy, hs.1, hs.2, k.val ok rfl⟩
  · cases e
theorem ov_neP {K : PySem.W.Frag} : OpV (rNeD K) anyS anyS neP fun z => sh (boolS z) := fun W x y v u z ok hx hy e Q k => by
  unfold neP eqP at e
  split at e
  · rename_i hs
    cases e
    exact ⟨_, _, any_dp ok x v hx, any_dp ok y u hy, hs.1, hs.2, k.val ok rfl⟩
  · cases e
end CC
set_option maxHeartbeats 4000000
/-! What the top has left: further facts by tests of one's own. -/
namespace CC
open PySem PySem.Spec L2
open PyProof.Rows hiding St
abbrev Tst := PySem.W.Frag → Bool
def obsX (mo : List Tst) (fa : List He.Fa) (fn : List He.DefD) (K : PySem.W.Frag) : Bool × He.AlD := (mo.all fun f => f K, He.obsD fa fn K)
def SaysX (mo : List Tst) (fa : List He.Fa) (fn : List He.DefD) (K : PySem.W.Frag) : Prop := obsX mo fa fn K = (true, He.valD fn)
def obsXG (n : Nat) (mo : List Tst) (fa : List He.Fa) (fn : List He.DefD) (g : Addr → Option Obj) : Bool × He.AlD := obsX mo fa fn (He.frG g (He.asD g n))
def hookX (n : Nat) (mo : List Tst) (fa : List He.Fa) (fn : List He.DefD) : PySem.W.Hook where
  α := Bool × He.AlD
  obs := fun s => obsXG n mo fa fn s.heap.get?
  val := fun _ => (true, He.valD fn)
  says := fun _ h => ∃ K : PySem.W.Frag, K.In h ∧ SaysX mo fa fn K
  of := fun _ _ e => ⟨_, He.frG_in, e⟩
  keeps := fun _ _ _ ⟨K, hK, c⟩ k => ⟨K, PySem.W.Frag.In.keeps hK k, c⟩
theorem obsXG_eq {n : Nat} {mo : List Tst} {fa : List He.Fa} {fn : List He.DefD} {g : Addr → Option Obj} {s : Shared} (h : ∀ a, g a = s.heap.get? a) : obsXG n mo fa fn g = (hookX n mo fa fn).obs s := by
  have e : g = s.heap.get? := funext h
  rw [e] <;> rfl
theorem SaysX.d {mo : List Tst} {fa : List He.Fa} {fn : List He.DefD} {K : PySem.W.Frag} (c : SaysX mo fa fn K) : He.SaysD fa fn K := congrArg (fun z : Bool × He.AlD => z.2) c
theorem SaysX.t {mo : List Tst} {fa : List He.Fa} {fn : List He.DefD} {K : PySem.W.Frag} (c : SaysX mo fa fn K) (i : Nat) {f : Tst} (h : mo[i]? = some f := by rfl) : f K = true := by
  have c1 : (mo.all fun f => f K) = true := congrArg (fun z : Bool × He.AlD => z.1) c
  exact List.all_eq_true.mp c1 f (List.mem_of_getElem? h)
/-- isinstance of an exception of x by the class y, by a built-in type -/
def tKit (x y : Str) (b : Bool) : Tst := fun K => decide (PySem.W.kitOne K (.ref (He.ga K x)) (.ref (He.ga K y)) = some b)
def tKitT (x : Str) (T : String) (b : Bool) : Tst := fun K => decide (PySem.W.kitOne K (.ref (He.ga K x)) (.type T) = some b)
/-- an exception class whose instances may be asked -/
def tExcC (x : Str) : Tst := fun K => decide (PySem.W.findIn K (.ref (He.ga K x)) "__getattribute__" = some (some (.builtin "BaseException.__getattribute__"))) && (decide (PySem.W.findIn K (.ref (He.ga K x)) "__getattr__" = some none) && (decide (PySem.W.subIn K (.ref (He.ga K x)) (.type "BaseException") = some true) && (PySem.W.hasDictIn K (He.ga K x) &&
  (decide (PySem.W.findIn K (.ref (He.ga K x)) "__class__" = some (some (.builtin "object.__class__"))) && (decide (PySem.W.specialIn K (.builtin "object.__class__") "__get__" = some (some (.builtin "getset_descriptor.__get__"))) && (decide (PySem.W.takesIn K (.builtin "object.__class__") = some true) && decide (PySem.W.mroIn K (He.ga K x) (.type "object") = some true)))))))
theorem tExcC_ok {K : PySem.W.Frag} {x : Str} (h : tExcC x K = true) : ExcC K (He.ga K x) := by
  unfold tExcC at h
  simp only [Bool.and_eq_true, decide_eq_true_eq] at h
  obtain ⟨h1, h2, h3, h4, h5, h6, h7, h8⟩ := h
  exact ⟨h1, h2, h3, h4, h5, h6, h7, h8⟩
end CC
set_option maxHeartbeats 4000000
/-! try .. except C as e: the suite asks e. -/
namespace CC
open PySem PySem.Spec L2
open PyProof.Rows hiding St
variable {α β γ δ τ υ ω ρ ε κ : Type}
/-- isinstance(e, c), e with its dict -/
def rIsD (K : PySem.W.Frag) (D a : Addr) (d : Option Addr) : List V → Hp → VK → Prop := fun xs H Q => (∃ o, excD o H d) ∧ rIsE K D a xs H Q
theorem instD {X : Cx} {pins : List (Addr × Obj)} {σ : L2.St} {H : Hp} {s : Shared} {a D : Addr} {oe : Obj} {pn : List (Addr × Obj)} {d : Option Addr} (I : Inv (X.suite a ((a, oe) :: pn)) pins σ H s) (hz : Zc (.ref D) d oe) (hf : ∃ vs, oe.data = .fields vs) (he : ∃ o, excD o H d) : ∃ od, PySem.W.InstAt s.heap a oe D od := by
  obtain ⟨hget, _⟩ := I.pin (a, oe) (List.mem_append.mpr (.inl List.mem_cons_self))
  obtain ⟨vs, hv⟩ := hf
  obtain ⟨oc, od, oda, osl⟩ := oe
  obtain ⟨h1, h2⟩ := hz
  dsimp only at h1 h2 hv
  subst h1 h2 hv
  obtain ⟨o, he⟩ := he
  cases o with
  | none =>
    have he : od = none := he
    subst he
    exact ⟨none, hget, rfl, rfl, trivial⟩
  | some q =>
    obtain ⟨dd, w, e1, e2, _⟩ := he
    subst e1
    have hx : ObjOk X.prog X.w H s.heap dd (.xd [(q.1, w)]) := I.hok dd _ e2
    obtain ⟨mA, hns, _⟩ := hx
    obtain ⟨od, ho, _⟩ := lookIn_ns hns
    exact ⟨some od, hget, rfl, rfl, ho⟩
theorem call_isD {X : Cx} {a D : Addr} {oe : Obj} {pn : List (Addr × Obj)} {d : Option Addr} (C : ExcC X.K D) (hz : Zc (.ref D) d oe) (hf : ∃ vs, oe.data = .fields vs) : CallR (X.suite a ((a, oe) :: pn)) (.builtin "isinstance") (rIsD X.K D a d) := by
  intro pins s σ H xs us Q I r h
  obtain ⟨hd, c, cv, b, rfl, hcv, e, q⟩ := h
  cases r with
  | cons rx rr =>
    cases rr with
    | cons rt rr =>
      cases rr
      cases rx
      have ec := hcv _ rt
      subst ec
      obtain ⟨od, J⟩ := instD I hz hf hd
      obtain ⟨cd, hcl, _⟩ := PySem.W.any_some C.hd
      exact PySem.W.kia_one (PySem.W.kitx_exc (by rw [hcl]; rfl) C.hg C.hk C.hs C.ha C.hn C.ht C.hm) I.kIn J e (fun z => nomatch z) fun tk => ⟨.bl b, H, I.kept (t' := tk) fun _ _ z => z, rfl, q⟩
section
variable {S : Stc} {Γ Δ : Ctx} {pos : Pos} {st : Stmt} {rest A B : List Stmt}
/-- isinstance(e, C) -/
theorem jn_isE {x c : Str} {p p1 pc : Pos} {a C D : Addr} {b : Bool} {d : Option Addr} {o : Option (Str × SP)} (i : Nat) (hex : S.ex = some (a, C, d)) (hE : ExcC S.K C) (hk : PySem.W.kitOne S.K (.ref C) (.ref D) = some b) (hm : S.mg "isinstance" = none) (hmc : S.mg c = some (.ref D)) (hi : Γ[i]? = some (some (sh (excS a d o))) := by rfl) (hN : S.N[i]? = some x := by rfl) (hv : Vis S.sc x := by first | exact Or.inl rfl | exact Or.inr (Or.inl rfl) | exact Or.inr (Or.inr rfl)) (hg : GlS S "isinstance" := by rfl) (hgc : GlS S c := by rfl)
    (hd : (x == ("__debug__" : Str)) = false := by decide) (hcd : (x == ("__classdict__" : Str)) = false := by decide) (hdb : (c == ("__debug__" : Str)) = false := by decide)
    (hs : ∀ env, starEach [.Name x p1, .Name c pc] env = [(false, eval (.Name x p1) env), (false, eval (.Name c pc) env)] := by intro _; rfl) (hs2 : ∀ env, starEach [Expr.Name c pc] env = [(false, eval (.Name c pc) env)] := by intro _; rfl) :
    JN S (.Call (.Name "isinstance" p) [.Name x p1, .Name c pc] [] pos) Γ (some b) fun z => sh (boolS z) := fun σ W F sta z hz Q kq => by
  cases hz
  obtain ⟨v, h1, h2⟩ := sta.get hi
  obtain ⟨rfl, h2⟩ := h2
  refine ⟨tCB (rIsD S.K C a d) (tCons (tVar i) (tCons (tC (.ref D)) tNil)), fun X hX => ?_, ?_⟩
  · obtain ⟨X', oe, pn, rfl, hz, hf⟩ := hX.ex a C d hex
    have hc : CallR (X'.suite a ((a, oe) :: pn)) (.builtin "isinstance") (rIsD S.K C a d) := by
      have e : (X'.suite a ((a, oe) :: pn)).K = S.K := hX.K
      have := call_isD (X := X') (a := a) (pn := pn) (by rw [show X'.K = S.K from e]; exact hE) hz hf
      rw [show X'.K = S.K from e] at this
      exact this
    exact pe_callB hc (hg.gl hX) (mgS hm hX) (by decide +kernel) (pa_cons (pe_var (by rw [hX.N]; exact hN) (visS hv hX) hd hcd) (pa_cons (pe_glob (v := .ref D) (hgc.gl hX) (mgS hmc hX) rfl hdb) pa_nil (hs2 _)) ((hs _).trans (by rw [hs2]))) (by decide) (by decide) ((hs _).trans (by rw [hs2])) (by rw [hs2]; rfl)
  · exact ⟨.ref a, h1, ⟨o, excD_mono h2 sta.ok⟩, .ref D, .ref D, b, rfl, fun u r => r, hk, kq.val sta.ok rfl⟩
/-- isinstance(e, T), T built in -/
theorem jn_isET {x c : Str} {T : String} {p p1 pc : Pos} {a C : Addr} {b : Bool} {d : Option Addr} {o : Option (Str × SP)} (i : Nat) (hex : S.ex = some (a, C, d)) (hE : ExcC S.K C) (hk : PySem.W.kitOne S.K (.ref C) (.type T) = some b) (hm : S.mg "isinstance" = none) (hmc : S.mg c = none) (hi : Γ[i]? = some (some (sh (excS a d o))) := by rfl) (hN : S.N[i]? = some x := by rfl) (hv : Vis S.sc x := by first | exact Or.inl rfl | exact Or.inr (Or.inl rfl) | exact Or.inr (Or.inr rfl)) (hg : GlS S "isinstance" := by rfl) (hgc : GlS S c := by rfl)
    (hvc : bootBuiltins c = some (.type T) := by decide +kernel) (hn : c ≠ "__name__" := by decide)
    (hd : (x == ("__debug__" : Str)) = false := by decide) (hcd : (x == ("__classdict__" : Str)) = false := by decide) (hdb : (c == ("__debug__" : Str)) = false := by decide)
    (hs : ∀ env, starEach [.Name x p1, .Name c pc] env = [(false, eval (.Name x p1) env), (false, eval (.Name c pc) env)] := by intro _; rfl) (hs2 : ∀ env, starEach [Expr.Name c pc] env = [(false, eval (.Name c pc) env)] := by intro _; rfl) :
    JN S (.Call (.Name "isinstance" p) [.Name x p1, .Name c pc] [] pos) Γ (some b) fun z => sh (boolS z) := fun σ W F sta z hz Q kq => by
  cases hz
  obtain ⟨v, h1, h2⟩ := sta.get hi
  obtain ⟨rfl, h2⟩ := h2
  refine ⟨tCB (rIsD S.K C a d) (tCons (tVar i) (tCons (tC (.ty T)) tNil)), fun X hX => ?_, ?_⟩
  · obtain ⟨X', oe, pn, rfl, hz, hf⟩ := hX.ex a C d hex
    have hc : CallR (X'.suite a ((a, oe) :: pn)) (.builtin "isinstance") (rIsD S.K C a d) := by
      have e : (X'.suite a ((a, oe) :: pn)).K = S.K := hX.K
      have := call_isD (X := X') (a := a) (pn := pn) (by rw [show X'.K = S.K from e]; exact hE) hz hf
      rw [show X'.K = S.K from e] at this
      exact this
    exact pe_callB hc (hg.gl hX) (mgS hm hX) (by decide +kernel) (pa_cons (pe_var (by rw [hX.N]; exact hN) (visS hv hX) hd hcd) (pa_cons (pe_bltn (v := .ty T) (hgc.gl hX) (mgS hmc hX) hvc rfl hn hdb) pa_nil (hs2 _)) ((hs _).trans (by rw [hs2]))) (by decide) (by decide) ((hs _).trans (by rw [hs2])) (by rw [hs2]; rfl)
  · exact ⟨.ref a, h1, ⟨o, excD_mono h2 sta.ok⟩, .ty T, .type T, b, rfl, fun u r => r, hk, kq.val sta.ok rfl⟩
end
section
variable {S : Stc} {Γ Δ : Ctx} {pos : Pos} {st : Stmt} {rest A B : List Stmt}
/-- the context of a suite that has its exception by name -/
abbrev Stc.suiE (S : Stc) (a C : Addr) (d : Option Addr) : Stc := { S with W := fun _ _ _ _ => False, calm := false, top := false, ex := some (a, C, d) }
theorem Stc.In.suiE {X : Cx} (h : S.In X) {a C : Addr} {d : Option Addr} {oe : Obj} {pn : List (Addr × Obj)} (hz : Zc (.ref C) d oe) (hf : ∃ vs, oe.data = .fields vs) : (S.suiE a C d).In (X.suite a ((a, oe) :: pn)) :=
  ⟨h.prog, h.w, h.K, h.mg, h.base, h.N, h.sc, h.fn, rfl, nofun, h.un, PassesOwn.never, takes_none, nofun, fun a' C' d' z => by
    have z' : some (a, C, d) = some (a', C', d') := z
    cases z'
    exact ⟨X, oe, pn, rfl, hz, hf⟩⟩
/-- try .. except C as n: the suite returns -/
theorem js_tryAs {x n : Str} {c : Value} {np pos' : Pos} {b₀ : Stmt} {mb : Option (Res ε ω)} {ms : ε → Option ω} {Xp : ε → XP} {D : ω → Kd} (Γx : Ctx) (i : Nat) (Cu : ε → Addr) (Au : ε → Option (Str × SP)) (nd : S.N.Nodup) (hb : ∀ wx : WX, JB { S with W := wx } B Γ mb (TD D Γx Xp)) (hX : ∀ u, Xp u = excX (Cu u) (Au u)) (hs : ∀ u a d, JB (S.suiE a (Cu u) d) (b₀ :: A) (Γx.set i (some (sh (excS a d (Au u))))) (ms u) D) (hm : S.mg x = some c) (hx : ∀ u, PySem.W.exmOne S.K (.ref (Cu u)) c = some true)
    (hrt : ∀ o, ∃ Γ' R, D o = .rt Γ' R) (hi : (Γx[i]?).isSome = true := by rfl) (hp : (S.prot.contains i) = false := by rfl) (hN : S.N[i]? = some n := by rfl) (hln : S.sc.names.lookup n = some .local := by rfl) (hg : GlS S x := by rfl) (hdb : (x == ("__debug__" : Str)) = false := by decide) (htop : S.top = true := by rfl) (hex : S.ex = none := by rfl) : JS S (.Try B [.ExceptHandler (some (.Name x np)) (some n) (b₀ :: A) pos'] [] [] pos) Γ (tryM mb ms) D := fun σ W F sta z hz E k => by
  obtain ⟨r, h1, h2⟩ := run1 hz
  refine ⟨fun D σ H => tbOf { S with W := wAs S.K c i (fun a cls d D σ H => ∃ C, cls = .ref C ∧ tbOf (S.suiE a C d) (b₀ :: A) D σ H) S.W D } B D σ H, fun X hX' => ?_, ?_⟩
  · obtain ⟨t1, t2⟩ := hX'.top htop
    have := ps_try_as (pos := pos) (pos' := pos') (np := np) (i := i) (n := n) t1 t2 (by rw [hX'.N]; exact nd) (by rw [hX'.N]; exact hN) (show X.env.scope.names.lookup n = some .local by rw [hX'.sc]; exact hln) (c := c) (x := x) (b₀ := b₀) (suite := A) (body := B) (ts := fun a cls d D σ H => ∃ C, cls = .ref C ∧ tbOf (S.suiE a C d) (b₀ :: A) D σ H) (tb := fun W => tbOf { S with W := W } B) ⟨hg.gl hX', hdb, .inl (mgS hm hX')⟩ hX'.tk (fun W pn xe tk pass => pbO (hX'.tr hex tk pass)) (fun a oe cls d pn zc hf => ⟨fun pins s σ H D I ⟨C, e1, q⟩ => by
        subst e1
        exact (pbO (hX'.suiE zc hf)).run pins s σ H D I q⟩)
    rw [hX'.K] at this
    exact this
  · refine hb _ σ W F sta r h1 E ?_
    cases r with
    | ok o =>
      cases h2
      show Post _ S.prot σ W F E (D z)
      obtain ⟨Γ', R, hq⟩ := hrt z
      rw [hq] at k ⊢
      exact k
    | er u =>
      intro c' d σ' W' F' kp stp sa hpx
      rw [hX] at hpx
      obtain ⟨rfl, hpd⟩ := hpx
      refine ⟨true, hx u, fun _ a ha => ⟨Cu u, rfl, ?_⟩, fun q => nomatch q⟩
      have hlt : i < Γx.length := by
        cases h : Γx[i]? with
        | none => rw [h] at hi; cases hi
        | some o => exact (List.getElem?_eq_some_iff.mp h).1
      obtain ⟨F3, s4, sub⟩ := sa.put (o := sh (excS a d (Au u))) (v := .ref a) (F1 := []) hlt ⟨rfl, rfl, hpd⟩ (by rw [List.append_nil]; exact sa.fp)
      refine hs u a d _ W' F3 s4 z h2 _ ?_
      have k' := k.before (σ1 := σ'.set i (some (.ref a))) (kp.trans (Keep.set (ncon hp))) (stp.perm fun b hb => by simpa using sub b hb)
      obtain ⟨Γ', R, hq⟩ := hrt z
      rw [hq] at k' ⊢
      exact k'
end
/-! ### f(k = v, ..), f may raise -/
section
variable {X : Cx} {CX : CXT} {k n : Nat} {f : Addr} {fd : FuncData} {ps ks : List Str} {sp : Sp} {E : L2.St → XK} {x : Str} {p pos : Pos} {kws : List Keyword} {t tk : TA} {g : List Value → List Value → List Value} {gV : List V → List V → List V}
theorem run_fnNS {pins : List (Addr × Obj)} {σ : L2.St} {H : Hp} {s : Shared} {Q : VK} {us ws : List Value} {vs zs : List V} (F : FnOk X.prog X.w X.K X.mg X.base CX k f fd ps sp) (hr : Room k X.A) (hb : KBn X.K fd ps n ks g gV) (hx : PassesAt CX X σ (E σ))
    (I : Inv X pins σ H s) (r : Vals vs us) (rz : Vals zs ws) (l1 : vs.length = n) (l2 : zs.length = ks.length) (h : sp (gV vs zs) H Q (E σ)) : wpAny (model X.prog X.w) X.A (call (.ref f) us (ks.zip ws)) (EP X pins σ Q) X.xe s := by
  have r2 := hb.rel r rz
  refine wpAny_call (codeAny_mono (F.run X.A X.stack s H ⟨us, ks.zip ws⟩ (g us ws) (gV vs zs) Q (E σ) hr I.env0 (hb.to s us ws I.kIn (r.length.symm.trans l1) (rz.length.symm.trans l2)) r2 h) fun r s' hq => ?_)
  cases r with
  | error e => exact hx pins H s e s' I hq
  | ok fl =>
    cases fl with
    | ret u => exact I.after hq
    | next => exact False.elim hq
    | brk => exact False.elim hq
    | cont => exact False.elim hq
def tCall0S (m : Nat) (sp : Sp) (gV : List V → List V → List V) (E : L2.St → XK) (tk : TA) : TE := fun σ H Q => tk σ H fun zs H2 => zs.length = m ∧ sp (gV [] zs) H2 Q (E σ)
theorem pe_call0S (F : FnOk X.prog X.w X.K X.mg X.base CX k f fd ps sp) (hr : Room k X.A) (hg : Gl X x) (hm : X.mg x = some (.ref f)) (hk : PySem.W.keepIn X.K (.ref f) = true) (hb : KBn X.K fd ps 0 ks g gV) (hx : ∀ σ, PassesAt CX X σ (E σ)) (hkw : PK X kws tk)
    (hall : (backToKw pos (keywordEach kws X.env)).all (·.1.isSome) = true) (hks : (backToKw pos (keywordEach kws X.env)).filterMap (·.1) = ks) (hdb : (x == ("__debug__" : Str)) = false)
    (hpl : ((backTo pos (starEach [] X.env)).any (·.1) || (backToKw pos (keywordEach kws X.env)).any (·.1.isNone)) = false) : PE X (.Call (.Name x p) [] kws pos) (tCall0S ks.length sp gV E tk) := by
  refine ⟨fun pins s σ H Q I h => ?_⟩
  refine wpAny_Call_Name_kw (ld_glob I hg hm ?_ hdb)
  refine PySem.W.callWith_KW0 (h₀ := X.base) I.ok.mod.kin hk hall ?_ hpl
  refine thn (hkw.run pos pins s σ H _ I h) fun ws s2 ⟨zs, H2, I2, rz, l2, q2⟩ => ⟨I2.kIn, ?_⟩
  rw [hks]
  exact run_fnNS (us := []) (vs := []) F hr hb (hx σ) I2 .nil rz rfl l2 q2
end
section
variable {S : Stc} {Γ Δ : Ctx} {pos : Pos}
theorem jx_call0N {x : Str} {p : Pos} {f : Addr} {fd : FuncData} {ps ks : List Str} {k : Nat} {G : γ → List SP} {Gk : β → List SP} {fM : γ → Option (Res ε ρ)} {R : ρ → OP} {Xp : ε → XP} {mk : Option β} {kws : List Keyword} {gv : List Value → List Value → List Value} {gV : List V → List V → List V} (g : β → γ) (Fn : FnOk S.P S.w S.K S.mg S.base (L2.CX S.P S.w) k f fd ps (spX G fM R Xp)) (hm : S.mg x = some (.ref f)) (kp : PySem.W.keepIn S.K (.ref f) = true) (hb : KBn S.K fd ps 0 ks gv gV)
    (hG : ∀ z B zs, Hets B zs (Gk z) → Hets B (gV [] zs) (G (g z))) (hlk : ∀ z, (Gk z).length = ks.length) (hk : k ≤ S.k) (hkw : JK S kws Γ mk Gk) (hg : GlS S x := by rfl) (hdb : (x == ("__debug__" : Str)) = false := by decide)
    (hall : ∀ env, (backToKw pos (keywordEach kws env)).all (·.1.isSome) = true := by intro _; rfl) (hks : ∀ env, (backToKw pos (keywordEach kws env)).filterMap (·.1) = ks := by intro _; rfl)
    (hpl : ∀ env, ((backTo pos (starEach [] env)).any (·.1) || (backToKw pos (keywordEach kws env)).any (·.1.isNone)) = false := by intro _; rfl) (hcm : S.calm = true := by rfl) : JNX S (.Call (.Name x p) [] kws pos) Γ (mk.bind fun z => fM (g z)) R Xp := fun σ W F st z hz Q kk => by
  obtain ⟨w, h2, h3⟩ := run1 hz
  refine ⟨tCall0S ks.length (spX G fM R Xp) gV (WE S.W) (tkOf S kws), fun X hX => pe_call0S (fnokS Fn hX) ((hX.room hcm).mono hk) (hg.gl hX) (mgS hm hX) (by rw [hX.K]; exact kp) (kbnS hX hb) (fun σ => by rw [← hX.prog, ← hX.w]; exact passAt hX.tk σ) (pkO hX) (hall _) (hks _) hdb (hpl _), ?_⟩
  refine hkw σ W F st w h2 _ fun zs W2 e2 hz => ⟨hz.len.trans (hlk w), ?_⟩
  refine ⟨g w, W2, z, rfl, e2.ok, hG w _ zs hz, h3, ?_⟩
  cases z with
  | ok v => exact Got.ext kk e2
  | er u => exact fun c d W3 e3 hp => kk c d W3 (e2.trans e3) hp
end
end CC
set_option maxHeartbeats 4000000
/-! Exceptions, as printed: outcomes told by TD; isinstance of a handled exception by several classes. -/
namespace CC
open PySem PySem.Spec L2
open PyProof.Rows hiding St
variable {α β γ δ τ υ ω ρ ε κ : Type}
theorem rx_td {Δ Δx : Ctx} {R : α → OP} {Xp : ε → XP} : RX Δ Δx R Xp = TD (fun a => .rt Δ (R a)) Δx Xp := funext fun r => by cases r <;> rfl
theorem td_nonx {D : ω → Kd} {Γx : Ctx} {Xp : ε → XP} (h : ∀ x, NoNx (D x)) : ∀ r, NoNx (TD D Γx Xp r)
  | .ok x => h x
  | .er _ => trivial
theorem td_ends {D : ω → Kd} {Γx : Ctx} {Xp : ε → XP} (h : ∀ x, NoNx (D x) ∧ (∀ Δ, D x ≠ .bk Δ) ∧ ∀ Δ, D x ≠ .ct Δ) : ∀ r, NoNx (TD D Γx Xp r) ∧ (∀ Δ, TD D Γx Xp r ≠ .bk Δ) ∧ ∀ Δ, TD D Γx Xp r ≠ .ct Δ
  | .ok x => h x
  | .er _ => ⟨trivial, nofun, nofun⟩
section
variable {S : Stc} {Γ Δ Δx : Ctx} {a b c e : Expr} {es : List Expr} {pos : Pos} {st : Stmt} {rest A B : List Stmt}
/-- an if whose way is not claimed -/
theorem jb_ifN {mc : Option Bool} {mr : Option ω} {D : ω → Kd} (hc : JT S c Γ mc) (hr : JB S rest Γ mr D) : JB S (.If c A [] pos :: rest) Γ (mc.bind fun b => bif b then none else mr) D := fun σ W F sta z hz E k => by
  obtain ⟨x, h1, h2⟩ := run1 hz
  cases x with
  | true => cases h2
  | false =>
    refine ⟨tSeq (tIfS (ttOf S c) tNever tNext) (tbOf S rest), fun X hX => pss_cons (ps_if (ptO hX) pss_never pss_nil) (pbO hX), ?_⟩
    refine hc σ W F sta false h1 _ fun W' ext => ?_
    have stp : Stp W F W' F := by have := ext.stp (F := F) (Fv := []) (by simp); rwa [List.append_nil] at this
    exact iteF (hr σ W' F (sta.ext ext) z h2 E (k.before Keep.refl stp))
/-- nothing is claimed -/
theorem jb_none {sts : List Stmt} {D : ω → Kd} : JB S sts Γ (none : Option ω) D := fun _ _ _ _ _ h => nomatch h
theorem jb_retT {m : Option (Res ε α)} {R : α → OP} {Xp : ε → XP} (w : Weak Γ Δ) (wx : Weak Γ Δx) (h : JNX S e Γ m R Xp) : JB S (.Return (some e) pos :: rest) Γ m (TD (fun y => .rt Δ (R y)) Δx Xp) := rx_td ▸ jb_retX w wx h
theorem jx_any {E : α → SP} {f : α → PV} {m : Option (Res ε α)} {Xp : ε → XP} (ao : AnyOf E f) (h : JNX S e Γ m (fun x => sh (E x)) Xp) : JNX S e Γ (m.bind fun r => some (mapX f r)) (fun y => sh (anyS y)) Xp := fun σ W F st z hz Q k => by
  obtain ⟨r, h1, h2⟩ := run1 hz
  cases h2
  refine h σ W F st r h1 Q ?_
  cases r with
  | ok x => exact fun v W' Fv e fr fp rr => k v W' Fv e fr fp ⟨rr.1, ao.go W'.B x v rr.2⟩
  | er u => exact k
/-- a pure outcome among those that may raise -/
theorem jb_okT {sts : List Stmt} {m : Option ω} {D : ω → Kd} {Γx : Ctx} {Xp : ε → XP} (h : JB S sts Γ m D) : JB S sts Γ (m.bind fun x => some (Res.ok x)) (TD D Γx Xp) := JB.map h fun _ => rfl
end
theorem fnd_pureT {P : Program} {w : World} {K : PySem.W.Frag} {mg : Str → Option Value} {base : Heap} {x qual : Str} {st : Stmt} {f : Addr} {fd : FuncData} {dvs : List V} {kwd : List (Str × V)} {N ps : List Str} {k : Nat} {G : α → List SP} {fM : α → Option (Res ε ρ)} {R : ρ → OP} {Xp : ε → XP} {Δ : Ctx} (F : FunD K x qual (defArgs st) (defBody st) (defScope st) dvs kwd f fd) (Sc : FnScope N ps (defScope st)) (hG : ∀ a, (G a).length = ps.length) (hn : ps.length ≤ N.length)
    (body : ∀ a (wx : WX), JB { stcOf P w K mg base N (defScope st) k [] with W := wx } (defBody st) (shC (G a) ++ nonC (N.length - ps.length)) (fM a) (TD (fun y => .rt Δ (R y)) Δ Xp)) : FnOk P w K mg base (L2.CX P w) (k + 1) f fd ps (spX G fM R Xp) :=
  fnd_pureX (Δ := Δ) F Sc hG hn fun a wx => rx_td ▸ body a wx
/-! ### isinstance(e, (C, D)) in a suite -/
def tConsts : List V → TA
  | [] => tNil
  | c :: cs => tCons (tC c) (tConsts cs)
def JCl (S : Stc) (es : List Expr) (cs : List V) (us : List Value) : Prop := (∀ X, S.In X → PA X es (tConsts cs)) ∧ Paired ClsV cs us
theorem jcl_nil {S : Stc} : JCl S [] [] [] := ⟨fun _ _ => pa_nil, .nil⟩
theorem jcl_cons {S : Stc} {c : Str} {pc : Pos} {es : List Expr} {cs : List V} {us : List Value} {D : Addr} (hm : S.mg c = some (.ref D)) (h : JCl S es cs us) (hg : GlS S c := by rfl) (hdb : (c == ("__debug__" : Str)) = false := by decide) (hs : ∀ env, starEach (.Name c pc :: es) env = (false, eval (.Name c pc) env) :: starEach es env := by intro _; rfl) : JCl S (.Name c pc :: es) (.ref D :: cs) (.ref D :: us) :=
  ⟨fun X hX => pa_cons (pe_glob (v := .ref D) (hg.gl hX) (mgS hm hX) rfl hdb) (h.1 X hX) (hs _), .cons (.own D) h.2⟩
/-- isinstance(e, (c, d)), e the exception that the suite holds -/
def rIsET (K : PySem.W.Frag) (D a : Addr) (d : Option Addr) : List V → Hp → VK → Prop := fun xs H Q => (∃ o, excD o H d) ∧ ∃ (tp : Addr) (cs : List V) (us : List Value) (b : Bool), xs = [.ref a, .ref tp] ∧ H tp = some (.tup cs) ∧ Paired ClsV cs us ∧ PySem.W.kitAny K (.ref D) us = some b ∧ Q (.bl b) H
theorem call_isET {X : Cx} {a D : Addr} {oe : Obj} {pn : List (Addr × Obj)} {d : Option Addr} (C : ExcC X.K D) (hz : Zc (.ref D) d oe) (hf : ∃ vs, oe.data = .fields vs) : CallR (X.suite a ((a, oe) :: pn)) (.builtin "isinstance") (rIsET X.K D a d) := by
  intro pins s σ H xs us Q I r h
  obtain ⟨hd, tp, cs, ws, b, rfl, hT, k, e, q⟩ := h
  obtain ⟨u1, u2, rfl, r1, r2⟩ := vals2 r
  cases (show u1 = Value.ref a from r1)
  cases (show u2 = Value.ref tp from r2)
  obtain ⟨od', J⟩ := instD I hz hf hd
  obtain ⟨_, its, rv, o, h1, h2, n, h3⟩ := (show ObjOk X.prog X.w H s.heap tp (.tup cs) from I.hok tp _ hT)
  have e3 := ClsV.all k rv
  subst e3
  obtain ⟨oc, od, dt, sl⟩ := o
  simp only at h2 h3
  subst h2 h3
  obtain ⟨cd, hcl, _⟩ := PySem.W.any_some C.hd
  exact PySem.W.kia_tup (PySem.W.kitx_exc (by rw [hcl]; rfl) C.hg C.hk C.hs C.ha C.hn C.ht C.hm) I.kIn J h1 e (fun z => nomatch z) fun tk => ⟨.bl b, H, I.kept (t' := tk) fun _ _ z => z, rfl, q⟩
section
variable {S : Stc} {Γ Δ : Ctx} {pos : Pos}
theorem jn_isETup {x : Str} {es : List Expr} {kt : Nat} {p p1 pt : Pos} {a C : Addr} {b : Bool} {cs : List V} {us : List Value} {d : Option Addr} {o : Option (Str × SP)} (i : Nat) (hex : S.ex = some (a, C, d)) (hE : ExcC S.K C) (hk : PySem.W.kitAny S.K (.ref C) us = some b) (hcl : JCl S es cs us) (hm : S.mg "isinstance" = none) (hi : Γ[i]? = some (some (sh (excS a d o))) := by rfl) (hl : cs.length ≤ 1000 := by exact Nat.le_of_ble_eq_true rfl) (hN : S.N[i]? = some x := by rfl) (hv : Vis S.sc x := by first | exact Or.inl rfl | exact Or.inr (Or.inl rfl) | exact Or.inr (Or.inr rfl)) (hg : GlS S "isinstance" := by rfl)
    (hd : (x == ("__debug__" : Str)) = false := by decide) (hcd : (x == ("__classdict__" : Str)) = false := by decide)
    (hs : ∀ env, starEach [.Name x p1, .Tuple es kt pt] env = [(false, eval (.Name x p1) env), (false, eval (.Tuple es kt pt) env)] := by intro _; rfl) (hs2 : ∀ env, starEach [Expr.Tuple es kt pt] env = [(false, eval (.Tuple es kt pt) env)] := by intro _; rfl) :
    JN S (.Call (.Name "isinstance" p) [.Name x p1, .Tuple es kt pt] [] pos) Γ (some b) fun z => sh (boolS z) := fun σ W F sta z hz Q kq => by
  cases hz
  obtain ⟨v, h1, h2⟩ := sta.get hi
  obtain ⟨rfl, h2⟩ := h2
  refine ⟨tCB (rIsET S.K C a d) (tCons (tVar i) (tCons (tTup (tConsts cs)) tNil)), fun X hX => ?_, ?_⟩
  · obtain ⟨X', oe, pn, rfl, hz, hf⟩ := hX.ex a C d hex
    have hc : CallR (X'.suite a ((a, oe) :: pn)) (.builtin "isinstance") (rIsET S.K C a d) := by
      have e : (X'.suite a ((a, oe) :: pn)).K = S.K := hX.K
      have := call_isET (X := X') (a := a) (pn := pn) (by rw [show X'.K = S.K from e]; exact hE) hz hf
      rw [show X'.K = S.K from e] at this
      exact this
    exact pe_callB hc (hg.gl hX) (mgS hm hX) (by decide +kernel) (pa_cons (pe_var (by rw [hX.N]; exact hN) (visS hv hX) hd hcd) (pa_cons (pe_tup (hcl.1 _ hX)) pa_nil (hs2 _)) ((hs _).trans (by rw [hs2]))) (by decide) (by decide) ((hs _).trans (by rw [hs2])) (by rw [hs2]; rfl)
  · refine ⟨.ref a, h1, ?_⟩
    have go : ∀ (cs : List V) (H : Hp) (Q : List V → Hp → Prop), Q cs H → tConsts cs σ H Q := by
      intro cs
      induction cs with
      | nil => intro H Q q; exact q
      | cons c cs ih => intro H Q q; exact ih H _ q
    refine go cs W.H _ ⟨Nat.le_trans hl (by decide), fun q hq => ?_⟩
    have e2 := Ext.newB sta.ok (o := .tup cs) hq
    refine ⟨⟨o, excD_mono h2 (sta.ok.trans e2.h)⟩, q, cs, us, b, rfl, upd_same, hcl.2, hk, ?_⟩
    exact (kq.ext (W1 := ⟨upd W.H q (.tup cs), upd W.B q (.tup cs)⟩) e2).val e2.ok rfl
end
end CC
set_option maxHeartbeats 4000000
/-! enumerate over a tuple. -/
namespace CC
open PySem PySem.Spec L2
open PyProof.Rows hiding St
open PySem (Draws Begins begins_tuple)
open AutoSeq1 (wpAny_loadPart')
theorem meets_enumT {v : Value} {o : Obj} {H : Heap → Prop} (B : Begins v o H) :
    Meets (Builtin.«enumerate.__new__» ⟨[.type "enumerate", v], []⟩) (fun _ R s => H s.heap ∧
      R (.ok (.ret (.ref (s.heap.push o).objs.size))) { s with heap := (s.heap.push o).push { cls := .type "enumerate", data := .fields #[.none, .bool false, .ref s.heap.objs.size, rawInt 0, .none, .none] } }) :=
  .of_wp fun prog w A R s h => by
    obtain ⟨hp, g, d, tk, os⟩ := s; obtain ⟨h1, h⟩ := h
    have hsub := sub_enumerate
    have q1 : ∀ {A' : Around} {E : Value → Shared → Prop} {Q : Value → Shared → Prop}, Q (.ref hp.objs.size) ⟨hp.push o, g, d, tk, os⟩ → wpAny (model prog w) A' (pyIter v) Q E ⟨hp, g, d, tk, os⟩ :=
      fun q => B.iter prog w _ _ ⟨hp, g, d, tk, os⟩ _ h1 q
    wp_walk using q1
    refine wpAny_stack_any fun st => wpAny_pure ?_
    split
    · rename_i c _ _ _ _ _
      cases (c == Value.type "enumerate")
      · wp_walk using q1
        exact ⟨_, rfl, h⟩
      · wp_walk using q1
        exact ⟨_, rfl, h⟩
    · wp_walk using q1
      exact ⟨_, rfl, h⟩
theorem call_enumT {prog : Program} {w : World} {A : Around} {E : Value → Shared → Prop} {s : Shared} {v : Value} {o : Obj} {H : Heap → Prop} {Q : Value → Shared → Prop} (B : Begins v o H) (h1 : H s.heap)
    (h : ∀ h', IsEnum h' (s.heap.objs.size + 1) s.heap.objs.size 0 .none → h'.get? s.heap.objs.size = some o → h'.objs.size = s.heap.objs.size + 2 →
      (∀ b o, s.heap.get? b = some o → h'.get? b = some o) → Q (.ref (s.heap.objs.size + 1)) { s with heap := h' }) :
    wpAny (model prog w) A (call (.type "enumerate") [v]) Q E s := by
  refine callType_new F.called_enumerate (by decide) (F.typeCall_enumerate_1 _) (F.newCall_enumerate_1 _) (fun obj => F.args_object_init_2 obj _) F.entry_enumerate_new
    (meets_enumT B) ⟨h1, ?_⟩
  have hz : (s.heap.push o).objs.size = s.heap.objs.size + 1 := Heap.size_push ..
  show _ ∧ _
  rw [hz]
  have he : IsEnum ((s.heap.push o).push { cls := .type "enumerate", data := .fields #[.none, .bool false, .ref s.heap.objs.size, rawInt 0, .none, .none] }) (s.heap.objs.size + 1) s.heap.objs.size 0 .none := by
    have := Heap.get?_push_size (s.heap.push o) (o := { cls := .type "enumerate", data := .fields #[.none, .bool false, .ref s.heap.objs.size, rawInt 0, .none, .none] }) rfl
    rw [hz] at this; exact this
  refine ⟨⟨_, he, rfl⟩, h _ he (Heap.get?_push_of_some _ (Heap.get?_push_size _ B.free)) (by rw [Heap.size_push, hz]) fun b o x => Heap.get?_push_of_some _ (Heap.get?_push_of_some _ x)⟩
theorem wpAny_pyNext_enum_endT {prog : Program} {w : World} {A : Around} {E : Value → Shared → Prop} {s : Shared} {e it t : Addr} {i : Nat} {items : Array Value} {old : Value} {Q : Option Value → Shared → Prop} (hh : A.handled = none)
    (he : IsEnum s.heap e it i old) (hit : s.heap.IsTupleIter it t i) (ht : s.heap.IsTuple t items) (hx : items[i]? = none)
    (hQ : ∀ h', Heap.ExtBut it s.heap h' → Q none { s with heap := h' }) : wpAny (model prog w) A (pyNext (.ref e)) Q E s := by
  have hT : s.TypeIs (.ref e) "enumerate" := ⟨_, he, rfl⟩
  unfold pyNext
  refine wpAny_bind (wpAny_attempt (wpAny_callSpecial?_slot (name := Str.ofString "__next__") hT F.slot_enumerate_next
    (wpAny_call_entry F.slot_enumerate_next hT F.entry_enumerate_next ?_ (F.args_enumerate_next_1 _))))
  show wpAny _ _ (field (.ref e) 2 >>= _) _ _ _
  refine wpAny_bind (wpAny_field he rfl (x := .ref it) rfl ?_)
  refine wpAny_bind (wpAny_nextOf_tuple_end hh hit ht hx fun h' x he' hx' => ?_)
  obtain ⟨o, ho, hc⟩ := hx'
  refine wpAny_bind (wpAny_isInstance (T := "StopIteration") (b := true) ⟨o, ho, hc⟩ isSubtype_stop ?_)
  exact wpAny_pure (hQ _ he')
/-- the tuple at a, each item in a new pair -/
def IteT (K : PySem.W.Frag) (a : Addr) : It :=
  ⟨fun i H => ∃ (xs : List V) (x : V), SqT K H a xs ∧ xs[i]? = some x, fun i H v H' => ∃ T x, v = .ref T ∧ H T = none ∧ H' = upd H T (.tup [.int (i : Nat), x]) ∧ ∀ xs, SqT K H a xs → xs[i]? = some x, fun i H => ∃ xs : List V, SqT K H a xs ∧ xs.length ≤ i⟩
theorem turn_enumT {P : Program} {w : World} {K : PySem.W.Frag} {elts : List Expr} {kk : Nat} {tpos : Pos} (a e it : Addr) (its : Array Value) :
    Turn P w K (.Tuple elts kk tpos) (IteT K a) [e, it] e (fun i h => (∃ old, IsEnum h e it ((i : Nat) : Int) old) ∧ h.IsTupleIter it a i ∧ e ≠ it) where
  mem := by simp
  obj := fun i h st b hb => by
    obtain ⟨⟨old, he⟩, ⟨o, ho, hc, hd⟩, _⟩ := st
    have e' : b = e ∨ b = it := by simpa using hb
    rcases e' with z | z
    · rw [z]; exact ⟨_, he, fun v q => nomatch q⟩
    · rw [z]; exact ⟨o, ho, fun v q => by rw [hd] at q; cases q⟩
  keep := fun i h h' st k => by
    obtain ⟨⟨old, he⟩, ⟨o, ho, r⟩, hne⟩ := st
    exact ⟨⟨old, k e (by simp) _ he⟩, ⟨o, k it (by simp) o ho, r⟩, hne⟩
  item := by
    intro X hP hw hK hc i pins s σ H E I hf st hg
    subst hP hw hK
    obtain ⟨⟨old, he⟩, hit, hne⟩ := st
    obtain ⟨xs, x, hq, hx⟩ := hg
    obtain ⟨its, rv, p, hz⟩ := I.tuple hq
    obtain ⟨u, hu, ru⟩ := rv.get hx
    have hel : e < s.heap.objs.size := Heap.lt_size he
    have hil : it < s.heap.objs.size := by obtain ⟨_, q, _⟩ := hit; exact Heap.lt_size q
    have pT : s.heap.IsTuple a its.toArray := p
    obtain ⟨oa, hoa, hca, na, hda⟩ := id pT
    have hai : a ≠ it := fun z => by
      obtain ⟨o, ho, hc, _⟩ := hit
      rw [← z, hoa] at ho
      cases ho
      rw [hca] at hc
      exact absurd hc (by decide)
    have hea : e ≠ a := fun z => by
      have he' : s.heap.get? e = _ := he
      rw [z, hoa] at he'
      cases he'
      exact absurd (show Value.type "enumerate" = Value.type "tuple" from hca) (by decide)
    refine wpAny_pyNext_enum_itemD (D := Draws.tuple (A := X.A.in1) (I.ok.hd hc) it a hai its.toArray) he ⟨hit, pT⟩ (by have := (List.getElem?_eq_some_iff.mp hu).1; simpa using this) hne (by simp [hne, hea]) fun y h' tk hy ho hst hT hsz hk => ?_
    have ey : y = u := by
      have h1 : its.toArray[i]? = some y := hy
      simp only [List.getElem?_toArray] at h1
      rw [hu] at h1
      exact (Option.some.inj h1).symm
    subst ey
    obtain ⟨hit', _⟩ := hst
    refine ⟨_, rfl, wpAny_letOwnedTupleGo_enum (s := { s with heap := h', toks := tk + 1 }) ho fun h'' he' sb => ?_⟩
    have hT2 : h''.get? s.heap.objs.size = some { cls := .type "tuple", data := .seq #[.int i tk, y] } := (sb.2 _ (Nat.ne_of_gt hel)).trans hT
    have new : ObjOk X.prog X.w (upd H s.heap.objs.size (.tup [.int (i : Nat), x])) h'' s.heap.objs.size (.tup [.int (i : Nat), x]) :=
      ⟨by show 2 ≤ sizeLine; decide, [.int i tk, y], .cons ⟨_, rfl⟩ (.cons ru .nil), ⟨_, hT2, rfl, _, rfl⟩⟩
    have I1 : Inv X pins σ (upd H s.heap.objs.size (.tup [.int (i : Nat), x])) { s with heap := h'', toks := tk + 1 } :=
      I.turnedNew (ch := [e, it]) (fun b ob hb q => (sb.2 b (fun z => hb (by simp [z]))).trans (hk b ob (fun z => hb (by simp [z])) (fun z => hb (by simp [z])) q)) hf (Nat.le_refl _) new
    refine ⟨.ref s.heap.objs.size, _, I1, rfl, ⟨_, x, rfl, I.hok.fresh (Nat.le_refl _), rfl, fun ys hy => by rw [I.tuple_inj hy hq]; exact hx⟩, ⟨⟨y, ?_⟩, ?_, hne⟩, fun b hb => ?_⟩
    · have e1 : ((i + 1 : Nat) : Int) = (i : Int) + 1 := by omega
      rw [e1]; exact he'
    · obtain ⟨o, q, r⟩ := hit'
      exact ⟨o, (sb.2 it (Ne.symm hne)).trans q, r⟩
    · have hb' : b < s.heap.objs.size := by
        have e' : b = e ∨ b = it := by simpa using hb
        rcases e' with z | z
        · rw [z]; exact hel
        · rw [z]; exact hil
      rw [upd_ne (Nat.ne_of_lt hb')]
      exact (hf b hb).1
  done := by
    intro X hP hw hK hc i pins s σ H E I hf st hg
    subst hP hw hK
    obtain ⟨⟨old, he⟩, hit, hne⟩ := st
    obtain ⟨xs, hq, hx⟩ := hg
    obtain ⟨its, rv, p, hz⟩ := I.tuple hq
    obtain ⟨f0, f1, f2, f3, f4, f5⟩ := hf it (by simp)
    have hl := rv.length
    have pT : s.heap.IsTuple a its.toArray := p
    obtain ⟨oa, hoa, hca, na, hda⟩ := id pT
    have hai : a ≠ it := fun z => by
      obtain ⟨o, ho, hc, _⟩ := hit
      rw [← z, hoa] at ho
      cases ho
      rw [hca] at hc
      exact absurd hc (by decide)
    exact wpAny_pyNext_enum_endT (I.ok.hd hc) he hit pT (by simp; omega) fun h' eb => ⟨rfl, I.turned (t' := s.toks) (fun b o hb q => eb b o hb q) f0 f1 f3 f4 f5⟩
  self := fun A i s Q E st h => let ⟨⟨_, he⟩, _⟩ := st; wpAny_pyIter_enum he h
def iEnumT (K : PySem.W.Frag) (ta : TA) : TI := fun σ H R => ta σ H fun vs H1 => ∃ a xs, vs = [.ref a] ∧ SqT K H1 a xs ∧ R (IteT K a) H1
theorem pi_enumT {X : Cx} {e : Expr} {ta : TA} {p pos tpos : Pos} {elts : List Expr} {kk : Nat} (hg : Gl X "enumerate") (hm : X.mg "enumerate" = none) (ha : PA X [e] ta) (hs : starEach [e] X.env = [(false, eval e X.env)] := by rfl) :
    PI X (.Tuple elts kk tpos) (.Call (.Name "enumerate" p) [e] [] pos) (iEnumT X.K ta) := by
  refine ⟨fun pins s σ H R I h => ?_⟩
  refine Call_ (ld_blt I hg hm boot_enumerate (PyProof.Rows.callWith_type1 (thn (ha.run pos pins s σ H _ I h) fun us s1 ⟨vs, H1, I1, r1, q1⟩ => ?_) hs rfl))
  obtain ⟨a, xs, ex, hq, q⟩ := q1
  subst ex
  cases r1 with
  | cons r rr =>
    cases rr
    cases r
    obtain ⟨its, rv, p', hz⟩ := I1.tuple hq
    have pT : s1.heap.IsTuple a its.toArray := p'
    refine call_enumT (begins_tuple a its.toArray) pT fun h' he hit hsz hk => wpAny_pyIter_enum he ?_
    have I2 : Inv X pins σ H1 { s1 with heap := h' } := I1.kept (t' := s1.toks) hk
    refine ⟨s1.heap.objs.size + 1, [s1.heap.objs.size + 1, s1.heap.objs.size], _, _, H1, rfl, I2, turn_enumT a (s1.heap.objs.size + 1) s1.heap.objs.size #[], ⟨⟨.none, he⟩, ⟨_, hit, rfl, rfl⟩, Nat.succ_ne_self _⟩, fun b hb => ?_, q⟩
    have e' : b = s1.heap.objs.size + 1 ∨ b = s1.heap.objs.size := by simpa using hb
    have hle : s1.heap.objs.size ≤ b := by
      rcases e' with z | z
      · rw [z]; exact Nat.le_add_right _ _
      · rw [z]; exact Nat.le_refl _
    exact I1.fpOk hle (I1.hok.fresh hle)
/-! ### .. in the judgements -/
variable {α β γ δ τ υ ω ρ ε : Type}
def enumL : Nat → List α → List (Int × α)
  | _, [] => []
  | k, x :: xs => ((k : Int), x) :: enumL (k + 1) xs
theorem enumL_get : ∀ {xs : List α} {k i : Nat}, (enumL k xs)[i]? = xs[i]?.map fun x => (((k + i : Nat) : Int), x)
  | [], k, i => by simp [enumL]
  | x :: xs, k, 0 => by simp [enumL]
  | x :: xs, k, i + 1 => by
    have := enumL_get (xs := xs) (k := k + 1) (i := i)
    simp only [enumL, List.getElem?_cons_succ, this]
    rw [show k + 1 + i = k + (i + 1) by omega]
theorem enumL_len {xs : List α} {k : Nat} : (enumL k xs).length = xs.length := by
  induction xs generalizing k with
  | nil => rfl
  | cons x xs ih => simp [enumL, ih]
theorem ok_enumT {K : PySem.W.Frag} {C : Wd → Prop} {p : Addr} {xs : List α} {E : α → SP} (h : ∀ W1, C W1 → Ex W1.B W1.H ∧ ∃ vs, W1.H p = some (.tup vs) ∧ Each E W1.B vs xs) : ItOk (IteT K p) C (enumL 0 xs) (prS intS E) := fun W1 c => by
  obtain ⟨ok, vs, h1, h2⟩ := h W1 c
  have hq : SqT K W1.H p vs := .inl (.inl h1)
  refine ⟨fun i x hx => ?_, fun i hi => ⟨vs, hq, by rw [h2.len]; rw [enumL_len] at hi; exact hi⟩⟩
  rw [enumL_get] at hx
  cases hxi : xs[i]? with
  | none => rw [hxi] at hx; cases hx
  | some y =>
    rw [hxi] at hx
    cases hx
    obtain ⟨v, hv, pv⟩ := h2.get hxi
    refine ⟨⟨vs, v, hq, hv⟩, fun u H' ⟨T, x', e1, e2, e3, e4⟩ => ?_⟩
    have q := e4 vs hq
    rw [hv] at q
    cases q
    subst e1 e3
    have e2' := Ext.newB ok (o := .tup [.int (i : Nat), v]) e2
    refine ⟨⟨upd W1.H T (.tup [.int (i : Nat), v]), upd W1.B T (.tup [.int (i : Nat), v])⟩, rfl, e2', T, [.int (i : Nat), v], rfl, upd_same, ?_⟩
    refine ⟨?_, SP.mono _ pv e2'.b, trivial⟩
    show V.int (i : Nat) = V.int (((0 + i : Nat) : Int))
    rw [Nat.zero_add]
theorem ok_enumL {K : PySem.W.Frag} {C : Wd → Prop} {p : Addr} {xs : List α} {E : α → SP} (h : ∀ W1, C W1 → Ex W1.B W1.H ∧ ∃ vs, W1.H p = some (.lst vs) ∧ Each E W1.B vs xs) : ItOk (Ite K p) C (enumL 0 xs) (prS intS E) := fun W1 c => by
  obtain ⟨ok, vs, h1, h2⟩ := h W1 c
  have hq : SqL K W1.H p vs := .inl (.inl h1)
  refine ⟨fun i x hx => ?_, fun i hi => ⟨vs, hq, by rw [h2.len]; rw [enumL_len] at hi; exact hi⟩⟩
  rw [enumL_get] at hx
  cases hxi : xs[i]? with
  | none => rw [hxi] at hx; cases hx
  | some y =>
    rw [hxi] at hx
    cases hx
    obtain ⟨v, hv, pv⟩ := h2.get hxi
    refine ⟨⟨vs, v, hq, hv⟩, fun u H' ⟨T, x', e1, e2, e3, e4⟩ => ?_⟩
    have q := e4 vs hq
    rw [hv] at q
    cases q
    subst e1 e3
    have e2' := Ext.newB ok (o := .tup [.int (i : Nat), v]) e2
    refine ⟨⟨upd W1.H T (.tup [.int (i : Nat), v]), upd W1.B T (.tup [.int (i : Nat), v])⟩, rfl, e2', T, [.int (i : Nat), v], rfl, upd_same, ?_⟩
    refine ⟨?_, SP.mono _ pv e2'.b, trivial⟩
    show V.int (i : Nat) = V.int (((0 + i : Nat) : Int))
    rw [Nat.zero_add]
section
variable {S : Stc} {Γ Δ : Ctx} {a b c e tg iter elt : Expr} {es ifs : List Expr} {pos : Pos}
theorem ji_enumT {p tpos : Pos} {elts : List Expr} {kk : Nat} {m : Option (List α)} {E : α → SP} (hm : S.mg "enumerate" = none) (h : JN S a Γ m fun xs => sh (tupS E xs)) (hg : GlS S "enumerate" := by rfl) (hs : ∀ env, starEach [a] env = [(false, eval a env)] := by intro _; rfl) :
    JI S (.Tuple elts kk tpos) (.Call (.Name "enumerate" p) [a] [] pos) Γ (m.bind fun xs => some (enumL 0 xs)) (prS intS E) := fun σ W F st xs hx R k => by
  obtain ⟨ys, h1, h2⟩ := run1 hx
  cases h2
  refine ⟨iEnumT S.K (tCons (tOf S a) tNil), fun X hX => hX.K ▸ pi_enumT (hg.gl hX) (mgS hm hX) (pa_cons (peO hX) pa_nil (hs _)) (hs _), h σ W F st ys h1 _ fun v W' Fv ext _ _ r => ?_⟩
  obtain ⟨_, a, vs, rfl, h2, h3⟩ := r
  exact ⟨a, vs, rfl, .inl (.inl (ext.ok a _ h2)), k _ W' ext (ok_enumT fun W1 c => ⟨c.1, vs, c.1 a _ (c.2 a _ h2), h3.mono c.2⟩)⟩
theorem ji_enumL {p tpos : Pos} {elts : List Expr} {kk : Nat} {m : Option (List α)} {E : α → SP} (hm : S.mg "enumerate" = none) (h : JN S a Γ m fun xs => sh (lstS E xs)) (hg : GlS S "enumerate" := by rfl) (hs : ∀ env, starEach [a] env = [(false, eval a env)] := by intro _; rfl) :
    JI S (.Tuple elts kk tpos) (.Call (.Name "enumerate" p) [a] [] pos) Γ (m.bind fun xs => some (enumL 0 xs)) (prS intS E) := fun σ W F st xs hx R k => by
  obtain ⟨ys, h1, h2⟩ := run1 hx
  cases h2
  refine ⟨iEnum S.K (tCons (tOf S a) tNil), fun X hX => hX.K ▸ pi_enum (hg.gl hX) (mgS hm hX) (pa_cons (peO hX) pa_nil (hs _)) (hs _), h σ W F st ys h1 _ fun v W' Fv ext _ _ r => ?_⟩
  obtain ⟨_, a, vs, rfl, h2, h3⟩ := r
  exact ⟨a, vs, rfl, .inl (.inl (ext.ok a _ h2)), k _ W' ext (ok_enumL fun W1 c => ⟨c.1, vs, c.1 a _ (c.2 a _ h2), h3.mono c.2⟩)⟩
end
end CC
set_option maxHeartbeats 4000000
/-! Bits, truth, slices, insert, order of tuples. -/
namespace CC
open PySem PySem.Spec L2
open PyProof.Rows hiding St
variable {α β γ δ τ υ ω ρ ε : Type}
/-! ### bits -/
def bAnd (x y : Int) : Int := Builtin.bitAnd x y
def bOr (x y : Int) : Int := Builtin.bitOr x y
def bXor (x y : Int) : Int := Builtin.bitXor x y
def bNot (x : Int) : Int := Builtin.bitNot x
def shlO (x j : Int) : Option Int := if 0 ≤ j ∧ j ≤ 1000000 ∧ x.natAbs < 2 ^ 64 then some (x * 2 ^ j.toNat) else none
def shrO (x j : Int) : Option Int := if 0 ≤ j then some (x / 2 ^ j.toNat) else none
def powO (x j : Int) : Option Int := if 0 ≤ j ∧ j ≤ 1000000 ∧ x.natAbs < 2 ^ 64 then some (x ^ j.toNat) else none
theorem ov_bAnd : OpV (rI0 fun i j => .int (Builtin.bitAnd i j)) intS intS (fun x y => some (bAnd x y)) fun z => sh (intS z) := ov_I0 fun _ _ _ => rfl
theorem ov_bOr : OpV (rI0 fun i j => .int (Builtin.bitOr i j)) intS intS (fun x y => some (bOr x y)) fun z => sh (intS z) := ov_I0 fun _ _ _ => rfl
theorem ov_bXor : OpV (rI0 fun i j => .int (Builtin.bitXor i j)) intS intS (fun x y => some (bXor x y)) fun z => sh (intS z) := ov_I0 fun _ _ _ => rfl
theorem ov_shl : OpV (rI CPow fun i j => .int (i * 2 ^ j.toNat)) intS intS shlO fun z => sh (intS z) := ov_I fun i j z h => by
  unfold shlO at h
  split at h
  · cases h
    rename_i c
    exact ⟨c, fun _ => rfl⟩
  · cases h
theorem ov_pow : OpV (rI CPow fun i j => .int (i ^ j.toNat)) intS intS powO fun z => sh (intS z) := ov_I fun i j z h => by
  unfold powO at h
  split at h
  · cases h
    rename_i c
    exact ⟨c, fun _ => rfl⟩
  · cases h
theorem ov_shr : OpV (rI (fun _ j => 0 ≤ j) fun i j => .int (i / 2 ^ j.toNat)) intS intS shrO fun z => sh (intS z) := ov_I fun i j z h => by
  unfold shrO at h
  split at h
  · cases h
    rename_i c
    exact ⟨c, fun _ => rfl⟩
  · cases h
section
variable {S : Stc}
theorem oBAnd : ∀ X, S.In X → OpR X (binaryOp .BitAnd) (rI0 fun i j => .int (Builtin.bitAnd i j)) := fun _ _ => op_and
theorem oBOr : ∀ X, S.In X → OpR X (binaryOp .BitOr) (rI0 fun i j => .int (Builtin.bitOr i j)) := fun _ _ => op_or
theorem oBXor : ∀ X, S.In X → OpR X (binaryOp .BitXor) (rI0 fun i j => .int (Builtin.bitXor i j)) := fun _ _ => op_xor
theorem oShl : ∀ X, S.In X → OpR X (binaryOp .LShift) (rI CPow fun i j => .int (i * 2 ^ j.toNat)) := fun _ _ => op_shl
theorem oPow : ∀ X, S.In X → OpR X (binaryOp .Pow) (rI CPow fun i j => .int (i ^ j.toNat)) := fun _ _ => op_pow
theorem oShr : ∀ X, S.In X → OpR X (binaryOp .RShift) (rI (fun _ j => 0 ≤ j) fun i j => .int (i / 2 ^ j.toNat)) := fun _ _ => op_shr
theorem oLtT : ∀ X, S.In X → OpR X (compareOp .Lt) (rLtT S.K) := fun X h => h.K ▸ op_ltT (by have := h.un; omega)
theorem oLeT : ∀ X, S.In X → OpR X (compareOp .LtE) (rLeT S.K) := fun X h => h.K ▸ op_leT (by have := h.un; omega)
end
section
variable {S : Stc} {Γ Δ : Ctx} {a b c e tg iter elt : Expr} {es ifs : List Expr} {pos : Pos} {st : Stmt} {rest A B : List Stmt}
theorem jn_inv {ma : Option Int} (ha : JN S a Γ ma fun x => sh (intS x)) : JN S (.UnaryOp .Invert a pos) Γ (ma.bind fun x => some (bNot x)) fun z => sh (intS z) :=
  jn_un (f := fun x : Int => some (bNot x)) (fun _ _ => un_inv) (fun W x v z ok h e Q k => by cases e; cases h; exact ⟨x, rfl, k.val ok rfl⟩) ha
/-- x.bit_length() -/
def bitLen (x : Int) : Int := (Builtin.Int.intBits x : Nat)
theorem jn_bits {apos : Pos} {ma : Option Int} (ha : JN S a Γ ma fun x => sh (intS x)) (hbase : ∀ env, attributeBase a "bit_length" env (eval a env) = eval a env := by intro _; rfl) (hline : (apos.endLine == pos.line) = true := by rfl) : JN S (.Call (.Attribute a "bit_length" apos) [] [] pos) Γ (ma.bind fun x => some (bitLen x)) fun z => sh (intS z) := fun σ W F sta z hz Q k => by
  obtain ⟨x, h1, h2⟩ := run1 hz
  cases h2
  exact ⟨tBits (tOf S a), fun X hX => pe_bits (peO hX) (hbase _) hline, ha σ W F sta x h1 _ fun v W' Fv e _ _ r => ⟨x, r.2, (k.ext e).val e.ok rfl⟩⟩
/-! ### truth of a value -/
def tTru (K : PySem.W.Frag) (t : TE) : TT := fun σ H Q => t σ H fun x H' => ∃ k, TruV K x H' k ∧ Q k H'
theorem jt_truI {m : Option Int} (h : JN S e Γ m fun z => sh (intS z)) (he : ∀ env whole, isTrue e env whole = (do let v ← whole; standAt e.pos; holding [v] (truthy v)) := by intro _ _; rfl) : JT S e Γ (m.bind fun x => some (x != 0)) := fun σ W F st z hz Q k => by
  obtain ⟨x, h1, h2⟩ := run1 hz
  cases h2
  exact ⟨tTru S.K (tOf S e), fun X hX => hX.K ▸ pt_truth (peO hX) (he _), h σ W F st x h1 _ fun v W' Fv e _ _ r => ⟨x != 0, by rw [r.2]; rfl, k W' e⟩⟩
theorem jt_truT {m : Option (List α)} {E : α → SP} (h : JN S e Γ m fun z => sh (tupS E z)) (he : ∀ env whole, isTrue e env whole = (do let v ← whole; standAt e.pos; holding [v] (truthy v)) := by intro _ _; rfl) : JT S e Γ (m.bind fun x => some (!x.isEmpty)) := fun σ W F st z hz Q k => by
  obtain ⟨x, h1, h2⟩ := run1 hz
  cases h2
  refine ⟨tTru S.K (tOf S e), fun X hX => hX.K ▸ pt_truth (peO hX) (he _), h σ W F st x h1 _ fun v W' Fv e _ _ r => ?_⟩
  obtain ⟨_, p, vs, rfl, q2, q3⟩ := r
  refine ⟨!x.isEmpty, .inr (.inl ⟨vs, .inl (.inl (e.ok p _ q2)), ?_⟩), k W' e⟩
  have := q3.len
  cases vs <;> cases x <;> simp at this ⊢
theorem jt_truL {m : Option (List α)} {E : α → SP} (h : JN S e Γ m fun z => sh (lstS E z)) (he : ∀ env whole, isTrue e env whole = (do let v ← whole; standAt e.pos; holding [v] (truthy v)) := by intro _ _; rfl) : JT S e Γ (m.bind fun x => some (!x.isEmpty)) := fun σ W F st z hz Q k => by
  obtain ⟨x, h1, h2⟩ := run1 hz
  cases h2
  refine ⟨tTru S.K (tOf S e), fun X hX => hX.K ▸ pt_truth (peO hX) (he _), h σ W F st x h1 _ fun v W' Fv e _ _ r => ?_⟩
  obtain ⟨_, p, vs, rfl, q2, q3⟩ := r
  refine ⟨!x.isEmpty, .inl ⟨vs, .inl (.inl (e.ok p _ q2)), ?_⟩, k W' e⟩
  have := q3.len
  cases vs <;> cases x <;> simp at this ⊢
theorem jt_truO {m : Option (List α)} {E : α → OP} (h : JR S e Γ m (lstO E)) (he : ∀ env whole, isTrue e env whole = (do let v ← whole; standAt e.pos; holding [v] (truthy v)) := by intro _ _; rfl) : JT S e Γ (m.bind fun x => some (!x.isEmpty)) := fun σ W F st z hz Q k => by
  obtain ⟨x, h1, h2⟩ := run1 hz
  cases h2
  refine ⟨tTru S.K (tOf S e), fun X hX => hX.K ▸ pt_truth (peO hX) (he _), h σ W F st x h1 _ fun v W' e ⟨F1, r, _⟩ => ?_⟩
  obtain ⟨p, vs, F2, rfl, q2, _, q3⟩ := r
  refine ⟨!x.isEmpty, .inl ⟨vs, .inl (.inl q2), ?_⟩, k W' e⟩
  have := q3.len
  cases vs <;> cases x <;> simp at this ⊢
/-! ### order of pairs of ints -/
def ltPI (x y : Int × Int) : Bool := if x.1 = y.1 then decide (x.2 < y.2) else decide (x.1 < y.1)
theorem prI_sq {K : PySem.W.Frag} {W : Wd} {x : Int × Int} {v : V} (ok : Ex W.B W.H) (h : (prS intS intS x).P W.B v) : ∃ a, v = .ref a ∧ SqT K W.H a ([x.1, x.2].map V.int) := by
  obtain ⟨a, vs, rfl, h2, h3⟩ := h
  obtain ⟨u, w, rfl, a1, a2⟩ := hts2 h3
  cases a1
  cases a2
  exact ⟨a, rfl, .inl (.inl (ok a _ h2))⟩
theorem ov_ltPI {K : PySem.W.Frag} : OpV (rLtT K) (prS intS intS) (prS intS intS) (fun x y => some (ltPI x y)) fun z => sh (boolS z) := fun W x y v u z ok hx hy e Q k => by
  cases e
  obtain ⟨a, rfl, ha⟩ := prI_sq (K := K) ok hx
  obtain ⟨b, rfl, hb⟩ := prI_sq (K := K) ok hy
  refine ⟨a, b, _, _, rfl, rfl, ha, hb, k.val ok ?_⟩
  show V.bl (HT.lexLt [x.1, x.2] [y.1, y.2]) = V.bl (ltPI x y)
  congr 1
  unfold ltPI
  simp only [HT.lexLt_cons, HT.lexLt_nil_nil]
  split
  · by_cases h : x.2 = y.2
    · rw [if_pos h]; simp [h]
    · rw [if_neg h]
  · rfl
/-! ### slices -/
def cutL (xs : List α) (lo hi : Option Int) : List α := (xs.drop (HT.sIx xs.length 0 lo)).take (HT.sIx xs.length xs.length hi - HT.sIx xs.length 0 lo)
theorem each_cut {E : α → SP} {B : Hp} {vs : List V} {xs : List α} (h : Each E B vs xs) (lo hi : Option Int) : Each E B (cutV vs lo hi) (cutL xs lo hi) := by
  unfold cutV cutL
  rw [h.len]
  exact (h.drop _).take _
def toOf (S : Stc) (o : Option Expr) : TO := fun σ H Q => ∃ t : TO, (∀ X, S.In X → PO X o t) ∧ t σ H Q
theorem poO {X : Cx} {o : Option Expr} (h : S.In X) : PO X o (toOf S o) := ⟨fun pins s σ H Q I ⟨_, p, q⟩ => (p X h).run pins s σ H Q I q⟩
def JO (S : Stc) (o : Option Expr) (Γ : Ctx) (m : Option (Option Int)) : Prop :=
  ∀ σ W F, Sta Γ σ W F → ∀ x, m = some x → ∀ Q : Option Int → Hp → Prop, (∀ W', Ext W W' → Q x W'.H) → toOf S o σ W.H Q
theorem jo_none : JO S none Γ (some none) := fun σ W F st x hx Q k => by
  cases hx
  exact ⟨tNoPart, fun _ _ => po_none, k W (Ext.refl st.ok)⟩
theorem jo_some {m : Option Int} (h : JN S e Γ m fun z => sh (intS z)) : JO S (some e) Γ (m.bind fun x => some (some x)) := fun σ W F st x hx Q k => by
  obtain ⟨y, h1, h2⟩ := run1 hx
  cases h2
  exact ⟨tPart (tOf S e), fun X hX => po_some (peO hX), h σ W F st y h1 _ fun v W' Fv e _ _ r => ⟨y, r.2, k W' e⟩⟩
theorem jn_slO {E : α → SP} {lo hi : Option Expr} {p2 : Pos} {m : Option (List α)} {ml mh : Option (Option Int)} (h : JR S a Γ m (lstO fun x => sh (E x))) (hl : JO S lo Γ ml) (hh : JO S hi Γ mh) : JN S (.Subscript a (.Slice lo hi none p2) pos) Γ (m.bind fun xs => ml.bind fun l => mh.bind fun u => some (cutL xs l u)) (lstO fun x => sh (E x)) := fun σ W F sta z hz Q kq => by
  obtain ⟨x, h1, h2⟩ := run1 hz
  obtain ⟨l, u, h3, h4, h5⟩ := run2 (f := fun l u => some (cutL x l u)) h2
  cases h5
  refine ⟨tSl (rSlL S.K) (tOf S a) (toOf S lo) (toOf S hi), fun X hX => hX.K ▸ pe_slice sl_list (peO hX) (poO hX) (poO hX), h σ W F sta x h1 _ fun v W1 e1 ⟨F1, r, al⟩ => ?_⟩
  obtain ⟨p, vs, F2, rfl, q2, rfl, q3⟩ := r
  obtain ⟨_, q4⟩ := q3.each
  refine hl σ W1 F (sta.ext e1) l h3 _ fun W2 e2 => ?_
  refine hh σ W2 F (sta.ext (e1.trans e2)) u h4 _ fun W3 e3 => ?_
  have e := (e1.trans e2).trans e3
  exact ⟨p, vs, rfl, .inl (.inl (e3.h p _ (e2.h p _ q2))), (kq.ext e).newL e.ok (each_cut (q4.mono (e2.b.trans e3.b)) l u)⟩
theorem jn_slL {E : α → SP} {lo hi : Option Expr} {p2 : Pos} {m : Option (List α)} {ml mh : Option (Option Int)} (h : JN S a Γ m fun x => sh (lstS E x)) (hl : JO S lo Γ ml) (hh : JO S hi Γ mh) : JN S (.Subscript a (.Slice lo hi none p2) pos) Γ (m.bind fun xs => ml.bind fun l => mh.bind fun u => some (cutL xs l u)) (lstO fun x => sh (E x)) := fun σ W F sta z hz Q kq => by
  obtain ⟨x, h1, h2⟩ := run1 hz
  obtain ⟨l, u, h3, h4, h5⟩ := run2 (f := fun l u => some (cutL x l u)) h2
  cases h5
  refine ⟨tSl (rSlL S.K) (tOf S a) (toOf S lo) (toOf S hi), fun X hX => hX.K ▸ pe_slice sl_list (peO hX) (poO hX) (poO hX), h σ W F sta x h1 _ fun v W1 Fv e1 _ _ r => ?_⟩
  obtain ⟨_, p, vs, rfl, q2, q4⟩ := r
  refine hl σ W1 F (sta.ext e1) l h3 _ fun W2 e2 => ?_
  refine hh σ W2 F (sta.ext (e1.trans e2)) u h4 _ fun W3 e3 => ?_
  have e := (e1.trans e2).trans e3
  exact ⟨p, vs, rfl, .inl (.inl (e.ok p _ (e3.b p _ (e2.b p _ q2)))), (kq.ext e).newL e.ok (each_cut (q4.mono (e2.b.trans e3.b)) l u)⟩
theorem cutL_all {xs : List α} {l u : Option Int} (h : HT.sIx xs.length 0 l = 0 ∧ HT.sIx xs.length xs.length u = xs.length) : cutL xs l u = xs := by
  unfold cutL
  rw [h.1, h.2]
  simp
theorem jn_slT {E : α → SP} {lo hi : Option Expr} {p2 : Pos} {m : Option (List α)} {ml mh : Option (Option Int)} (h : JN S a Γ m fun x => sh (tupS E x)) (hl : JO S lo Γ ml) (hh : JO S hi Γ mh) : JN S (.Subscript a (.Slice lo hi none p2) pos) Γ (m.bind fun xs => ml.bind fun l => mh.bind fun u => some (cutL xs l u)) (fun x => sh (tupS E x)) := fun σ W F sta z hz Q kq => by
  obtain ⟨x, h1, h2⟩ := run1 hz
  obtain ⟨l, u, h3, h4, h5⟩ := run2 (f := fun l u => some (cutL x l u)) h2
  cases h5
  refine ⟨tSl (rSlA S.K) (tOf S a) (toOf S lo) (toOf S hi), fun X hX => hX.K ▸ pe_slice sl_tupA (peO hX) (poO hX) (poO hX), h σ W F sta x h1 _ fun v W1 Fv e1 _ _ r => ?_⟩
  obtain ⟨_, p, vs, rfl, q2, q4⟩ := r
  refine hl σ W1 F (sta.ext e1) l h3 _ fun W2 e2 => ?_
  refine hh σ W2 F (sta.ext (e1.trans e2)) u h4 _ fun W3 e3 => ?_
  have e := (e1.trans e2).trans e3
  have q2' := e3.b p _ (e2.b p _ q2)
  have q4' := q4.mono (e2.b.trans e3.b)
  refine ⟨p, vs, rfl, .inl (.inl (e.ok p _ q2')), fun hw => ?_, fun _ => (kq.ext e).newT e.ok (each_cut q4' l u)⟩
  rw [q4.len] at hw
  refine (kq.ext e).val e.ok ?_
  rw [cutL_all hw]
  exact ⟨p, vs, rfl, q2', q4'⟩
/-! ### max, min of two ints -/
theorem jn_max2 {p : Pos} {m : Option α} {G : α → List SP} (g1 g2 : α → Int) (hm : S.mg "max" = none) (h : JA S (e :: es) Γ m G) (hG : ∀ x, G x = [intS (g1 x), intS (g2 x)] := by intro _; rfl) (hg : GlS S "max" := by rfl) (he : ∀ env, starEach (e :: es) env = (false, eval e env) :: starEach es env := by intro _; rfl) (hpl : ∀ env, (backTo pos (starEach es env)).any (·.1) = false := by intro _; rfl) (hcm : S.calm = true := by rfl) : JN S (.Call (.Name "max" p) (e :: es) [] pos) Γ (m.bind fun x => some (if g2 x > g1 x then g2 x else g1 x)) fun z => sh (intS z) := fun σ W F sta z hz Q kq => by
  obtain ⟨x, h1, h2⟩ := run1 hz
  cases h2
  refine ⟨tCB (fun xs H Q => ∃ i j, xs = [.int i, .int j] ∧ Q (.int (if j > i then j else i)) H) (taOf S (e :: es)), fun X hX => pe_callB (call_max2 (hX.calm.trans hcm)) (hg.gl hX) (mgS hm hX) (by decide +kernel) (paO hX) (by decide) (by decide) (he _) (hpl _), h σ W F sta x h1 _ fun vs W' ext hh => ?_⟩
  rw [hG] at hh
  obtain ⟨u, v, rfl, a1, a2⟩ := hets2 hh
  cases a1
  cases a2
  exact ⟨_, _, rfl, (kq.ext ext).val ext.ok rfl⟩
theorem jn_min2 {p : Pos} {m : Option α} {G : α → List SP} (g1 g2 : α → Int) (hm : S.mg "min" = none) (h : JA S (e :: es) Γ m G) (hG : ∀ x, G x = [intS (g1 x), intS (g2 x)] := by intro _; rfl) (hg : GlS S "min" := by rfl) (he : ∀ env, starEach (e :: es) env = (false, eval e env) :: starEach es env := by intro _; rfl) (hpl : ∀ env, (backTo pos (starEach es env)).any (·.1) = false := by intro _; rfl) (hcm : S.calm = true := by rfl) : JN S (.Call (.Name "min" p) (e :: es) [] pos) Γ (m.bind fun x => some (if g2 x < g1 x then g2 x else g1 x)) fun z => sh (intS z) := fun σ W F sta z hz Q kq => by
  obtain ⟨x, h1, h2⟩ := run1 hz
  cases h2
  refine ⟨tCB (fun xs H Q => ∃ i j, xs = [.int i, .int j] ∧ Q (.int (if j < i then j else i)) H) (taOf S (e :: es)), fun X hX => pe_callB (call_min2 (hX.calm.trans hcm)) (hg.gl hX) (mgS hm hX) (by decide +kernel) (paO hX) (by decide) (by decide) (he _) (hpl _), h σ W F sta x h1 _ fun vs W' ext hh => ?_⟩
  rw [hG] at hh
  obtain ⟨u, v, rfl, a1, a2⟩ := hets2 hh
  cases a1
  cases a2
  exact ⟨_, _, rfl, (kq.ext ext).val ext.ok rfl⟩
/-! ### x, y = [a, b] -/
theorem jg_pairL {E : α → SP} {G : β → SP} {x y : Str} {pos p1 p2 : Pos} {k : Nat} (i j : Nat) (nd : S.N.Nodup) (hN : S.N[i]? = some x := by rfl) (hM : S.N[j]? = some y := by rfl) (hx : Loc S.sc x := by first | exact Or.inl rfl | exact Or.inr rfl) (hy : Loc S.sc y := by first | exact Or.inl rfl | exact Or.inr rfl)
    (hp : (S.prot.contains i) = false := by rfl) (hq : (S.prot.contains j) = false := by rfl) (hf : S.fn x = true ∨ S.sc.names.lookup x = some .local := by first | exact .inl rfl | exact .inr rfl) (hf2 : S.fn y = true ∨ S.sc.names.lookup y = some .local := by first | exact .inl rfl | exact .inr rfl)
    (hs : ∀ env, (assignEach [Expr.Name x p1, .Name y p2] env).map (·.2) = assign (.Name x p1) env :: (assignEach [Expr.Name y p2] env).map (·.2) := by intro _; rfl) (hs2 : ∀ env, (assignEach [Expr.Name y p2] env).map (·.2) = assign (.Name y p2) env :: (assignEach [] env).map (·.2) := by intro _; rfl)
    (hn : ∀ env, (assignEach [Expr.Name x p1, .Name y p2] env).length = 2 := by intro _; rfl) (hst : ∀ env, (assignEach [Expr.Name x p1, .Name y p2] env).findIdx? (·.1) = none := by intro _; rfl) (hcm : S.calm = true := by rfl) :
    JG S (.Tuple [.Name x p1, .Name y p2] k pos) (l2S E G) (fun a Γ => (Γ.set i (some (sh (E a.1)))).set j (some (sh (G a.2)))) [i, j] := fun Γ σ W F q v st hl h Q kk => by
  refine ⟨gLst S.K 2 (gCons (gName i) (gCons (gName j) gNil)), fun X hX => hX.K ▸ pg_lst (hX.calm.trans hcm) (pgs_cons (pg_name (by rw [hX.N]; exact nd) (by rw [hX.N]; exact hN) (locS hx hX) (by rw [hX.fn, hX.sc]; exact hf)) (pgs_cons (pg_name (by rw [hX.N]; exact nd) (by rw [hX.N]; exact hM) (locS hy hX) (by rw [hX.fn, hX.sc]; exact hf2)) pgs_nil (hs2 _)) (hs _)) (hn _) (hst _), ?_⟩
  obtain ⟨a, vs, rfl, h2, h3⟩ := h
  match vs, h3 with
  | [u, w], ⟨p1, p2, _⟩ =>
    refine ⟨a, [u, w], rfl, .inl (.inl (st.ok a _ h2)), rfl, u, [w], rfl, w, [], rfl, rfl, ?_⟩
    obtain ⟨F1, s1, sub1⟩ := set_keeps st (hl i (by simp)) p1
    obtain ⟨F2, s2, sub2⟩ := set_keeps s1 (by rw [List.length_set]; exact hl j (by simp)) p2
    refine kk _ F2 (fun vs hv => ?_) ((Keep.set (ncon hp)).trans (Keep.set (ncon hq))) s2 fun b hb => sub1 b (sub2 b hb)
    rw [wipe_set (hv j (by simp)), wipe_set (hv i (by simp))]
end
/-! ### line.insert(i, y) -/
def insM (xs : List α) (i : Int) (x : α) : Option (List α) := if xs.length < LIM ∧ 0 ≤ i ∧ i < 1000000000 then some (xs.take i.toNat ++ [x] ++ xs.drop i.toNat) else none
section
variable {S : Stc} {Γ : τ → Ctx} {s : τ} {a b c e : Expr} {pos : Pos}
theorem js_insE {x : Str} {p0 apos cpos spos : Pos} {E : α → SP} {m : Option ((Int × α × Unit) × τ)} (i : Nat) (get : τ → List α) (h : JEA S [a, b] Γ s m fun z => [intS z.1, E z.2.1]) (hi : ∀ s, (Γ s)[i]? = some (some (lstO (fun x => sh (E x)) (get s))) := by intro _; rfl) (hN : S.N[i]? = some x := by rfl) (hv : Vis S.sc x := by first | exact Or.inl rfl | exact Or.inr (Or.inl rfl) | exact Or.inr (Or.inr rfl))
    (hd : (x == ("__debug__" : Str)) = false := by decide) (hcd : (x == ("__classdict__" : Str)) = false := by decide)
    (hbase : ∀ env, attributeBase (.Name x p0) "insert" env (eval (.Name x p0) env) = eval (.Name x p0) env := by intro _; rfl)
    (hfew : ∀ env, ((backTo cpos (starEach [a, b] env)).all (fun x => !x.1) && (backToKw cpos (keywordEach [] env)).all (fun x => x.1.isSome) && decide ([a, b].length + ([] : List Keyword).length + (if ([] : List Keyword).isEmpty then 0 else 1) < 30)) = true := by intro _; rfl)
    (hline : (apos.endLine == cpos.line) = true := by rfl) (hs : ∀ env, starEach [a, b] env = (false, eval a env) :: starEach [b] env := by intro _; rfl) (hpl : ∀ env, (backTo cpos (starEach [b] env)).any (·.1) = false := by intro _; rfl) (hsw : ∀ env, swapsWith (.Call (.Attribute (.Name x p0) "insert" apos) [a, b] [] cpos) none spos.line env = pure false := by intro _; rfl) :
    JS S (.Expr (.Call (.Attribute (.Name x p0) "insert" apos) [a, b] [] cpos) spos) (Γ s) (m.bind fun q => (insM (get q.2) q.1.1 q.1.2.1).bind fun ys => some (ys, q.2)) fun q => .nx ((Γ q.2).set i (some (lstO (fun x => sh (E x)) q.1))) := fun σ W F sta z hz Ed k => by
  obtain ⟨q, h1, h2⟩ := run1 hz
  obtain ⟨ys, h3, h4⟩ := run1 (f := fun ys : List α => some (ys, q.2)) h2
  cases h4
  unfold insM at h3
  split at h3
  · rename_i hc
    cases h3
    refine ⟨tDrop (tBM S.K "list" (fun x vs H Q => ∃ (l : Addr) (xs : List V) (i : Int) (y : V), x = .ref l ∧ vs = [.int i, y] ∧ H l = some (.lst xs) ∧ xs.length < sizeLine ∧ 0 ≤ i ∧ i < 2 ^ 63 ∧ Q .non (upd H l (.lst (xs.take i.toNat ++ [y] ++ xs.drop i.toNat)))) (tVar i) (taOf S [a, b])), fun X hX => ps_expr (hX.K ▸ pe_bm PySem.F.plainAttrs_list PySem.F.slot_list_insert PySem.F.type_list_insert mt_insert (pe_var (by rw [hX.N]; exact hN) (visS hv hX) hd hcd) (paO hX) (hbase _) (hfew _) hline (hs _) (hpl _)) (hsw _), ?_⟩
    obtain ⟨v, F1, F2, a1, a2, a3, a4⟩ := sta.hold.at (hi s)
    obtain ⟨p, vs, G2, rfl, b2, rfl, b4⟩ := id a2
    refine ⟨.ref p, a1, .inl ⟨rfl, vs, .inl (.inl b2)⟩, h σ W F sta q h1 _ fun us W1 Fa stp1 sa1 hh => ?_⟩
    obtain ⟨u1, u2, rfl, r1, r2⟩ := hets2 hh
    cases r1
    obtain ⟨v', F1', F2', c1, c2, c3, c4⟩ := sa1.hold.at (hi q.2)
    have ev : v' = .ref p := by rw [a1] at c1; exact (Option.some.inj (Option.some.inj c1)).symm
    subst ev
    obtain ⟨p', vs', G2', e1, d2, rfl, d4⟩ := c2
    cases e1
    have hB : W1.B p = none := (sa1.fp.perm c3).fr p (by simp)
    obtain ⟨rfl, d5⟩ := d4.each
    refine ⟨p, vs', q.1.1, u2, rfl, rfl, d2, lim_lt (by rw [d4.len]; exact hc.1), hc.2.1, by have := hc.2.2; omega, ?_⟩
    have fpA : FpOk W1 [p] := (sa1.fp.perm c3).left
    have A4 : Owns (fun x => sh (E x)) ⟨upd W1.H p (.lst (vs'.take q.1.1.toNat ++ [u2] ++ vs'.drop q.1.1.toNat)), W1.B⟩ (vs'.take q.1.1.toNat ++ [u2] ++ vs'.drop q.1.1.toNat) ((get q.2).take q.1.1.toNat ++ [q.1.2.1] ++ (get q.2).drop q.1.1.toNat) [] :=
      Owns.of_each (W := ⟨upd W1.H p (.lst (vs'.take q.1.1.toNat ++ [u2] ++ vs'.drop q.1.1.toNat)), W1.B⟩) (((d5.take _).app (show Each (fun x => E x) W1.B [u2] [q.1.2.1] from ⟨r2, trivial⟩)).app (d5.drop _))
    obtain ⟨F', s', stp⟩ := sta_own (W' := ⟨upd W1.H p (.lst (vs'.take q.1.1.toNat ++ [u2] ++ vs'.drop q.1.1.toNat)), W1.B⟩) (F1' := [p]) (o' := lstO (fun x => sh (E x)) ((get q.2).take q.1.1.toNat ++ [q.1.2.1] ++ (get q.2).drop q.1.1.toNat)) [] sa1 (by rw [List.append_nil]; exact sa1.fp) c1 c3 c4 (wr_ok sa1.ok hB) rfl (fun a ha _ => upd_ne fun z => ha (z ▸ List.mem_cons_self)) wr_al
      ⟨fpA.nd, fun a ha => wr_al a (fpA.al a ha), fpA.fr⟩ (fun a ha => .inl ha) ⟨p, _, [], rfl, upd_same, rfl, A4⟩
    rw [List.append_nil] at stp
    exact k σ _ F' Keep.refl (stp1.trans stp) s'
  · cases h3
end
end CC
set_option maxHeartbeats 4000000
/-! while without leaving; walks over what a state def hands back; short lists as values. -/
namespace CC
open PySem PySem.Spec L2
open PyProof.Rows hiding St
variable {α β γ δ τ υ ω ρ ε : Type}
def whileF (c : τ → Option Bool) (f : τ → Option τ) : Nat → τ → Option τ
  | 0, _ => none
  | n + 1, s => (c s).bind fun b => bif b then (f s).bind fun s' => whileF c f n s' else some s
theorem whileGo_F {c : τ → Option Bool} {f : τ → Option τ} : ∀ (n : Nat) (s : τ), whileGo (ρ := Empty) c (fun s => (f s).bind fun s' => some (.nx s')) n s = (whileF c f n s).bind fun s' => some (.nx s')
  | 0, s => rfl
  | n + 1, s => by
    show (c s).bind (fun b => bif b then ((f s).bind fun s' => some (Out.nx s')).bind (fun o : Out τ Empty => o.step fun s' => whileGo c (fun s => (f s).bind fun s' => some (.nx s')) n s') else some (.nx s)) = ((c s).bind fun b => bif b then (f s).bind fun s' => whileF c f n s' else some s).bind _
    cases c s with
    | none => rfl
    | some b =>
      cases b with
      | false => rfl
      | true =>
        show ((f s).bind fun s' => some (Out.nx s')).bind _ = ((f s).bind fun s' => whileF c f n s').bind _
        cases f s with
        | none => rfl
        | some s' => exact whileGo_F n s'
section
variable {S : Stc} {Γ Δ : Ctx} {a b c e tg iter elt : Expr} {es ifs : List Expr} {pos : Pos} {st : Stmt} {rest A B : List Stmt}
theorem js_whileS {Γl : τ → Ctx} {mc : τ → Option Bool} {f : τ → Option τ} (n : Nat) (s0 : τ) (w : Weak Γ (Γl s0)) (hc : ∀ s, JT S c (Γl s) (mc s)) (hb : ∀ s, JB S A (Γl s) (f s) fun s' => .nx (Γl s')) :
    JS S (.While c A [] pos) Γ (whileF mc f n s0) fun s => .nx (Γl s) := fun σ W F sta z hz Ed k => by
  have h := js_while (ρ := Empty) (T := fun r => nomatch r) (f := fun s => (f s).bind fun s' => some (.nx s')) (pos := pos) (Γ := Γ) (Γl := Γl) n s0 w (fun r => nomatch r) hc fun s => JB.map (hb s) fun s' => rfl
  refine h σ W F sta (.nx z) ?_ Ed k
  rw [whileGo_F, hz]
  rfl
theorem ao_l2 {E : α → SP} {G : β → SP} {f : α → PV} {g : β → PV} (h : AnyOf E f) (k : AnyOf G g) : AnyOf (l2S E G) (fun p => PV.lst [f p.1, g p.2]) := ⟨fun B x v hx => by
  show anyP B (.lst _) v
  unfold anyP
  obtain ⟨a, vs, h1, h2, h3⟩ := hx
  obtain ⟨u, w, rfl, a1, a2⟩ := hts2 h3
  exact ⟨a, _, h1, h2, each_anys ⟨h.go B _ _ a1, k.go B _ _ a2, trivial⟩⟩⟩
theorem ao_l3 {E : α → SP} {G : β → SP} {I : γ → SP} {f : α → PV} {g : β → PV} {i : γ → PV} (h : AnyOf E f) (k : AnyOf G g) (l : AnyOf I i) : AnyOf (l3S E G I) (fun p => PV.lst [f p.1, g p.2.1, i p.2.2]) := ⟨fun B x v hx => by
  show anyP B (.lst _) v
  unfold anyP
  obtain ⟨a, vs, h1, h2, h3⟩ := hx
  obtain ⟨u, w, y, rfl, a1, a2, a3⟩ := hts3 h3
  exact ⟨a, _, h1, h2, each_anys ⟨h.go B _ _ a1, k.go B _ _ a2, l.go B _ _ a3, trivial⟩⟩⟩
end
section
variable {S : Stc} {Γ : τ → Ctx} {s : τ} {a b c e tg iter : Expr} {es ifs : List Expr} {pos : Pos}
theorem je_intB {m : Option (Bool × τ)} {p : Pos} (hm : S.mg "int" = none) (h : JE S a Γ s m fun x => sh (boolS x)) (hg : GlS S "int" := by rfl) (hs : ∀ env, starEach [a] env = [(false, eval a env)] := by intro _; rfl) : JE S (.Call (.Name "int" p) [a] [] pos) Γ s (m.bind fun q => some (b2i q.1, q.2)) fun z => sh (intS z) :=
  je_t1 (f := fun x : Bool => some (b2i x)) (fun X hX => call_int1) (fun W x v z ok hh e Q k => by
    cases e
    cases hh
    exact .inr ⟨_, rfl, k.val ok rfl⟩) hm h hg (by decide +kernel) (by decide) (by decide) hs
theorem jie_lst {m : Option (List α × τ)} {E : α → SP} (h : JE S iter Γ s m fun xs => sh (lstS E xs)) : JIE S tg iter Γ s m E := fun σ W F sta z hz R k => by
  refine ⟨iList S.K (tOf S iter), fun X hX => hX.K ▸ pi_list (peO hX), h.sh sta hz fun v W' F' stp sa r => ?_⟩
  obtain ⟨a, vs, rfl, h2, h3⟩ := r
  exact ⟨a, rfl, ⟨vs, .inl (.inl (sa.ok a _ h2))⟩, k _ W' F' stp sa (ok_list fun W1 c => ⟨c.1, vs, c.1 a _ (c.2 a _ h2), h3.mono c.2⟩)⟩
theorem jie_tup {m : Option (List α × τ)} {E : α → SP} (h : JE S iter Γ s m fun xs => sh (tupS E xs)) : JIE S tg iter Γ s m E := fun σ W F sta z hz R k => by
  refine ⟨iTup S.K (tOf S iter), fun X hX => hX.K ▸ pi_tup (peO hX), h.sh sta hz fun v W' F' stp sa r => ?_⟩
  obtain ⟨a, vs, rfl, h2, h3⟩ := r
  exact ⟨a, rfl, ⟨vs, .inl (.inl (sa.ok a _ h2))⟩, k _ W' F' stp sa (ok_tup fun W1 c => ⟨c.1, vs, c.1 a _ (c.2 a _ h2), h3.mono c.2⟩)⟩
/-- xs[b] = e with state -/
theorem js_setIE {x : Str} {p0 tpos : Pos} {E : α → SP} {mv : Option (α × τ)} {mi : τ → Option (Int × τ)} (i : Nat) (get : τ → List α) (h : JE S e Γ s mv fun x => CC.sh (E x)) (hb : ∀ s1, JE S b Γ s1 (mi s1) fun z => CC.sh (intS z)) (hi : ∀ s, (Γ s)[i]? = some (some (lstO (fun x => CC.sh (E x)) (get s))) := by intro _; rfl) (hN : S.N[i]? = some x := by rfl) (hv : Vis S.sc x := by first | exact Or.inl rfl | exact Or.inr (Or.inl rfl) | exact Or.inr (Or.inr rfl))
    (hd : (x == ("__debug__" : Str)) = false := by decide) (hcd : (x == ("__classdict__" : Str)) = false := by decide)
    (ha : ∀ env v, assign (.Subscript (.Name x p0) b tpos) env v = (do
      let ov ← holding [v] (eval (.Name x p0) env)
      let iv ← holding [v, ov] (eval b env)
      standAt tpos
      holding [v, ov, iv] (setItem ov iv v)
      release [v, ov, iv] []) := by intro _ _; rfl) (hs : ∀ env, swapsWithSole [.Subscript (.Name x p0) b tpos] e pos.line env = pure false := by intro _; rfl) (hw : ∀ env, swappedStores [.Subscript (.Name x p0) b tpos] e env = pure none := by intro _; rfl)
    (h1 : ∀ env, (assignEach [.Subscript (.Name x p0) b tpos] env).map (·.2) = [assign (.Subscript (.Name x p0) b tpos) env] := by intro _; rfl) :
    JS S (.Assign [.Subscript (.Name x p0) b tpos] e pos) (Γ s) (mv.bind fun q => (mi q.2).bind fun r => (setAt (get r.2) r.1 q.1).bind fun ys => some (ys, r.2)) fun q => .nx ((Γ q.2).set i (some (lstO (fun x => CC.sh (E x)) q.1))) := fun σ W F sta z hz Ed kk => by
  obtain ⟨q, m1, m2⟩ := run1 hz
  obtain ⟨r, m3, m4⟩ := run1 (f := fun r : Int × τ => (setAt (get r.2) r.1 q.1).bind fun ys => some (ys, r.2)) m2
  obtain ⟨ys, m5, m6⟩ := run1 (f := fun ys : List α => some (ys, r.2)) m4
  cases m6
  obtain ⟨j, j1, j2⟩ := run1 (f := fun j => some ((get r.2).set j q.1)) m5
  cases j2
  refine ⟨tAsg (tOf S e) (gSub (tVar i) (tOf S b) rSetL), fun X hX => ps_asg (peO hX) (pg_sub (pe_var (by rw [hX.N]; exact hN) (visS hv hX) hd hcd) (peO hX) set_list (ha _)) (hs _) (hw _) (h1 _), ?_⟩
  refine h.sh sta m1 fun u W1 Fa stp1 sa1 ru => ?_
  obtain ⟨v, F1, F2, a1, a2, a3, a4⟩ := sa1.hold.at (hi q.2)
  obtain ⟨p, vs, G2, rfl, b2, rfl, b4⟩ := a2
  refine ⟨.ref p, a1, ?_⟩
  refine (hb q.2).sh sa1 m3 fun t W2 Fb stp2 sa2 r2 => ?_
  cases r2
  obtain ⟨v', F1', F2', c1, c2, c3, c4⟩ := sa2.hold.at (hi r.2)
  have ev : v' = .ref p := by rw [a1] at c1; exact (Option.some.inj (Option.some.inj c1)).symm
  subst ev
  obtain ⟨p', vs', G2', e1, d2, rfl, d4⟩ := c2
  cases e1
  have hB : W2.B p = none := (sa2.fp.perm c3).fr p (by simp)
  obtain ⟨rfl, d5⟩ := d4.each
  refine ⟨p, vs', r.1, j, rfl, rfl, d2, by rw [d4.len]; exact j1, ?_⟩
  have fpA : FpOk W2 [p] := (sa2.fp.perm c3).left
  have A4 : Owns (fun x => CC.sh (E x)) ⟨upd W2.H p (.lst (vs'.set j u)), W2.B⟩ (vs'.set j u) ((get r.2).set j q.1) [] :=
    Owns.of_each (W := ⟨upd W2.H p (.lst (vs'.set j u)), W2.B⟩) (d5.set (SP.mono _ ru stp2.b) j)
  obtain ⟨F', s', stp⟩ := sta_own (W' := ⟨upd W2.H p (.lst (vs'.set j u)), W2.B⟩) (F1' := [p]) (o' := lstO (fun x => CC.sh (E x)) ((get r.2).set j q.1)) [] sa2 (by rw [List.append_nil]; exact sa2.fp) c1 c3 c4 (wr_ok sa2.ok hB) rfl (fun a ha _ => upd_ne fun z => ha (z ▸ List.mem_cons_self)) wr_al
    ⟨fpA.nd, fun a ha => wr_al a (fpA.al a ha), fpA.fr⟩ (fun a ha => .inl ha) ⟨p, _, [], rfl, upd_same, rfl, A4⟩
  rw [List.append_nil] at stp
  exact kk σ _ F' Keep.refl ((stp1.trans stp2).trans stp) s'
theorem je_notV {m : Option (Bool × τ)} (h : JE S e Γ s m fun z => sh (boolS z)) : JE S (.UnaryOp .Not e pos) Γ s (m.bind fun x => some (!x.1, x.2)) fun z => sh (boolS z) := JE.of_sh fun σ W F sta z hz Q k => by
  obtain ⟨x, h1, h2⟩ := run1 hz
  cases h2
  exact ⟨tNotV (tOf S e), fun X hX => pe_not (peO hX), h.sh sta h1 fun v W' F' stp sa r => ⟨x.1, r, k _ W' F' stp sa rfl⟩⟩
end
end CC
set_option maxHeartbeats 4000000
/-! list.remove of ints. -/
namespace CC
open PySem PySem.Spec L2
open PyProof.Rows hiding St
variable {α β γ δ τ υ ω ρ ε : Type}
def remM (xs : List Int) (k : Int) : Option (List Int) := (xs.findIdx? (fun z => z == k)).bind fun j => some (xs.eraseIdx j)
theorem each_intsV {B : Hp} : ∀ {vs : List V} {xs : List Int}, Each intS B vs xs → vs = xs.map V.int
  | [], [], _ => rfl
  | v :: vs, x :: xs, h => by
    have h1 : v = .int x := h.1
    rw [h1, List.map_cons, ← each_intsV h.2]
  | [], _ :: _, h => h.elim
  | _ :: _, [], h => h.elim
section
variable {S : Stc} {Γ Δ : Ctx} {a b c e tg iter elt : Expr} {es ifs : List Expr} {pos : Pos} {st : Stmt} {rest A B : List Stmt}
theorem js_remI {x : Str} {p0 apos cpos spos : Pos} {xs : List Int} {m : Option Int} (i : Nat) (h : JN S e Γ m fun z => sh (intS z)) (hi : Γ[i]? = some (some (lstO (fun x => sh (intS x)) xs)) := by rfl) (hN : S.N[i]? = some x := by rfl) (hv : Vis S.sc x := by first | exact Or.inl rfl | exact Or.inr (Or.inl rfl) | exact Or.inr (Or.inr rfl))
    (hd : (x == ("__debug__" : Str)) = false := by decide) (hcd : (x == ("__classdict__" : Str)) = false := by decide)
    (hbase : ∀ env, attributeBase (.Name x p0) "remove" env (eval (.Name x p0) env) = eval (.Name x p0) env := by intro _; rfl)
    (hfew : ∀ env, ((backTo cpos (starEach [e] env)).all (fun x => !x.1) && (backToKw cpos (keywordEach [] env)).all (fun x => x.1.isSome) && decide ([e].length + ([] : List Keyword).length + (if ([] : List Keyword).isEmpty then 0 else 1) < 30)) = true := by intro _; rfl)
    (hline : (apos.endLine == cpos.line) = true := by rfl) (hs : ∀ env, starEach [e] env = (false, eval e env) :: starEach [] env := by intro _; rfl) (hsw : ∀ env, swapsWith (.Call (.Attribute (.Name x p0) "remove" apos) [e] [] cpos) none spos.line env = pure false := by intro _; rfl) :
    JS S (.Expr (.Call (.Attribute (.Name x p0) "remove" apos) [e] [] cpos) spos) Γ (m.bind fun y => remM xs y) fun ys => .nx (Γ.set i (some (lstO (fun x => sh (intS x)) ys))) := fun σ W F sta z hz Ed k => by
  obtain ⟨y, h1, h2⟩ := run1 hz
  unfold remM at h2
  obtain ⟨j, j1, j2⟩ := run1 (f := fun j => some (xs.eraseIdx j)) h2
  cases j2
  obtain ⟨jl, j3, j4⟩ := List.findIdx?_eq_some_iff_getElem.mp j1
  refine ⟨tDrop (tBM S.K "list" rRemI (tVar i) (tCons (tOf S e) tNil)), fun X hX => ps_expr (hX.K ▸ pe_bm PySem.F.plainAttrs_list PySem.F.slot_list_remove PySem.F.type_list_remove mt_remove (pe_var (by rw [hX.N]; exact hN) (visS hv hX) hd hcd) (pa_cons (peO hX) pa_nil (hs _)) (hbase _) (hfew _) hline (hs _) rfl) (hsw _), ?_⟩
  obtain ⟨v, F1, F2, a1, a2, a3, a4⟩ := sta.hold.at hi
  obtain ⟨p, vs, G2, rfl, b2, rfl, b4⟩ := id a2
  refine ⟨.ref p, a1, .inl ⟨rfl, vs, .inl (.inl b2)⟩, h σ W F sta y h1 _ fun u W1 Fv ext fr fp r => ?_⟩
  obtain ⟨rfl, ru⟩ := r
  cases ru
  have sta1 := sta.ext ext
  obtain ⟨v', F1', F2', c1, c2, c3, c4⟩ := sta1.hold.at hi
  have ev : v' = .ref p := by rw [a1] at c1; exact (Option.some.inj (Option.some.inj c1)).symm
  subst ev
  obtain ⟨p', vs', G2', e1, d2, rfl, d4⟩ := c2
  cases e1
  have hB : W1.B p = none := (sta1.fp.perm c3).fr p (by simp)
  obtain ⟨rfl, d5⟩ := d4.each
  have ev := each_intsV d5
  subst ev
  refine ⟨p, xs, y, j, rfl, rfl, d2, ?_, fun m hm => ?_, ?_⟩
  · rw [List.getElem?_eq_getElem jl]
    have : (xs[j] == y) = true := j3
    rw [beq_iff_eq] at this
    rw [this]
  · have := j4 m hm
    rw [List.getElem?_eq_getElem (by omega)]
    intro z
    have := Option.some.inj z
    simp_all
  · have fpA : FpOk W1 [p] := (sta1.fp.perm c3).left
    have A4 : Owns (fun x => sh (intS x)) ⟨upd W1.H p (.lst ((xs.eraseIdx j).map V.int)), W1.B⟩ ((xs.eraseIdx j).map V.int) (xs.eraseIdx j) [] := by
      refine Owns.of_each (W := ⟨upd W1.H p (.lst ((xs.eraseIdx j).map V.int)), W1.B⟩) ?_
      have := d5.eraseIdx j
      rwa [L2.erase_mapI] at this
    obtain ⟨F', s', stp⟩ := sta_own (W' := ⟨upd W1.H p (.lst ((xs.eraseIdx j).map V.int)), W1.B⟩) (F1' := [p]) (o' := lstO (fun x => sh (intS x)) (xs.eraseIdx j)) [] sta1 (by rw [List.append_nil]; exact sta1.fp) c1 c3 c4 (wr_ok ext.ok hB) rfl (fun a ha _ => upd_ne fun z => ha (z ▸ List.mem_cons_self)) wr_al
      ⟨fpA.nd, fun a ha => wr_al a (fpA.al a ha), fpA.fr⟩ (fun a ha => .inl ha) ⟨p, _, [], rfl, upd_same, rfl, A4⟩
    rw [List.append_nil] at stp
    exact k σ _ F' Keep.refl (ext.stp0.trans stp) s'
end
end CC
set_option maxHeartbeats 4000000
/-! A walk over what a call that may raise returns. -/
namespace CC
open PySem PySem.Spec L2
open PyProof.Rows hiding St
variable {α β γ δ τ υ ω ρ ε : Type}
def JIX (S : Stc) (tg iter : Expr) (Γ : Ctx) (m : Option (Res ε (List α))) (E : α → SP) (Xp : ε → XP) : Prop :=
  ∀ σ W F, Sta Γ σ W F → ∀ r, m = some r → ∀ R : It → Hp → Prop, (match r with | .ok xs => ∀ J W', Ext W W' → ItOk J (fun W1 => Ex W1.B W1.H ∧ Ex W'.B W1.B) xs E → R J W'.H | .er e => ∀ c d W', Ext W W' → (Xp e).P W'.B c d → S.W c d σ W'.H) → tiOf S tg iter σ W.H R
section
variable {S : Stc} {Γ Δ : Ctx} {a b c e tg iter : Expr} {es : List Expr} {pos : Pos} {A : List Stmt}
theorem jix_tup {m : Option (Res ε (List α))} {E : α → SP} {Xp : ε → XP} (h : JNX S iter Γ m (fun xs => sh (tupS E xs)) Xp) : JIX S tg iter Γ m E Xp := fun σ W F st r hr R k => by
  refine ⟨iTup S.K (tOf S iter), fun X hX => hX.K ▸ pi_tup (peO hX), h σ W F st r hr _ ?_⟩
  cases r with
  | ok xs =>
    exact fun v W' Fv ext _ _ q => by
      obtain ⟨_, a, vs, rfl, h2, h3⟩ := q
      exact ⟨a, rfl, ⟨vs, .inl (.inl (ext.ok a _ h2))⟩, k _ W' ext (ok_tup fun W1 c => ⟨c.1, vs, c.1 a _ (c.2 a _ h2), h3.mono c.2⟩)⟩
  | er u => exact k
/-- only where it does not raise -/
theorem jn_part {m : Option (Res ε α)} {R : α → OP} {Xp : ε → XP} (h : JNX S e Γ m R Xp) : JN S e Γ (m.bind fun r => r.k (fun x => some x) fun _ => none) R := fun σ W F st x hx Q k => by
  obtain ⟨r, h1, h2⟩ := run1 hx
  cases r with
  | ok y =>
    cases h2
    exact h σ W F st (.ok x) h1 Q k
  | er u => cases h2
theorem js_forSX {mi : Option (Res ε (List α))} {E : α → SP} {up : α → Ctx → Ctx} {ws : List Nat} {Γl : τ → Ctx} {f : α → τ → Option τ} {Xp : ε → XP} (s0 : τ) (hi : JIX S tg iter Γ mi E Xp) (hg : JG S tg E up ws) (w : Weak Γ (Γl s0)) (hl : ∀ s, ∀ i ∈ ws, i < (Γl s).length)
    (hb : ∀ x s, JB S A (up x (Γl s)) (f x s) fun s' => .nx (Γl s')) (hs : ∀ env x, foldedSetIterable iter env x = pure x := by intro _ _; rfl) (hcm : S.calm = true := by rfl) : JS S (.For tg iter A [] pos) Γ (mi.bind fun r => r.k (fun xs => (foldGo f xs s0).bind fun s => some (Res.ok s)) fun e => some (Res.er e)) (XD Γl Γ Xp) := fun σ W F sta z hz Ed k => by
  obtain ⟨r, h1, h2⟩ := run1 hz
  cases r with
  | ok xs =>
    obtain ⟨s', h3, h4⟩ := run1 (f := fun s : τ => some (Res.ok (ε := ε) s)) h2
    cases h4
    have hi' : JI S tg iter Γ (mi.bind fun r => r.k (fun ys => some ys) fun _ => none) E := fun σ W F st ys hy R k => by
      rw [h1] at hy
      cases hy
      exact hi σ W F st (.ok xs) h1 R k
    exact js_forS (pos := pos) s0 hi' hg w hl hb hs hcm σ W F sta s' (by rw [h1]; exact h3) Ed k
  | er u =>
    cases h2
    exact ⟨tFor (tiOf S tg iter) (tgOf S tg) (tbOf S A), fun X hX => ps_for hX.pass (hX.calm.trans hcm) (piO hX) (pgO hX) (pbO hX) (hs _), hi σ W F sta (.er u) h1 _ fun c d W' ext hp => k c d σ W' F Keep.refl ext.stp0 (sta.ext ext) hp⟩
end
end CC
set_option maxHeartbeats 4000000
/-! list.extend with a tuple; slices with state. -/
namespace CC
open PySem PySem.Spec L2
open PyProof.Rows hiding St
variable {α β γ δ τ υ ω ρ ε : Type}
section
open PySem.AutoSeq1
theorem ext_tup (l : Addr) (items : Array Value) (n : Nat) (b : Addr) (items2 : Array Value) (n2 : Nat) (dc : Option Addr) (sl : Array (Option Value)) (hs0 : ¬(!items.isEmpty && Builtin.List.listTooLong (items.size + items2.size)) = true) (hs1 : items.size ≤ sizeLine) (hs2 : items.size + items2.size ≤ sizeLine + 1) :
    Meets (Builtin.«list.extend» ⟨[.ref l, .ref b], []⟩) (fun _ R s => s.heap.get? l = some { cls := .type "list", dict := none, data := .seq items n, slots := #[] } ∧ s.heap.get? b = some { cls := .type "tuple", dict := dc, data := .seq items2 n2, slots := sl } ∧ R (.ok (.ret Value.none)) { s with heap := s.heap.update l (Obj.mapSeq fun x => x ++ items2), toks := s.toks }) :=
  .of_wp fun prog w A R s h => by
    obtain ⟨hp, g, d, tk, os⟩ := s; obtain ⟨hl, hb, h⟩ := h; have f2 := AutoSeq1.sub_tuple_tuple; have f3 := AutoSeq1.sub_list_list; have f4 := AutoSeq1.sub_tuple_list; have f5 := AutoSeq1.sub_list_tuple
    have hz' : (items ++ items2).size ≤ sizeLine + 1 := by rw [Array.size_append]; exact hs2
    wp_walk using (wpAny_updateSeq hl rfl (hz := hs1) (_hz' := hz')), wpAny_loadPart' hl, wpAny_loadPart' hb; exact ⟨_, rfl, h⟩
end
def rExtT (K : PySem.W.Frag) : V → List V → Hp → VK → Prop := fun x vs H Q => ∃ l b xs zs, x = .ref l ∧ vs = [.ref b] ∧ H l = some (.lst xs) ∧ SqT K H b zs ∧ xs.length + zs.length ≤ sizeLine ∧ Q .non (upd H l (.lst (xs ++ zs)))
theorem mt_extT {X : Cx} : MtM X "list.extend" (rExtT X.K) := by
  intro pins s σ H x vs v us Q I rx rv h
  obtain ⟨l, b, xs, zs, rfl, rfl, hH, hB, hz, q⟩ := h
  cases rx
  obtain ⟨u, rfl, ru⟩ := rv.one
  cases ru
  obtain ⟨z, its, n, r, hl, e⟩ := I.lstM hH
  obtain ⟨its2, r2, ⟨o2, e2, hc2, n2, hd2⟩, _⟩ := I.tuple hB
  have hl2 := r2.length
  have hsz : its.toArray.size + its2.toArray.size ≤ sizeLine := by rw [List.size_toArray, List.size_toArray]; omega
  have hlong : ¬ (!its.toArray.isEmpty && Builtin.List.listTooLong (its.toArray.size + its2.toArray.size)) = true := by
    rw [notLongL hsz, Bool.and_false]
    exact Bool.false_ne_true
  obtain ⟨c2, dc, d2, sl⟩ := o2
  simp only at hc2 hd2
  subst hc2 hd2
  refine call_meets PySem.F.slot_list_extend ⟨_, e, rfl⟩ PySem.F.entry_list_extend (PySem.F.args_list_extend_2 _ _)
    (ext_tup l its.toArray n b its2.toArray n2 dc sl hlong (by rw [List.size_toArray]; omega) (by omega)) ⟨e, e2, ?_⟩
  refine ⟨.non, _, I.lset (its' := its ++ its2) hH e (by simp) (r.append r2) ?_, rfl, q⟩
  rw [List.length_append]
  omega
section
variable {S : Stc} {Γ : Ctx} {a b c e : Expr} {pos : Pos}
theorem js_extT {x : Str} {p0 apos cpos spos : Pos} {E : α → SP} {xs : List α} {m : Option (List α)} (i : Nat) (h : JN S e Γ m fun ys => sh (tupS E ys)) (hi : Γ[i]? = some (some (lstO (fun x => sh (E x)) xs)) := by rfl) (hN : S.N[i]? = some x := by rfl) (hv : Vis S.sc x := by first | exact Or.inl rfl | exact Or.inr (Or.inl rfl) | exact Or.inr (Or.inr rfl))
    (hd : (x == ("__debug__" : Str)) = false := by decide) (hcd : (x == ("__classdict__" : Str)) = false := by decide)
    (hbase : ∀ env, attributeBase (.Name x p0) "extend" env (eval (.Name x p0) env) = eval (.Name x p0) env := by intro _; rfl)
    (hfew : ∀ env, ((backTo cpos (starEach [e] env)).all (fun x => !x.1) && (backToKw cpos (keywordEach [] env)).all (fun x => x.1.isSome) && decide ([e].length + ([] : List Keyword).length + (if ([] : List Keyword).isEmpty then 0 else 1) < 30)) = true := by intro _; rfl)
    (hline : (apos.endLine == cpos.line) = true := by rfl) (hs : ∀ env, starEach [e] env = (false, eval e env) :: starEach [] env := by intro _; rfl) (hsw : ∀ env, swapsWith (.Call (.Attribute (.Name x p0) "extend" apos) [e] [] cpos) none spos.line env = pure false := by intro _; rfl) :
    JS S (.Expr (.Call (.Attribute (.Name x p0) "extend" apos) [e] [] cpos) spos) Γ (m.bind fun ys => catM xs ys) fun ys => .nx (Γ.set i (some (lstO (fun x => sh (E x)) ys))) := fun σ W F sta z hz Ed k => by
  obtain ⟨ys, h1, h2⟩ := run1 hz
  unfold catM at h2
  split at h2
  · rename_i hlen
    cases h2
    refine ⟨tDrop (tBM S.K "list" (rExtT S.K) (tVar i) (tCons (tOf S e) tNil)), fun X hX => ps_expr (hX.K ▸ pe_bm PySem.F.plainAttrs_list PySem.F.slot_list_extend PySem.F.type_list_extend mt_extT (pe_var (by rw [hX.N]; exact hN) (visS hv hX) hd hcd) (pa_cons (peO hX) pa_nil (hs _)) (hbase _) (hfew _) hline (hs _) rfl) (hsw _), ?_⟩
    obtain ⟨v, F1, F2, a1, a2, a3, a4⟩ := sta.hold.at hi
    obtain ⟨p, vs, G2, rfl, b2, rfl, b4⟩ := id a2
    refine ⟨.ref p, a1, .inl ⟨rfl, vs, .inl (.inl b2)⟩, h σ W F sta ys h1 _ fun u W1 Fv ext fr fp r => ?_⟩
    obtain ⟨rfl, q, us, rfl, r2, r3⟩ := r
    have sta1 := sta.ext ext
    obtain ⟨v', F1', F2', c1, c2, c3, c4⟩ := sta1.hold.at hi
    have ev : v' = .ref p := by rw [a1] at c1; exact (Option.some.inj (Option.some.inj c1)).symm
    subst ev
    obtain ⟨p', vs', G2', e1, d2, rfl, d4⟩ := c2
    cases e1
    have hB : W1.B p = none := (sta1.fp.perm c3).fr p (by simp)
    obtain ⟨rfl, d5⟩ := d4.each
    refine ⟨p, q, vs', us, rfl, rfl, d2, .inl (.inl (ext.ok q _ r2)), lim_le (by rw [d5.len, r3.len]; exact hlen), ?_⟩
    have fpA : FpOk W1 [p] := (sta1.fp.perm c3).left
    have A4 : Owns (fun x => sh (E x)) ⟨upd W1.H p (.lst (vs' ++ us)), W1.B⟩ (vs' ++ us) (xs ++ ys) [] :=
      Owns.of_each (W := ⟨upd W1.H p (.lst (vs' ++ us)), W1.B⟩) (d5.app r3)
    obtain ⟨F', s', stp⟩ := sta_own (W' := ⟨upd W1.H p (.lst (vs' ++ us)), W1.B⟩) (F1' := [p]) (o' := lstO (fun x => sh (E x)) (xs ++ ys)) [] sta1 (by rw [List.append_nil]; exact sta1.fp) c1 c3 c4 (wr_ok ext.ok hB) rfl (fun a ha _ => upd_ne fun z => ha (z ▸ List.mem_cons_self)) wr_al
      ⟨fpA.nd, fun a ha => wr_al a (fpA.al a ha), fpA.fr⟩ (fun a ha => .inl ha) ⟨p, _, [], rfl, upd_same, rfl, A4⟩
    rw [List.append_nil] at stp
    exact k σ _ F' Keep.refl (ext.stp0.trans stp) s'
  · cases h2
end
/-! ### a tuple turned round -/
section
variable {prog : Program} {w : World} {A : Around} {E : Value → Shared → Prop} {s : Shared}
theorem adjust_rev (n : Nat) : Builtin.Slice.sliceAdjust none none (-1) (n : Int) = ((n : Int) - 1, -1) := rfl
theorem places_rev (n : Nat) : Builtin.Slice.slicePlaces ((n : Int) - 1) (-1) (-1) = n := by
  unfold Builtin.Slice.slicePlaces
  rw [if_neg (by decide)]
  split
  · rw [show (-(-1 : Int)) = 1 by decide, Int.ediv_one]
    omega
  · omega
theorem sliceApplied_rev {sl : Addr} {vs : Value} {n : Nat} {Q : Int × Int × Nat → Shared → Prop} (hs : s.heap.IsSliceOf sl .none .none vs) (ps : IsPart vs (some (-1)))
    (h : Q ((n : Int) - 1, -1, n) s) : wpAny (model prog w) A (Builtin.Slice.sliceApplied (.ref sl) (pure (n : Int))) Q E s := by
  obtain ⟨os, hos, hcs, hds⟩ := id hs
  unfold Builtin.Slice.sliceApplied Builtin.Slice.sliceFields
  refine wpAny_bind (wpAny_bind (wpAny_field hos hds (x := .none) rfl (wpAny_bind (wpAny_field hos hds (x := .none) rfl (wpAny_bind (wpAny_field hos hds (x := vs) rfl (wpAny_pure ?_)))))))
  refine wpAny_bind (HT.slicePart_ ps ?_)
  show wpAny _ _ (if ((-1 : Int) == 0) = true then _ else _) _ _ s
  rw [if_neg (by decide)]
  refine wpAny_bind (slicePart_none (wpAny_bind (slicePart_none (wpAny_bind (wpAny_pure ?_)))))
  show wpAny _ _ (match Builtin.Slice.sliceAdjust none none (-1) (n : Int) with | (lo, hi) => pure (lo, (-1 : Int), Builtin.Slice.slicePlaces lo hi (-1))) _ _ s
  rw [adjust_rev n]
  show wpAny _ _ (pure ((n : Int) - 1, (-1 : Int), Builtin.Slice.slicePlaces ((n : Int) - 1) (-1) (-1))) _ _ s
  rw [places_rev]
  exact wpAny_pure h
theorem fm_congr {α β : Type} {f g : α → Option β} : ∀ {l : List α}, (∀ x ∈ l, f x = g x) → l.filterMap f = l.filterMap g
  | [], _ => rfl
  | x :: l, h => by
    rw [List.filterMap_cons, List.filterMap_cons, h x List.mem_cons_self, fm_congr fun y hy => h y (List.mem_cons_of_mem _ hy)]
theorem pick_rev (xs : Array Value) : ((List.range xs.size).filterMap fun (m : Nat) => xs[((xs.size : Int) - 1 + (m : Int) * (-1)).toNat]?).toArray = xs.toList.reverse.toArray := by
  congr 1
  have e := PySem.W.krv_all xs
  have e2 : xs.toList.reverse = ((List.range xs.size).reverse).filterMap (xs[·]?) := by rw [List.filterMap_reverse, e]
  rw [e2, ← PySem.W.krv_range, List.filterMap_map]
  refine fm_congr fun m hm => ?_
  have := List.mem_range.mp hm
  show _ = xs[xs.size - 1 - m]?
  congr 1
  omega
theorem getItem_tuple_rev {t sl : Addr} {items : Array Value} {vs : Value} {Q : Value → Shared → Prop} (ht : IsTup s.heap t items) (hs : s.heap.IsSliceOf sl .none .none vs) (ps : IsPart vs (some (-1)))
    (h : Q (.ref s.heap.objs.size) { s with heap := s.heap.push { cls := .type "tuple", data := .seq items.toList.reverse.toArray } })
    (hsz : items.size ≤ sizeLine) : wpAny (model prog w) A (getItem (.ref t) (.ref sl)) Q E s := by
  have htake : sizeOk (.seq items.toList.reverse.toArray) := by
    show items.toList.reverse.toArray.size ≤ sizeLine
    rw [List.size_toArray, List.length_reverse, Array.length_toList]
    exact hsz
  obtain ⟨os, hos, hcs, hds⟩ := id hs
  have hTs : s.TypeIs (.ref sl) "slice" := ⟨os, hos, hcs⟩
  unfold getItem
  try with_reducible refine wpAny_holding ?_
  first | refine wpAny_bind (wpAny_pure ?_) | skip
  refine wpAny_bind (wpAny_sequenceKey ht.typeIs (by decide) ?_)
  refine wpAny_bind (wpAny_callSpecial?_slot (name := Str.ofString "__getitem__") ht.typeIs PyProof.Rows.slot_tuple_getitem
    (wpAny_call_entry PyProof.Rows.slot_tuple_getitem ht.typeIs entry_tuple_getitem ?_ (args_tuple_getitem _ _)))
  show wpAny _ _ (Builtin.Tuple.tupleItemsOf (.ref t) >>= _) _ _ s
  refine wpAny_bind (tupleItemsOf_ ht ?_)
  refine wpAny_bind (wpAny_typeOf hTs ?_)
  rw [if_pos (by decide)]
  refine wpAny_bind (sliceApplied_rev hs ps ?_)
  have hno : ¬ ((((items.size : Int) - 1) == 0 && (-1 : Int) == 1 && items.size == items.size) = true) := by
    rw [show ((-1 : Int) == 1) = false from rfl, Bool.and_false, Bool.false_and]
    exact Bool.false_ne_true
  show wpAny _ _ (if (((items.size : Int) - 1) == 0 && (-1 : Int) == 1 && items.size == items.size) = true then _ else _) _ _ s
  rw [if_neg hno, pick_rev]
  first
    | exact wpAny_bind (m := Builtin.Tuple.tupleExact _) (wpAny_newObj_type (wpAny_pure ⟨_, rfl, wpAny_pure h⟩) htake)
    | exact wpAny_bind (m := Builtin.Tuple.tupleExact _) (wpAny_newObj_type (wpAny_bind (wpAny_pure (wpAny_pure ⟨_, rfl, wpAny_pure h⟩))) htake)
    | exact wpAny_bind (wpAny_bind (m := Builtin.Tuple.tupleExact _) (wpAny_newObj_type (wpAny_pure (wpAny_pure ⟨_, rfl, wpAny_pure h⟩)) htake))
    | exact wpAny_bind (wpAny_bind (m := Builtin.Tuple.tupleExact _) (wpAny_newObj_type (wpAny_pure ⟨_, rfl, wpAny_pure h⟩) htake))
end
def tRevT (K : PySem.W.Frag) (te : TE) : TE := fun σ H Q => te σ H fun x H1 => ∃ a xs, x = .ref a ∧ SqT K H1 a xs ∧ ∀ p, H1 p = none → Q (.ref p) (upd H1 p (.tup xs.reverse))
theorem pe_revT {X : Cx} {e : Expr} {te : TE} {k : Nat} {p1 p2 p3 pos : Pos} (he : PE X e te) : PE X (.Subscript e (.Slice none none (some (.UnaryOp .USub (.Constant (.int 1) k p1) p2)) p3) pos) (tRevT X.K te) := by
  refine ⟨fun pins s σ H Q I h => ?_⟩
  refine Subscript_ (thn (he.run pins s σ H _ I h) fun v s1 ⟨x, H1, I1, r1, q1⟩ => ?_)
  obtain ⟨a, xs, ex, hx, q⟩ := q1
  subst ex
  cases r1
  have hst : PO X (some (.UnaryOp .USub (.Constant (.int 1) k p1) p2)) (tPart (tUn (rU fun i => .int (-i)) (tC (.int 1)))) := po_some (pe_un un_neg pe_int)
  refine wpAny_Slice (thn (po_none.run pins s1 σ H1 (fun o H2 => o = none ∧ H2 = H1) I1 ⟨rfl, rfl⟩) fun vl s2 ⟨l, H2, I2, pl, el, e2⟩ => ?_)
  subst el e2
  refine thn (po_none.run pins s2 σ H2 (fun o H3 => o = none ∧ H3 = H2) I2 ⟨rfl, rfl⟩) fun vu s3 ⟨u, H3, I3, pu, eu, e3⟩ => ?_
  subst eu e3
  refine thn (hst.run pins s3 σ H3 (fun o H4 => o = some (-1) ∧ H4 = H3) I3 ⟨1, rfl, -1, rfl, rfl, rfl⟩) fun vs s4 ⟨o, H4, I4, ps, eo, e4⟩ => ?_
  subst eo e4
  have I5 : Inv X pins σ H4 { s4 with heap := s4.heap.push { cls := .type "slice", data := .fields #[vl, vu, vs] } } := I4.kept (t' := s4.toks) fun b ob q => Heap.get?_push_of_some _ q
  obtain ⟨its, r, ht, hz⟩ := I5.tuple hx
  have hlen := r.length
  cases pl
  cases pu
  show wpAny (model X.prog X.w) X.A (subscriptTail e (.Slice none none (some (.UnaryOp .USub (.Constant (.int 1) k p1) p2)) p3) (.ref a) (.ref s4.heap.objs.size)) (EP X pins σ Q) X.xe { s4 with heap := s4.heap.push { cls := .type "slice", data := .fields #[.none, .none, vs] } }
  refine tail_any (ops := [.ref a, .ref s4.heap.objs.size]) ht.typeIs (PyProof.Rows.slot_tuple_getitem.lookup) ?_ (by with_unfolding_all rfl)
  refine getItem_tuple_rev ht (Heap.IsSliceOf.new _ .none .none vs) ps ?_ (by rw [List.size_toArray]; omega)
  refine ⟨.ref _, _, I5.laid (t' := s4.toks) (o := .tup xs.reverse) (fun b ob q => Heap.get?_push_of_some _ q) (Nat.le_refl _) ?_, rfl, q _ (I5.hok.fresh (Nat.le_refl _))⟩
  exact ⟨by rw [List.length_reverse]; exact hz, _, r.reverse, IsTup.new _ _⟩
theorem jn_revT {S : Stc} {Γ : Ctx} {a : Expr} {pos : Pos} {E : α → SP} {m : Option (List α)} {k : Nat} {p1 p2 p3 : Pos} (h : JN S a Γ m fun x => sh (tupS E x)) : JN S (.Subscript a (.Slice none none (some (.UnaryOp .USub (.Constant (.int 1) k p1) p2)) p3) pos) Γ (m.bind fun xs => some xs.reverse) (fun x => sh (tupS E x)) := fun σ W F sta z hz Q kq => by
  obtain ⟨x, h1, h2⟩ := run1 hz
  cases h2
  refine ⟨tRevT S.K (tOf S a), fun X hX => hX.K ▸ pe_revT (peO hX), h σ W F sta x h1 _ fun v W' Fv ext _ _ r => ?_⟩
  obtain ⟨_, p, vs, rfl, q2, q3⟩ := r
  exact ⟨p, vs, rfl, .inl (.inl (ext.ok p _ q2)), (kq.ext ext).newT ext.ok q3.rev⟩
/-! ### slices -/
section
variable {S : Stc} {Γ : τ → Ctx} {s : τ} {a b c e : Expr} {pos : Pos}
def JOE (S : Stc) (o : Option Expr) (Γ : τ → Ctx) (s : τ) (m : Option (Option Int × τ)) : Prop :=
  ∀ σ W F, Sta (Γ s) σ W F → ∀ x, m = some x → ∀ Q : Option Int → Hp → Prop, (∀ W' F', Stp W F W' F' → Sta (Γ x.2) σ W' F' → Q x.1 W'.H) → toOf S o σ W.H Q
theorem joe_none : JOE S none Γ s (some (none, s)) := fun σ W F st x hx Q k => by
  cases hx
  exact ⟨tNoPart, fun _ _ => po_none, k W F (Stp.refl st.ok) st⟩
theorem joe_some {m : Option (Int × τ)} (h : JE S e Γ s m fun z => sh (intS z)) : JOE S (some e) Γ s (m.bind fun x => some (some x.1, x.2)) := fun σ W F st x hx Q k => by
  obtain ⟨y, h1, h2⟩ := run1 hx
  cases h2
  exact ⟨tPart (tOf S e), fun X hX => po_some (peO hX), h.sh st h1 fun v W' F' stp sa r => ⟨y.1, r, k W' F' stp sa⟩⟩
theorem je_slL {E : α → SP} {lo hi : Option Expr} {p2 : Pos} {ma : Option (List α × τ)} {ml mh : τ → Option (Option Int × τ)} (h : JE S a Γ s ma fun x => sh (lstS E x)) (hl : ∀ s1, JOE S lo Γ s1 (ml s1)) (hh : ∀ s1, JOE S hi Γ s1 (mh s1)) : JE S (.Subscript a (.Slice lo hi none p2) pos) Γ s (ma.bind fun p => (ml p.2).bind fun l => (mh l.2).bind fun u => some (cutL p.1 l.1 u.1, u.2)) (lstO fun x => sh (E x)) := fun σ W F sta z hz Q k => by
  obtain ⟨p, h1, h2⟩ := run1 hz
  obtain ⟨l, h3, h4⟩ := run1 (f := fun l : Option Int × τ => (mh l.2).bind fun u => some (cutL p.1 l.1 u.1, u.2)) h2
  obtain ⟨u, h5, h6⟩ := run1 (f := fun u : Option Int × τ => some (cutL p.1 l.1 u.1, u.2)) h4
  cases h6
  refine ⟨tSl (rSlL S.K) (tOf S a) (toOf S lo) (toOf S hi), fun X hX => hX.K ▸ pe_slice sl_list (peO hX) (poO hX) (poO hX), h.sh sta h1 fun v W1 F1 stp1 sa1 r => ?_⟩
  obtain ⟨q, vs, rfl, q2, q4⟩ := r
  refine hl p.2 σ W1 F1 sa1 l h3 _ fun W2 F2 stp2 sa2 => ?_
  refine hh l.2 σ W2 F2 sa2 u h5 _ fun W3 F3 stp3 sa3 => ?_
  have eb := stp2.b.trans stp3.b
  have kq : Got (lstO (fun x => sh (E x)) (cutL p.1 l.1 u.1)) W3 Q := fun t W4 Fv ext fr fp rr => k t W4 F3 Fv (((stp1.trans stp2).trans stp3).trans (ext.stp fr)) (sa3.ext ext) (sa3.fp.fresh ext fp fr) rr
  exact ⟨q, vs, rfl, .inl (.inl (sa3.ok q _ (eb q _ q2))), kq.newL sa3.ok (each_cut (q4.mono eb) l.1 u.1)⟩
theorem je_slT {E : α → SP} {lo hi : Option Expr} {p2 : Pos} {ma : Option (List α × τ)} {ml mh : τ → Option (Option Int × τ)} (h : JE S a Γ s ma fun x => sh (tupS E x)) (hl : ∀ s1, JOE S lo Γ s1 (ml s1)) (hh : ∀ s1, JOE S hi Γ s1 (mh s1)) : JE S (.Subscript a (.Slice lo hi none p2) pos) Γ s (ma.bind fun p => (ml p.2).bind fun l => (mh l.2).bind fun u => some (cutL p.1 l.1 u.1, u.2)) (fun x => sh (tupS E x)) := fun σ W F sta z hz Q k => by
  obtain ⟨p, h1, h2⟩ := run1 hz
  obtain ⟨l, h3, h4⟩ := run1 (f := fun l : Option Int × τ => (mh l.2).bind fun u => some (cutL p.1 l.1 u.1, u.2)) h2
  obtain ⟨u, h5, h6⟩ := run1 (f := fun u : Option Int × τ => some (cutL p.1 l.1 u.1, u.2)) h4
  cases h6
  refine ⟨tSl (rSlA S.K) (tOf S a) (toOf S lo) (toOf S hi), fun X hX => hX.K ▸ pe_slice sl_tupA (peO hX) (poO hX) (poO hX), h.sh sta h1 fun v W1 F1 stp1 sa1 r => ?_⟩
  obtain ⟨q, vs, rfl, q2, q4⟩ := r
  refine hl p.2 σ W1 F1 sa1 l h3 _ fun W2 F2 stp2 sa2 => ?_
  refine hh l.2 σ W2 F2 sa2 u h5 _ fun W3 F3 stp3 sa3 => ?_
  have eb := stp2.b.trans stp3.b
  have kq : Got (sh (tupS E (cutL p.1 l.1 u.1))) W3 Q := fun t W4 Fv ext fr fp rr => k t W4 F3 Fv (((stp1.trans stp2).trans stp3).trans (ext.stp fr)) (sa3.ext ext) (sa3.fp.fresh ext fp fr) rr
  have q2' := eb q _ q2
  have q4' := q4.mono eb
  refine ⟨q, vs, rfl, .inl (.inl (sa3.ok q _ q2')), fun hw => ?_, fun _ => kq.newT sa3.ok (each_cut q4' l.1 u.1)⟩
  rw [q4.len] at hw
  refine kq.val sa3.ok ?_
  rw [cutL_all hw]
  exact ⟨q, vs, rfl, q2', q4'⟩
end
end CC
set_option maxHeartbeats 4000000
/-! Targets of any number. -/
namespace CC
open PySem PySem.Spec L2
open PyProof.Rows hiding St
variable {α β γ δ τ υ ω ρ ε : Type}
section
variable {S : Stc} {e : Expr} {es : List Expr} {pos : Pos}
def tgsOf (S : Stc) (es : List Expr) (vs : List V) (σ : L2.St) (H : Hp) (Q : L2.St → Hp → Prop) : Prop := ∃ t : TGs, (∀ X, S.In X → PGs X es t) ∧ t vs σ H Q
def JGs (S : Stc) (es : List Expr) (G : α → List SP) (up : α → Ctx → Ctx) (ws : List Nat) : Prop :=
  ∀ Γ σ W F x vs, Sta Γ σ W F → (∀ i ∈ ws, i < Γ.length) → Hets W.B vs (G x) → ∀ Q : L2.St → Hp → Prop, (∀ σ' F', (∀ vs : List Nat, (∀ i ∈ ws, i ∈ vs) → wipe σ' vs = wipe σ vs) → Keep S.prot σ σ' → Sta (up x Γ) σ' W F' → (∀ a ∈ F', a ∈ F) → Q σ' W.H) → tgsOf S es vs σ W.H Q
theorem jgs_nil : JGs S [] (fun _ : Unit => []) (fun _ Γ => Γ) [] := fun Γ σ W F x vs st _ h Q k => by
  cases vs with
  | nil => exact ⟨gNil, fun _ _ => pgs_nil, rfl, k σ F (fun _ _ => rfl) Keep.refl st fun _ h => h⟩
  | cons _ _ => exact h.elim
theorem pgsO {X : Cx} (h : S.In X) : PGs X es (tgsOf S es) := ⟨fun pins s σ H vs us Q I r ⟨_, p, q⟩ => (p X h).run pins s σ H vs us Q I r q⟩
theorem jgs_cons {E : α → SP} {G : β → List SP} {up : α → Ctx → Ctx} {up2 : β → Ctx → Ctx} {ws ws2 : List Nat} (h : JG S e E up ws) (k : JGs S es G up2 ws2) (hlen : ∀ a Γ, (up a Γ).length = Γ.length := by intro _ _; simp)
    (hs : ∀ env, (assignEach (e :: es) env).map (·.2) = assign e env :: (assignEach es env).map (·.2) := by intro _; rfl) : JGs S (e :: es) (fun p : α × β => E p.1 :: G p.2) (fun p Γ => up2 p.2 (up p.1 Γ)) (ws ++ ws2) := fun Γ σ W F x vs st hl hh Q kk => by
  cases vs with
  | nil => exact hh.elim
  | cons v vs =>
    refine ⟨gCons (tgOf S e) (tgsOf S es), fun X hX => pgs_cons (pgO hX) (pgsO hX) (hs _), v, vs, rfl, ?_⟩
    refine h Γ σ W F x.1 v st (fun i hi => hl i (List.mem_append_left _ hi)) hh.1 _ fun σ1 F1 w1 k1 s1 sub1 => ?_
    refine k (up x.1 Γ) σ1 W F1 x.2 vs s1 (fun i hi => by rw [hlen]; exact hl i (List.mem_append_right _ hi)) hh.2 Q fun σ2 F2 w2 k2 s2 sub2 => ?_
    exact kk σ2 F2 (fun us hu => (w2 us fun i hi => hu i (List.mem_append_right _ hi)).trans (w1 us fun i hi => hu i (List.mem_append_left _ hi))) (k1.trans k2) s2 fun b hb => sub1 b (sub2 b hb)
theorem jg_tupN {P : γ → SP} {G : α → List SP} {up : α → Ctx → Ctx} {ws : List Nat} {n k : Nat} (g : γ → α) (h : JGs S es G up ws) (hP : ∀ y, P y = htupS (G (g y)) := by intro _; rfl) (hn : ∀ y, (G (g y)).length = n := by intro _; rfl)
    (hl : ∀ env, (assignEach es env).length = n := by intro _; rfl) (hst : ∀ env, (assignEach es env).findIdx? (·.1) = none := by intro _; rfl) (hcm : S.calm = true := by rfl) : JG S (.Tuple es k pos) P (fun y Γ => up (g y) Γ) ws := fun Γ σ W F q v st hi hh Q kk => by
  rw [hP] at hh
  obtain ⟨a, vs, rfl, h2, h3⟩ := hh
  have hlen : vs.length = n := by rw [← hn q]; exact h3.len
  refine ⟨gTup S.K n (tgsOf S es), fun X hX => hX.K ▸ pg_tup (hX.calm.trans hcm) (pgsO hX) (hl _) (hst _), a, vs, rfl, .inl (.inl (st.ok a _ h2)), hlen, ?_⟩
  exact h Γ σ W F (g q) vs st hi h3 Q kk
end
end CC
set_option maxHeartbeats 4000000
/-! An own exception whose __init__ says super().__init__(text), then stores attributes. -/
namespace CC
open PySem PySem.Spec L2
open PyProof.Rows hiding St
open PySem.W (kxs_mw)
/-- what is told of such a class -/
structure SupK (P : Program) (K : PySem.W.Frag) (C cc cda : Addr) : Prop where
  cd : ∃ cd, PySem.W.clsIn K C = some cd ∧ PySem.W.alongIn K "__init__" ((cd.mro.dropWhile (· != .ref C)).drop 1) = some (some (.builtin "ValueError.__init__"))
  sub : PySem.W.mroIn K C (.ref C) = some true
  ve : PySem.W.subIn K (.ref C) (.type "ValueError") = some true
  cell : ∃ cl cld csl, K.lookup cc = some ⟨cl, cld, .cell (some (.ref C)), csl⟩
  code : ∃ ccl cdd vs ccs file tf, K.lookup cda = some ⟨ccl, cdd, .fields vs, ccs⟩ ∧ vs[2]? = some (.str file tf) ∧ ((P.main.file : Str) == file) = true
  any : PySem.W.nsIn K cStatics "thirdparty.any" = some none
  top : (P.main.scope.names.lookup ("super" : Str)).isSome = false
section
variable {X : Cx} {pins : List (Addr × Obj)} {σ : L2.St} {H : Hp} {s : Shared} {a C cc cda fI u : Addr} {E : Value → Shared → Prop} {A : Around}
/-- ValueError.__init__ bound to an exception, called -/
theorem call_mw {us : List Value} {Q : Value → Shared → Prop} (T : OexC X.K C) (I : Inv X pins σ H s) (e : H a = some (exo a C none)) (hu : s.heap.get? u = some (kxs_mw "ValueError.__init__" a)) (hl : us.length ≤ sizeLine) (h : ∀ s', Inv X pins σ H s' → Q .none s') :
    wpAny (model X.prog X.w) A (call (.ref u) us) Q E s := by
  obtain ⟨nm, q, N, bs, bm, sn, sub, ab, col, dd, k0, k1, k2, k3, k5, hC, hbm⟩ := T.cls
  obtain ⟨t1, ho⟩ := exo_at I.hok e
  obtain ⟨hp, g, d, t, os⟩ := s
  have FB := F.excBase_ValueError
  refine wpAny_call (codeAny_of_tree ?_)
  show wpAny _ A.in1 (callAny (.ref u) ⟨us, []⟩) _ _ _
  simp only [callAny]
  refine wpAny_bind (wpAny_load hu ?_)
  simp only [kxs_mw, show (Value.type "method-wrapper" == Value.type "method" || Value.type "method-wrapper" == Value.type "builtin_function_or_method" || Value.type "method-wrapper" == Value.type "method-wrapper") = true by decide, if_true]
  refine PySem.W.KFB.if_so (by decide) ?_
  refine wpAny_bind (PySem.W.check_bound_init FB.toExcCallFacts (I.kIn _ _ hC) ho rfl ?_)
  refine wpAny_bind (wpAny_pure (wpAny_pure ?_))
  refine ⟨plainId_quiet FB.init.plain _, codeAny_builtin FB.initEntry ?_⟩
  refine PySem.W.exc_init_tree (cls := .ref C) (t0 := t1) (dv := none) (c2 := .none) (c3 := .none) (b4 := .bool false) ho hl fun h' k hx _ => ?_
  have J := I.write (t' := t) (x := a) (e := a) (o := exo a C none) (by rw [e]; exact True.intro) (.inl rfl) k ⟨_, hx⟩ (exo_ok hx)
  have eu : upd H a (exo a C none) = H := by
    funext b
    by_cases hb : b = a
    · rw [hb, upd_same, e]
    · rw [upd_ne hb]
  rw [eu] at J
  exact h _ J
theorem exo_inst {t1 : Addr} {h : Heap} (ho : h.get? a = some ({ cls := .ref C, dict := none, data := .fields #[.ref t1, .none, .none, .none, .bool false, .none] } : Obj)) : PySem.W.InstAt h a ({ cls := .ref C, dict := none, data := .fields #[.ref t1, .none, .none, .none, .bool false, .none] } : Obj) C none := ⟨ho, rfl, rfl, trivial⟩
/-- super() in its __init__ -/
theorem sup_node {qual attr : Str} {scope : Scope} {L : Addr} {whole : Sem Value} {body : List Stmt} {p0 p1 : Pos} {oc : Value} {od : Option Addr} {osl : Array (Option Value)} {fd : FuncData} {ar : Arg} {Q : Value → Shared → Prop} (I : Inv X pins σ H s) (T : OexC X.K C) (SK : SupK X.prog X.K C cc cda) (henv : X.env = PySem.W.envX qual scope L fI (.ref cda) [("__class__", cc)])
    (lkf : X.K.lookup fI = some ⟨oc, od, .func fd, osl⟩) (hp : (fd.params.posonlyargs ++ fd.params.args).head? = some ar) (hN : X.N[0]? = some ar.arg) (hs0 : σ[0]? = some (some (.ref a))) (ea : H a = some (exo a C none)) (hms : X.mg "super" = none)
    (hat : (attr == ("__class__" : Str)) = false) (hks : scope.names.lookup ("super" : Str) = some .globalImplicit) (hkc : scope.names.lookup ("__class__" : Str) = some .free) (hka : scope.names.lookup ar.arg = some .local)
    (h : ∀ so s', Inv X pins σ H s' → s'.heap.get? so = some (PySem.W.ks_superObj C a C) → (∀ b o, s.heap.get? b = some o → s'.heap.get? b = some o) → Q (.ref so) s') :
    _root_.PySem.wpAt (model X.prog X.w) X.A (.func body X.env) (attributeBase (.Call (.Name "super" p0) [] [] p1) attr X.env whole) Q E s := by
  have KX := I.kIn
  obtain ⟨mb, b1, b2⟩ := I.mod.blt
  have hk : scope.kind = .function := by
    have := I.ok.kind
    rw [henv] at this
    exact this
  obtain ⟨cd, hcd, hal⟩ := SK.cd
  obtain ⟨cl, cld, csl, hcell⟩ := SK.cell
  obtain ⟨ccl, cdd, vs, ccs, file, tf, hcode, hvs, hfile⟩ := SK.code
  obtain ⟨t1, ho⟩ := exo_at I.hok ea
  obtain ⟨oD, hD1, hD2⟩ : ∃ oD, s.heap.get? C = some oD ∧ oD.data = .cls cd := by
    unfold PySem.W.clsIn at hcd
    split at hcd
    · rename_i c d cd' sl ho'
      cases hcd
      exact ⟨_, KX _ _ ho', rfl⟩
    · cases hcd
  obtain ⟨m, hn, hl⟩ := I.loc
  have hvis : Vis X.env.scope ar.arg := by rw [henv]; exact .inl hka
  obtain ⟨u0, r0, l0⟩ := hl 0 ar.arg (.ref a) hN hs0 hvis
  have r0 : u0 = .ref a := r0
  subst r0
  have hm : m ar.arg = some (.ref a) := by
    rcases l0 with ⟨_, hm⟩ | ⟨hk', _⟩
    · exact hm
    · rw [henv] at hk'
      have hk' : scope.names.lookup ar.arg = some .cell ∨ scope.names.lookup ar.arg = some .free := hk'
      rw [hka] at hk'
      rcases hk' with z | z <;> cases z
  have G := I.mod.glob.keeps I.bk
  have B := b1.keeps I.bk
  have hgl := I.ok.glob
  have hbl := I.ok.blt
  rw [henv] at hn ⊢
  have hI := I
  obtain ⟨hh, g, d, t, os⟩ := s
  refine PySem.ks_wpAt_super_base (env := PySem.W.envX qual scope L fI (.ref cda) [("__class__", cc)]) hks hkc hat rfl (KX _ _ lkf) rfl hp rfl (KX _ _ hcode) rfl hvs hfile SK.top ?_
  refine PySem.W.ks_loadName_global hk hks (Calls.loadGlobal_builtin (env := PySem.W.envX qual scope L fI (.ref cda) [("__class__", cc)]) G hms B ((b2 _ (by decide +kernel)).trans (by decide +kernel)) ⟨rfl, ?_⟩)
  refine wpAny_loadName_free hk hkc rfl ⟨_, KX _ _ hcell, rfl⟩ ?_
  refine wpAny_loadName_local hk hka hn hm ?_
  refine PySem.ks_wpAny_isType_cls hD1 hD2 ⟨rfl, ?_⟩
  refine PySem.ks_wpAny_call_super hD1 hD2 ho rfl (fun c e => nomatch e) (PySem.W.looks_mroIn KX SK.sub) (fun h' e k => ?_)
  exact h _ _ (hI.kept k) e k
theorem Inv.pinned {q : Addr} {o : Obj} (I : Inv X pins σ H s) (hq : s.heap.get? q = some o) (hn : H q = none) (hl : q ≠ X.env.locals) (hf : q ∉ X.fs) (hc : ∀ v, o.data ≠ .cell v) : Inv X ((q, o) :: pins) σ H s :=
  have key : ∀ p ∈ X.pn ++ (q, o) :: pins, s.heap.get? p.1 = some p.2 ∧ H p.1 = none ∧ p.1 ≠ X.env.locals ∧ p.1 ∉ X.fs ∧ ∀ v, p.2.data ≠ .cell v := fun p hp => by
    rcases List.mem_append.mp hp with hp | hp
    · exact I.pin p (List.mem_append_left _ hp)
    · rcases List.mem_cons.mp hp with rfl | hp
      · exact ⟨hq, hn, hl, hf, hc⟩
      · exact I.pin p (List.mem_append_right _ hp)
  ⟨I.ok, I.os, I.bare, I.base, I.loc, I.cell, I.free, I.freeC, key, I.hok, I.len⟩
theorem Inv.unpin {p0 : Addr × Obj} (I : Inv X (p0 :: pins) σ H s) : Inv X pins σ H s :=
  have key : ∀ p ∈ X.pn ++ pins, s.heap.get? p.1 = some p.2 ∧ H p.1 = none ∧ p.1 ≠ X.env.locals ∧ p.1 ∉ X.fs ∧ ∀ v, p.2.data ≠ .cell v := fun p hp => I.pin p (by
    rcases List.mem_append.mp hp with hp | hp
    · exact List.mem_append_left _ hp
    · exact List.mem_append_right _ (List.mem_cons_of_mem _ hp))
  ⟨I.ok, I.os, I.bare, I.base, I.loc, I.cell, I.free, I.freeC, key, I.hok, I.len⟩
/-- super().__init__(text) -/
theorem sup_stmt {qual z : Str} {scope : Scope} {L : Addr} {body : List Stmt} {p0 p1 apos cp cpos spos : Pos} {ck : Nat} {oc : Value} {od : Option Addr} {osl : Array (Option Value)} {fd : FuncData} {ar : Arg} (I : Inv X pins σ H s) (T : OexC X.K C) (SK : SupK X.prog X.K C cc cda) (henv : X.env = PySem.W.envX qual scope L fI (.ref cda) [("__class__", cc)])
    (lkf : X.K.lookup fI = some ⟨oc, od, .func fd, osl⟩) (hp : (fd.params.posonlyargs ++ fd.params.args).head? = some ar) (hN : X.N[0]? = some ar.arg) (hs0 : σ[0]? = some (some (.ref a))) (ea : H a = some (exo a C none)) (hms : X.mg "super" = none)
    (hks : scope.names.lookup ("super" : Str) = some .globalImplicit) (hkc : scope.names.lookup ("__class__" : Str) = some .free) (hka : scope.names.lookup ar.arg = some .local)
    (hsw : swapsWith (.Call (.Attribute (.Call (.Name "super" p0) [] [] p1) "__init__" apos) [.Constant (.str z) ck cp] [] cpos) none spos.line X.env = pure false)
    (he : ∃ pl, eval (.Call (.Attribute (.Call (.Name "super" p0) [] [] p1) "__init__" apos) [.Constant (.str z) ck cp] [] cpos) X.env = (do
      let ov ← attributeBase (.Call (.Name "super" p0) [] [] p1) "__init__" X.env (eval (.Call (.Name "super" p0) [] [] p1) X.env)
      standAt apos.atName
      let (f, first) ← holding [ov] (getMethod ov "__init__" pl)
      callWith cpos f first (backTo cpos (starEach [.Constant (.str z) ck cp] X.env)) []))
    (hst : starEach [.Constant (.str z) ck cp] X.env = (false, eval (.Constant (.str z) ck cp) X.env) :: starEach [] X.env) :
    _root_.PySem.wpAt (model X.prog X.w) X.A (.func body X.env) (exec (.Expr (.Call (.Attribute (.Call (.Name "super" p0) [] [] p1) "__init__" apos) [.Constant (.str z) ck cp] [] cpos) spos) X.env) (fun fl s' => fl = .next ∧ Inv X pins σ H s') X.xe s := by
  obtain ⟨pl, he⟩ := he
  obtain ⟨cd, hcd, hal⟩ := SK.cd
  refine PySem.ks_wpAt_Expr_any (Q := fun fl s' => fl = .next ∧ Inv X pins σ H s') ?_ I.quiet hsw
  refine PySem.ks_wpAt_MethodCall (pl := pl) ?_ he
  refine sup_node I T SK henv lkf hp hN hs0 ea hms rfl hks hkc hka fun so s' I1 hso k1 => ?_
  have KX := I1.kIn
  obtain ⟨t1, ho⟩ := exo_at I1.hok ea
  have IA := exo_inst ho
  have hll := I1.lt
  have hfr := I1.hok.fresh (Nat.le_refl _)
  have hnf := I1.nofs (Nat.le_refl _)
  have I2 := I1
  obtain ⟨hh, g, d, t, os⟩ := s'
  refine PySem.W.kxs_getMethod PySem.W.kxs_ValueError hso (PySem.W.looks_opaque KX SK.any) (l₀ := cd.mro) ?_ rfl KX hal (IA.type.andThen (PySem.W.looks_subIn KX SK.ve)) (PySem.W.ks_ne KX IA hcd) rfl ?_
  · exact fun A Q E s k q => wpAny_bind ((PySem.W.looks_clsIn KX hcd) A _ E s k (wpAny_pure q))
  · have gq : (hh.push (kxs_mw "ValueError.__init__" a)).get? hh.objs.size = some (kxs_mw "ValueError.__init__" a) := Heap.get?_push_at rfl rfl
    have I3 : Inv X pins σ H ⟨hh.push (kxs_mw "ValueError.__init__" a), g, d, t + 1, os⟩ := I2.kept (t' := t + 1) fun b o q => Heap.get?_push_of_some _ q
    have I4 := Inv.pinned I3 (q := hh.objs.size) (o := kxs_mw "ValueError.__init__" a) gq hfr (fun z => by rw [← z] at hll; exact Nat.lt_irrefl _ hll) hnf (fun v z => nomatch z)
    have ha : PA X [.Constant (.str z) ck cp] (tCons (tC (.str z)) tNil) := pa_cons pe_str pa_nil hst
    rw [hst]
    refine PySem.W.kxs_callWith (i := "ValueError.__init__") (x := a) rfl (PySem.Calls.evalArgs_plain ?_)
    have hr := ha.run cpos _ _ σ H (fun vs H1 => vs = [.str z] ∧ H1 = H) I4 ⟨rfl, rfl⟩
    rw [hst] at hr
    refine thn hr fun us s2 ⟨vs, H1, I5, r1, hv, hH⟩ => ?_
    subst hH
    have hq5 := (I5.pin (hh.objs.size, kxs_mw "ValueError.__init__" a) (List.mem_append_right _ List.mem_cons_self)).1
    refine ⟨hq5, ?_⟩
    refine call_mw T I5 ea hq5 (by show us.length ≤ sizeLine; rw [← Paired.length r1, hv, sizeLine_eq]; show 1 ≤ _; omega) fun s3 J => ⟨rfl, Inv.unpin J⟩
end
open NdefX (NScope CellsAt NF envF startF ncx inv_startN) in
/-- such an __init__ as a def -/
theorem fnok_sup {CX : CXT} {P : Program} {w : World} {K : PySem.W.Frag} {mg : Str → Option Value} {base : Heap} {k : Nat} {C cc cda fI : Addr} {name qual z : Str} {params : Arguments} {rest : List Stmt} {scope : Scope} {dV kV doc pm ct oc : Value} {an od : Option Addr} {osl : Array (Option Value)} {N ps : List Str} {sp : Sp} {p0 p1 apos cp cpos spos : Pos} {ck : Nat} {ar : Arg}
    (lk : K.lookup fI = some ⟨oc, od, .func (PySem.W.fnX name qual params (.Expr (.Call (.Attribute (.Call (.Name "super" p0) [] [] p1) "__init__" apos) [.Constant (.str z) ck cp] [] cpos) spos :: rest) scope [("__class__", cc)] dV kV doc pm an (.ref cda) ct), osl⟩)
    (hcd : PySem.W.codeIn K (.ref cda) qual = true) (S : NScope N ps ["__class__"] scope) (T : OexC K C) (SK : SupK P K C cc cda) (hms : mg "super" = none) (hp : (params.posonlyargs ++ params.args).head? = some ar) (hN : N[0]? = some ar.arg) (hps : ps[0]? = some ar.arg)
    (hks : scope.names.lookup ("super" : Str) = some .globalImplicit)
    (len : ∀ vs H Q E, sp vs H Q E → vs.length = ps.length) (self : ∀ vs H Q E, sp vs H Q E → ∃ a, vs[0]? = some (.ref a) ∧ H a = some (exo a C none))
    (hsw : ∀ env, swapsWith (.Call (.Attribute (.Call (.Name "super" p0) [] [] p1) "__init__" apos) [.Constant (.str z) ck cp] [] cpos) none spos.line env = pure false)
    (he : ∀ env, ∃ pl, eval (.Call (.Attribute (.Call (.Name "super" p0) [] [] p1) "__init__" apos) [.Constant (.str z) ck cp] [] cpos) env = (do
      let ov ← attributeBase (.Call (.Name "super" p0) [] [] p1) "__init__" env (eval (.Call (.Name "super" p0) [] [] p1) env)
      standAt apos.atName
      let (f, first) ← holding [ov] (getMethod ov "__init__" pl)
      callWith cpos f first (backTo cpos (starEach [.Constant (.str z) ck cp] env)) []))
    (hst : ∀ env, starEach [.Constant (.str z) ck cp] env = (false, eval (.Constant (.str z) ck cp) env) :: starEach [] env)
    (hbody : ∀ (X : Cx), X.prog = P → X.K = K → X.N = N → X.env.scope = scope → ∀ (vs : List V) (H : Hp) (Q : VK) (E : XK), sp vs H Q E → ∃ t, PSs X rest t ∧ t { nx := fun _ H' => Q .non H', rt := Q } (startF N vs [none]) H) :
    FnOk P w K mg base CX (k + 1) fI (PySem.W.fnX name qual params (.Expr (.Call (.Attribute (.Call (.Name "super" p0) [] [] p1) "__init__" apos) [.Constant (.str z) ck cp] [] cpos) spos :: rest) scope [("__class__", cc)] dV kV doc pm an (.ref cda) ct) ps sp := by
  refine ⟨len, fun A outer s H args us vs Q E hr e0 hb r hsp => ?_⟩
  have hl := len _ _ _ _ hsp
  have KB := e0.mod.kin
  have KX : K.In s.heap := KB.keeps fun b o e => (e0.bs b o e).1
  have lim : s.heap.NoLimit := e0.mod.nolimit.keeps fun b o e => (e0.bs b o e).1
  obtain ⟨cl, cld, csl, hcell⟩ := SK.cell
  obtain ⟨hc1, hc2⟩ := e0.bs _ _ (KB _ _ hcell)
  have CA : CellsAt [(("__class__" : Str), cc)] ["__class__"] [none] s.heap H := by
    refine ⟨rfl, fun y c e => ?_, fun x y c h1 h2 => ?_, fun i y hy => ?_⟩
    · simp only [List.lookup] at e
      split at e
      · cases e
        exact ⟨hc2, _, _, hc1, rfl⟩
      · cases e
    · have e1 : x = ("__class__" : Str) := by
        simp only [List.lookup] at h1
        split at h1
        · rename_i q
          exact beq_iff_eq.mp q
        · cases h1
      have e2 : y = ("__class__" : Str) := by
        simp only [List.lookup] at h2
        split at h2
        · rename_i q
          exact beq_iff_eq.mp q
        · cases h2
      rw [e1, e2]
    · cases i with
      | zero =>
        have e : ("__class__" : Str) = y := Option.some.inj hy
        subst e
        exact ⟨cc, by simp [List.lookup], fun v hv => by cases hv⟩
      | succ i => cases hy
  let F : NF := ⟨name, qual, params, .Expr (.Call (.Attribute (.Call (.Name "super" p0) [] [] p1) "__init__" apos) [.Constant (.str z) ck cp] [] cpos) spos :: rest, scope, [("__class__", cc)], cda⟩
  refine codeAny_call_function hr.depth (KX _ _ lk) rfl S.co S.gen rfl (PySem.W.codeRec_of KX hcd) (hb _ _ _ _ ?_)
  refine wpAny_newFunctionEnv S.nocell (fun ⟨n, _⟩ hy => S.par n (List.of_mem_zip hy).1) (fun h₁ hns hsb => ⟨lim.fresh _ hsb, ?_⟩) S.kind
  show codeAny _ _ (.func F.body (envF F fI s.heap.objs.size)) _ _
  refine PySem.ks_codeAny_funcAt ?_
  have kp : ∀ b o, s.heap.get? b = some o → h₁.get? b = some o := fun b o e => hsb.extBut b o (Nat.ne_of_lt (Heap.lt_size e)) (Heap.get?_push_of_some _ e)
  have I : Inv (ncx CX P w K mg base N F fI A outer s H E) [] (startF N vs [none]) H { s with heap := h₁, toks := s.toks + (ps.zip us).length } := inv_startN (F := F) S hr.hd e0 hl r CA hns kp
  obtain ⟨a, ha1, ha2⟩ := self _ _ _ _ hsp
  have h0 : (startF N vs [none])[0]? = some (some (.ref a)) := by
    unfold startF
    cases vs with
    | nil => cases ha1
    | cons v vs =>
      have : v = .ref a := Option.some.inj ha1
      rw [this]
      rfl
  have hka : scope.names.lookup ar.arg = some .local := S.par _ (List.mem_of_getElem? hps)
  have hkc : scope.names.lookup ("__class__" : Str) = some .free := S.frk _ List.mem_cons_self
  obtain ⟨t, ht, hq⟩ := hbody (ncx CX P w K mg base N F fI A outer s H E) rfl rfl rfl rfl vs H Q E hsp
  refine PySem.ks_wpAt_execs_cons (PySem.ks_wpAt_mono (sup_stmt (X := ncx CX P w K mg base N F fI A outer s H E) I T SK rfl lk hp hN h0 ha2 hms hks hkc hka (hsw _) (he _) (hst _)) (fun fl s' hf => ?_) fun _ _ y => y)
  obtain ⟨rfl, J⟩ := hf
  refine wpAt_of_wpAny (wpAny_mono (ht.run [] _ (startF N vs [none]) H _ J hq) (fun fl s2 hs => ?_) fun e s' hs => hs)
  have fin : ∀ {σ' : L2.St} {H' : Hp} {v : V} {u : Value}, Inv (ncx CX P w K mg base N F fI A outer s H E) [] σ' H' s2 → L2.RelV v u → Q v H' → CE outer P w H s Q u s2 :=
    fun {σ' H' v u} J rv q => ⟨v, H', J.os, J.bare, J.base, J.hok, rv, q⟩
  cases fl with
  | ret u =>
    obtain ⟨v, σ', H', J, rv, q⟩ := hs
    exact fin J rv q
  | next =>
    obtain ⟨σ', H', J, q⟩ := hs
    exact fin (v := V.non) (u := Value.none) J rfl q
  | brk =>
    obtain ⟨_, _, _, q⟩ := hs
    exact False.elim q
  | cont =>
    obtain ⟨_, _, _, q⟩ := hs
    exact False.elim q
end CC
set_option maxHeartbeats 4000000
/-! Exceptions with an attribute: what the top tells, raising, reading. -/
namespace CC
open PySem PySem.Spec L2
open PyProof.Rows hiding St
variable {α β γ δ τ υ ω ρ ε : Type}
structure SupD where
  x : Str
  qual : Str
  params : Arguments
  body : List Stmt
  scope : Scope
abbrev SupW : Type := Option (Str × Str × Arguments × FuncBody × Scope × Addr × List Str × Addr)
abbrev iAd (K : PySem.W.Frag) (x : Str) : Addr := He.ma K (He.ga K x) "__init__"
def supW (K : PySem.W.Frag) (x : Str) : SupW := match K.lookup (iAd K x) with
  | some ⟨_, _, .func fd, _⟩ => some (fd.name, fd.qualname, fd.params, fd.body, fd.scope, fd.globals, fd.closure.map (·.1), fd.builtins)
  | _ => none
def SupD.val (d : SupD) : SupW := some ("__init__", d.qual, d.params, .stmts d.body, d.scope, mainGlobals, ["__class__"], builtinsNs)
def oexB (K : PySem.W.Frag) (C : Addr) : Bool := match K.lookup C with
  | some ⟨.type t, _, .cls cd, sl⟩ => decide (t = "type") && (match cd.mro, sl.toList with
    | .ref C' :: bm, [_, _, _, _, some (.builtin n), _] => decide (C' = C) && (decide (n = "ValueError.__new__") && (!cd.hasDel && (cd.hasDict && PySem.HandSPX.refsVE bm)))
    | _, _ => false)
  | _ => false
theorem oexB_ok {K : PySem.W.Frag} {C : Addr} (h : oexB K C = true) : ∃ nm q N bs bm sn sub ab col dd k0 k1 k2 k3 k5, K.lookup C = some (excClassObj nm q C N bs bm true sn sub ab col dd k0 k1 k2 k3 k5 "ValueError.__new__") ∧ PySem.HandSPX.refsVE bm = true := by
  unfold oexB at h
  split at h
  · rename_i t dd cd sl ho
    obtain ⟨h1, h2⟩ := Bool.and_eq_true_iff.mp h
    have h1 := of_decide_eq_true h1
    subst h1
    obtain ⟨nm, bs, mro, ns, qn, hd, sn, sb, ab, col, del⟩ := cd
    split at h2
    · rename_i C' bm k0 k1 k2 k3 n k5 e1 e2
      dsimp only at e1
      subst e1
      obtain ⟨a1, h3⟩ := Bool.and_eq_true_iff.mp h2
      obtain ⟨a2, h4⟩ := Bool.and_eq_true_iff.mp h3
      obtain ⟨a3, h5⟩ := Bool.and_eq_true_iff.mp h4
      obtain ⟨a4, a5⟩ := Bool.and_eq_true_iff.mp h5
      have a1 := of_decide_eq_true a1
      have a2 := of_decide_eq_true a2
      dsimp only at a3 a4
      rw [Bool.not_eq_true'] at a3
      subst a1 a2 a3 a4
      have e3 : sl = #[k0, k1, k2, k3, some (.builtin "ValueError.__new__"), k5] := by
        apply Array.toList_inj.mp
        rw [e2]
      subst e3
      exact ⟨nm, qn, ns, bs, bm, sn, sb, ab, col, dd, k0, k1, k2, k3, k5, ho, a5⟩
    · cases h2
  · cases h
/-- SupK without the program -/
structure SupC (K : PySem.W.Frag) (fl : Str) (C cc cda : Addr) : Prop where
  cd : ∃ cd, PySem.W.clsIn K C = some cd ∧ PySem.W.alongIn K "__init__" ((cd.mro.dropWhile (· != .ref C)).drop 1) = some (some (.builtin "ValueError.__init__"))
  sub : PySem.W.mroIn K C (.ref C) = some true
  ve : PySem.W.subIn K (.ref C) (.type "ValueError") = some true
  cell : ∃ cl cld csl, K.lookup cc = some ⟨cl, cld, .cell (some (.ref C)), csl⟩
  code : ∃ ccl cdd vs ccs tf, K.lookup cda = some ⟨ccl, cdd, .fields vs, ccs⟩ ∧ vs[2]? = some (.str fl tf)
  any : PySem.W.nsIn K cStatics "thirdparty.any" = some none
/-- what is asked of the program -/
structure PF (P : Program) (fl : Str) : Prop where
  file : ((P.main.file : Str) == fl) = true
  top : (P.main.scope.names.lookup ("super" : Str)).isSome = false
theorem SupC.k {P : Program} {K : PySem.W.Frag} {fl : Str} {C cc cda : Addr} (h : SupC K fl C cc cda) (p : PF P fl) : SupK P K C cc cda := by
  obtain ⟨a, b, c, d, e, hc, hv⟩ := h.code
  exact ⟨h.cd, h.sub, h.ve, h.cell, ⟨a, b, c, d, fl, e, hc, hv, p.file⟩, h.any, p.top⟩
def tSup (fl : Str) (d : SupD) (K : PySem.W.Frag) : Bool :=
  oexB K (He.ga K d.x) && (decide (PySem.W.findIn K (.ref (He.ga K d.x)) "__setattr__" = some (some (.builtin "object.__setattr__"))) && (decide (PySem.W.subIn K (.ref (He.ga K d.x)) (.type "BaseException") = some true) && (decide (PySem.W.typeIn K (.ref (He.ga K d.x)) = some (.type "type")) && (PySem.W.keepIn K (.ref (He.ga K d.x)) &&
  (decide (PySem.W.findIn K (.ref (He.ga K d.x)) "__init__" = some (some (.ref (iAd K d.x)))) && (decide (PySem.W.typeIn K (.ref (iAd K d.x)) = some (.type "function")) &&
  (decide (PySem.W.mroIn K (He.ga K d.x) (.ref (He.ga K d.x)) = some true) && (decide (PySem.W.subIn K (.ref (He.ga K d.x)) (.type "ValueError") = some true) && (decide (PySem.W.nsIn K cStatics "thirdparty.any" = some none) &&
  ((match PySem.W.clsIn K (He.ga K d.x) with
    | some cd => decide (PySem.W.alongIn K "__init__" ((cd.mro.dropWhile (· != .ref (He.ga K d.x))).drop 1) = some (some (.builtin "ValueError.__init__")))
    | none => false) &&
  (match K.lookup (iAd K d.x) with
    | some ⟨_, _, .func fd, _⟩ => (match fd.code, fd.closure with
      | .ref cda, [(_, cc)] => (decide (fd.defaults = .none) && decide (fd.kwdefaults = .none)) && (PySem.W.codeIn K (.ref cda) d.qual && ((match K.lookup cc with
        | some ⟨_, _, .cell (some (.ref D)), _⟩ => decide (D = He.ga K d.x)
        | _ => false) && (match K.lookup cda with
        | some ⟨_, _, .fields vs, _⟩ => (match (show Option Value from vs[2]?) with
          | some (Value.str z _) => decide (z = fl)
          | _ => false)
        | _ => false)))
      | _, _ => false)
    | _ => false)))))))))))
structure SupF (K : PySem.W.Frag) (fl : Str) (C fI : Addr) (d : SupD) : Prop where
  ex : ∃ oc od doc pm an cda ct osl cc, K.lookup fI = some ⟨oc, od, .func (PySem.W.fnX "__init__" d.qual d.params d.body d.scope [("__class__", cc)] .none .none doc pm an (.ref cda) ct), osl⟩ ∧ PySem.W.codeIn K (.ref cda) d.qual = true ∧ SupC K fl C cc cda
  oex : OexC K C
  iC : PySem.W.findIn K (.ref C) "__init__" = some (some (.ref fI))
  tI : PySem.W.typeIn K (.ref fI) = some (.type "function")
theorem supF_ok {K : PySem.W.Frag} {fl : Str} {d : SupD} (e : supW K d.x = d.val) (h : tSup fl d K = true) : SupF K fl (He.ga K d.x) (iAd K d.x) d := by
  unfold tSup at h
  simp only [Bool.and_eq_true, decide_eq_true_eq] at h
  obtain ⟨h1, h2, h3, h4, h5, h6, h7, h8, h9, h10, h11, h12⟩ := h
  refine ⟨?_, ⟨oexB_ok h1, h2, h3, h4, h5⟩, h6, h7⟩
  unfold supW at e
  split at h12
  · rename_i oc od fd osl ho
    rw [ho] at e
    obtain ⟨n1, n2, n3, n4, n5, n6, n7, n8, n9, n10, n11, n12, n13, n14, n15⟩ := fd
    have e2 : (some (n1, n2, n3, n4, n5, n6, n7.map (·.1), n15) : SupW) = d.val := e
    unfold SupD.val at e2
    simp only [Option.some.injEq, Prod.mk.injEq] at e2
    obtain ⟨q1, q2, q3, q4, q5, q6, q7, q8⟩ := e2
    subst q1 q2 q3 q4 q5 q6 q8
    split at h12
    · rename_i cda x cc y1 y2
      dsimp only at y1 y2
      subst y1 y2
      simp only [List.map_cons, List.map_nil, List.cons.injEq, and_true] at q7
      subst q7
      simp only [Bool.and_eq_true, decide_eq_true_eq] at h12
      obtain ⟨⟨z4, z5⟩, z1, z2, z3⟩ := h12
      subst z4 z5
      refine ⟨oc, od, n10, n11, n12, cda, n14, osl, cc, ho, z1, ?_, h8, h9, ?_, ?_, h10⟩
      · split at h11
        · rename_i cd hcd
          exact ⟨cd, hcd, of_decide_eq_true h11⟩
        · cases h11
      · split at z2
        · rename_i a b D c hc
          have := of_decide_eq_true z2
          rw [this] at hc
          exact ⟨a, b, c, hc⟩
        · cases z2
      · split at z3
        · rename_i a b vs c hc
          split at z3
          · rename_i z tf hv
            have := of_decide_eq_true z3
            rw [this] at hv
            exact ⟨a, b, vs, c, tf, hc, hv⟩
          · cases z3
        · cases z3
    · cases h12
  · cases h12
end CC
set_option maxHeartbeats 4000000
/-! Exceptions with an attribute: the hook, raising, reading. -/
namespace CC
open PySem PySem.Spec L2
open PyProof.Rows hiding St
variable {α β γ δ τ υ ω ρ ε : Type}
/-! ### the hook -/
def asY (g : Addr → Option Obj) (n : Nat) : List Addr := cStatics :: He.asD g n
abbrev AlY : Type := (Bool × He.AlD) × List SupW
def obsY (mo : List Tst) (fa : List He.Fa) (fn : List He.DefD) (sp : List SupD) (K : PySem.W.Frag) : AlY := (obsX mo fa fn K, sp.map fun d => supW K d.x)
def valY (fn : List He.DefD) (sp : List SupD) : AlY := ((true, He.valD fn), sp.map SupD.val)
def SaysY (mo : List Tst) (fa : List He.Fa) (fn : List He.DefD) (sp : List SupD) (K : PySem.W.Frag) : Prop := obsY mo fa fn sp K = valY fn sp
def obsYG (n : Nat) (mo : List Tst) (fa : List He.Fa) (fn : List He.DefD) (sp : List SupD) (g : Addr → Option Obj) : AlY := obsY mo fa fn sp (He.frG g (asY g n))
def hookY (n : Nat) (mo : List Tst) (fa : List He.Fa) (fn : List He.DefD) (sp : List SupD) : PySem.W.Hook where
  α := AlY
  obs := fun s => obsYG n mo fa fn sp s.heap.get?
  val := fun _ => valY fn sp
  says := fun _ h => ∃ K : PySem.W.Frag, K.In h ∧ SaysY mo fa fn sp K
  of := fun _ _ e => ⟨_, He.frG_in, e⟩
  keeps := fun _ _ _ ⟨K, hK, c⟩ k => ⟨K, PySem.W.Frag.In.keeps hK k, c⟩
theorem obsYG_eq {n : Nat} {mo : List Tst} {fa : List He.Fa} {fn : List He.DefD} {sp : List SupD} {g : Addr → Option Obj} {s : Shared} (h : ∀ a, g a = s.heap.get? a) : obsYG n mo fa fn sp g = (hookY n mo fa fn sp).obs s := by
  have e : g = s.heap.get? := funext h
  rw [e] <;> rfl
theorem SaysY.x {mo : List Tst} {fa : List He.Fa} {fn : List He.DefD} {sp : List SupD} {K : PySem.W.Frag} (c : SaysY mo fa fn sp K) : SaysX mo fa fn K := congrArg (fun z : AlY => z.1) c
theorem SaysY.s {mo : List Tst} {fa : List He.Fa} {fn : List He.DefD} {sp : List SupD} {K : PySem.W.Frag} (c : SaysY mo fa fn sp K) (i : Nat) {d : SupD} (h : sp[i]? = some d := by rfl) : supW K d.x = d.val := by
  have e : sp.map (fun d => supW K d.x) = sp.map SupD.val := congrArg (fun z : AlY => z.2) c
  have e2 : (sp.map fun d => supW K d.x)[i]? = (sp.map SupD.val)[i]? := by rw [e]
  rw [List.getElem?_map, List.getElem?_map, h] at e2
  exact Option.some.inj e2
/-- the j-th statement of a class -/
def clsM (st : Stmt) (j : Nat) : Stmt := match st with
  | .ClassDef _ _ _ body .. => body.getD j (.Pass ⟨0, 0, 0, 0⟩)
  | _ => .Pass ⟨0, 0, 0, 0⟩
/-! ### an __init__ that stores one thing -/
def spI (C : Addr) (f : Str) : Sp := fun vs H Q _ => ∃ a v, vs = [.ref a, v] ∧ H a = some (exo a C none) ∧ ∀ dx, H dx = none → dx ≠ a → Q .non (upd (upd H dx (exd dx [(f, v)])) a (exo a C (some dx)))
structure ShI (d : SupD) (f y : Str) : Prop where
  ex : ∃ (p0 p1 apos cp cpos spos q0 q1 q2 q3 : Pos) (ck : Nat) (z : Str) (ar : Arg), d.body = [.Expr (.Call (.Attribute (.Call (.Name "super" p0) [] [] p1) "__init__" apos) [.Constant (.str z) ck cp] [] cpos) spos, .Assign [.Attribute (.Name "self" q0) f q1] (.Name y q2) q3] ∧
    (d.params.posonlyargs ++ d.params.args).head? = some ar ∧ ar.arg = ("self" : Str) ∧
    (∀ env, swapsWith (.Call (.Attribute (.Call (.Name "super" p0) [] [] p1) "__init__" apos) [.Constant (.str z) ck cp] [] cpos) none spos.line env = pure false) ∧
    (∀ env, ∃ pl, eval (.Call (.Attribute (.Call (.Name "super" p0) [] [] p1) "__init__" apos) [.Constant (.str z) ck cp] [] cpos) env = (do
      let ov ← attributeBase (.Call (.Name "super" p0) [] [] p1) "__init__" env (eval (.Call (.Name "super" p0) [] [] p1) env)
      standAt apos.atName
      let (f, first) ← holding [ov] (getMethod ov "__init__" pl)
      callWith cpos f first (backTo cpos (starEach [.Constant (.str z) ck cp] env)) [])) ∧
    (∀ env, starEach [.Constant (.str z) ck cp] env = (false, eval (.Constant (.str z) ck cp) env) :: starEach [] env) ∧
    ∀ env, swapsWith (.Name y q2) (some (.Attribute (.Name "self" q0) f q1)) q3.line env = pure false
  sc : NdefX.NScope ["self", y, "__class__"] ["self", y] ["__class__"] d.scope
  ks : d.scope.names.lookup ("super" : Str) = some .globalImplicit
  yd : (y == ("__debug__" : Str)) = false ∧ (y == ("__classdict__" : Str)) = false
  bind : ∀ doc pm an cdv ct cc (us : List Value), us.length = 2 → bindArgs (PySem.W.fnX "__init__" d.qual d.params d.body d.scope [("__class__", cc)] .none .none doc pm an cdv ct) ⟨us, []⟩ = pure ([("self" : Str), y].zip us)
theorem sup1_fn {P : Program} {w : World} {K : PySem.W.Frag} {mg : Str → Option Value} {base : Heap} {fl f y : Str} {C fI : Addr} {d : SupD} (F : SupF K fl C fI d) (hp : PF P fl) (hms : mg "super" = none) (hno : PySem.W.findIn K (.ref C) f = some none) (Sh : ShI d f y) :
    ∃ fd, FnOk P w K mg base CX0 1 fI fd ["self", y] (spI C f) ∧ Binds K fd ["self", y] [] := by
  obtain ⟨oc, od, doc, pm, an, cda, ct, osl, cc, lk, hcd, SC⟩ := F.ex
  obtain ⟨p0, p1, apos, cp, cpos, spos, q0, q1, q2, q3, ck, z, ar, hb, har, har2, hsw, he, hst, hsw2⟩ := Sh.ex
  refine ⟨_, ?_, Binds.all fun us hl => Sh.bind doc pm an (.ref cda) ct cc us hl⟩
  have S := Sh.sc
  have hks := Sh.ks
  have hyd := Sh.yd
  obtain ⟨x, qual, params, body, scope⟩ := d
  dsimp only at hb lk hcd har S hks ⊢
  subst hb
  refine fnok_sup (k := 0) (z := z) lk hcd S F.oex (SC.k hp) hms har (by rw [har2]; rfl) (by rw [har2]; rfl) hks (fun vs H Q E h => ?_) (fun vs H Q E h => ?_) hsw he hst fun X hP hK hN hsc vs H Q E h => ?_
  · obtain ⟨a, v, rfl, _⟩ := h
    rfl
  · obtain ⟨a, v, rfl, h2, _⟩ := h
    exact ⟨a, rfl, h2⟩
  · obtain ⟨a, v, rfl, h2, h3⟩ := h
    have v1 : Vis X.env.scope "self" := by rw [hsc]; exact .inl (S.par _ (by simp))
    have v2 : Vis X.env.scope y := by rw [hsc]; exact .inl (S.par _ (by simp))
    refine ⟨tSeq (tOst X.K f (tVar 0) (tVar 1)) tNext, pss_cons (ps_ost (pe_var (by rw [hN]; rfl) v1) (pe_var (by rw [hN]; rfl) v2 hyd.1 hyd.2) (hsw2 _)) pss_nil, ?_⟩
    exact ⟨v, rfl, .ref a, rfl, a, C, rfl, by rw [hK]; exact F.oex, by rw [hK]; exact hno, .inl ⟨h2, h3⟩⟩
/-! ### raising it -/
section
variable {S : Stc} {Γ Δ : Ctx} {e : Expr} {pos : Pos}
theorem jm_sup {x fl f y : Str} {p : Pos} {C fI : Addr} {d : SupD} {m : Option α} {E : α → SP} {u : α → ε} {Xp : ε → XP} (F : SupF S.K fl C fI d) (hP : PF S.P fl) (hms : S.mg "super" = none) (hno : PySem.W.findIn S.K (.ref C) f = some none) (Sh : ShI d f y) (hm : S.mg x = some (.ref C)) (ha : JN S e Γ m fun z => sh (E z)) (hX : ∀ z, Xp (u z) = excX C (some (f, E z)) := by intro _; rfl)
    (hk : 2 ≤ S.k := by exact Nat.le_of_ble_eq_true rfl) (hg : GlS S x := by rfl) (hdb : (x == ("__debug__" : Str)) = false := by decide) (he : ∀ env, starEach [e] env = (false, eval e env) :: starEach [] env := by intro _; rfl) (hcm : S.calm = true := by rfl) : JM S (.Call (.Name x p) [e] [] pos) Γ (m.bind fun z => some (u z)) Xp := fun σ W F' sta w hw Q k => by
  obtain ⟨z, h1, h2⟩ := run1 hw
  cases h2
  refine ⟨tMkO C (spI C f) [] (tCons (tOf S e) tNil), fun X hX' => ?_, ?_⟩
  · obtain ⟨fd, Fn, Bd⟩ := sup1_fn (P := S.P) (w := S.w) (mg := S.mg) (base := S.base) F hP hms hno Sh
    rw [← hX'.K] at F
    refine pmk_oex (ds := []) (dvs := []) (k := 1) F.oex F.iC F.tI (CX := CX0) ?_ ((hX'.room hcm).mono hk) (by rw [hX'.K]; exact Bd) .nil passE0 (hg.gl hX') (mgS hm hX') (pa_cons (peO hX') pa_nil (he _)) hdb (he _) rfl
    rw [hX'.prog, hX'.w, hX'.K, hX'.mg, hX'.base]
    exact Fn
  · refine ha σ W F' sta z h1 _ fun v W1 Fv ext fr fp r => ?_
    obtain ⟨_, hv⟩ := r
    refine ⟨by simp, fun a hna => ?_⟩
    refine ⟨a, v, rfl, upd_same, fun dx hdx hne => ⟨rfl, dx, [(f, v)], upd_same, ?_, ?_, ?_⟩⟩
    · rw [upd_ne hne, upd_same]
    · rwa [upd_ne hne] at hdx
    · have hd1 : W1.H dx = none := by rwa [upd_ne hne] at hdx
      have e2 := Ext.newB ext.ok (o := .xd [(f, v)]) hd1
      have eH : upd (del (upd (upd (upd W1.H a (exo a C none)) dx (exd dx [(f, v)])) a (exo a C (some dx))) a) dx (.xd [(f, v)]) = (⟨upd W1.H dx (.xd [(f, v)]), upd W1.B dx (.xd [(f, v)])⟩ : Wd).H := by
        funext b
        by_cases hb : b = dx
        · rw [hb, upd_same]
          exact upd_same.symm
        · rw [upd_ne hb]
          show _ = upd W1.H dx _ b
          rw [upd_ne hb]
          by_cases hb2 : b = a
          · rw [hb2, del_same, hna]
          · rw [del_ne hb2, upd_ne hb2, upd_ne hb, upd_ne hb2]
      rw [eH]
      refine k (.ref C) (some dx) ⟨upd W1.H dx (.xd [(f, v)]), upd W1.B dx (.xd [(f, v)])⟩ (ext.trans e2) ?_
      rw [hX]
      exact ⟨rfl, dx, v, rfl, upd_same, SP.mono _ hv e2.b⟩
/-- e.f in its suite -/
theorem jn_xat {n f : Str} {p0 : Pos} {a C : Addr} {d : Option Addr} {x : α} {E : α → SP} (i : Nat) (hex : S.ex = some (a, C, d)) (hE : ExcC S.K C) (hno : PySem.W.findIn S.K (.ref C) f = some none) (hi : Γ[i]? = some (some (sh (excS a d (some (f, E x))))) := by rfl) (hN : S.N[i]? = some n := by rfl) (hv : Vis S.sc n := by first | exact Or.inl rfl | exact Or.inr (Or.inl rfl) | exact Or.inr (Or.inr rfl))
    (hd : (n == ("__debug__" : Str)) = false := by decide) (hcd : (n == ("__classdict__" : Str)) = false := by decide) (hb : ∀ env, attributeBase (.Name n p0) f env (eval (.Name n p0) env) = eval (.Name n p0) env := by intro _; rfl) : JN S (.Attribute (.Name n p0) f pos) Γ (some x) fun z => sh (E z) := fun σ W F sta z hz Q kq => by
  cases hz
  obtain ⟨v, h1, h2⟩ := sta.get hi
  obtain ⟨rfl, dd, w, rfl, h4, h5⟩ := h2
  refine ⟨tXf a (.ref C) (some dd) C f (tVar i), fun X hX => ?_, ?_⟩
  · obtain ⟨X', oe, pn, rfl, hz, hf⟩ := hX.ex a C (some dd) hex
    have eK : (X'.suite a ((a, oe) :: pn)).K = S.K := hX.K
    have eK' : X'.K = S.K := eK
    exact pe_xf (X := X') ⟨by rw [eK']; exact hE.hg, by rw [eK']; exact hE.hk, by rw [eK']; exact hE.hs, by rw [eK']; exact hE.hd⟩ (by rw [eK']; exact hno) hz hf (pe_var (by rw [hX.N]; exact hN) (visS hv hX) hd hcd) (hb _)
  · exact ⟨.ref a, h1, rfl, rfl, dd, [(f, w)], w, rfl, sta.ok _ _ h4, by simp [List.lookup], kq.val sta.ok h5⟩
end
end CC
set_option maxHeartbeats 4000000
/-! a < b < c as a test. -/
namespace CC
open PySem PySem.Spec L2
open PyProof.Rows hiding St
variable {α β γ δ τ υ ω ρ ε : Type}
section
variable {S : Stc} {Γ : Ctx} {a b c e : Expr} {pos : Pos}
theorem jt_chain {op op' : CmpOp} {r r' : R2} {E : α → SP} {G : β → SP} {I : γ → SP} {f : α → β → Option Bool} {g : β → γ → Option Bool} {ma : Option α} {mb : Option β} {mc : Option γ} (ho : ∀ X, S.In X → OpR X (compareOp op) r) (hr : OpV r E G f fun z => sh (boolS z)) (ho' : ∀ X, S.In X → OpR X (compareOp op') r') (hr' : OpV r' G I g fun z => sh (boolS z))
    (ha : JN S a Γ ma fun x => sh (E x)) (hb : JN S b Γ mb fun x => sh (G x)) (hc : JN S c Γ mc fun x => sh (I x)) (hm : lastMarks [op, op'] [b, c] = false := by with_unfolding_all rfl) :
    JT S (.Compare a [op, op'] [b, c] pos) Γ (ma.bind fun x => mb.bind fun y => (f x y).bind fun t => bif t then mc.bind fun z => g y z else some false) := fun σ W F st z hz Q kq => by
  obtain ⟨x, y, h1, h2, h3⟩ := run2 hz
  obtain ⟨t, h4, h5⟩ := run1 h3
  refine ⟨tTest (tChain r r' (tOf S a) (tOf S b) (tOf S c)), fun X hX => pt_chain (ho X hX) (ho' X hX) (peO hX) (peO hX) (peO hX) hm, ?_⟩
  have k : Got (sh (boolS z)) W fun v H => ∃ b, v = V.bl b ∧ Q b H := fun v W' Fv ext _ _ r => ⟨z, r.2, kq W' ext⟩
  show tChain r r' (tOf S a) (tOf S b) (tOf S c) σ W.H fun v H => ∃ b, v = V.bl b ∧ Q b H
  refine ha σ W F st x h1 _ fun v W1 F1 e1 _ _ r1 => hb σ W1 F (st.ext e1) y h2 _ fun u W2 F2 e2 _ _ r2 => ?_
  refine hr W2 x y v u t e2.ok (SP.mono _ r1.2 e2.b) r2.2 h4 _ fun w W3 F3 e3 _ _ r3 => ?_
  have e13 := (e1.trans e2).trans e3
  refine ⟨t, r3.2, ?_⟩
  cases t with
  | false =>
    cases h5
    rw [if_neg (fun z => nomatch z)]
    exact (k.ext e13).val e3.ok rfl
  | true =>
    rw [if_pos rfl]
    obtain ⟨q, h6, h7⟩ := run1 (f := fun z => g y z) h5
    refine hc σ W3 F (st.ext e13) q h6 _ fun w' W4 F4 e4 _ _ r4 => ?_
    exact hr' W4 y q u w' z e4.ok (SP.mono _ (SP.mono _ r2.2 e3.b) e4.b) r4.2 h7 _ (k.ext (e13.trans e4))
end
end CC
set_option maxHeartbeats 4000000
/-! every second element of a tuple: t[::2], t[1::2]. -/
namespace CC
open PySem PySem.Spec L2
open PyProof.Rows hiding St
variable {α β γ δ τ υ ω ρ ε : Type}
def evL : List α → List α
  | [] => []
  | [x] => [x]
  | x :: _ :: xs => x :: evL xs
theorem evL_range : ∀ {l : List α}, (List.range ((l.length + 1) / 2)).filterMap (fun m => l[2 * m]?) = evL l
  | [] => by simp [evL]
  | [x] => by
    rw [show ([x].length + 1) / 2 = 1 by simp, show List.range 1 = [0] from rfl]
    rfl
  | x :: y :: l => by
    rw [show ((x :: y :: l).length + 1) / 2 = (l.length + 1) / 2 + 1 by simp only [List.length_cons]; omega, List.range_succ_eq_map, List.filterMap_cons, List.filterMap_map]
    show x :: _ = x :: evL l
    rw [← evL_range (l := l)]
    congr 1
theorem Each.ev {E : α → SP} {B : Hp} : ∀ {vs : List V} {xs : List α}, Each E B vs xs → Each E B (evL vs) (evL xs)
  | [], [], _ => trivial
  | [_], [_], h => h
  | _ :: _ :: vs, _ :: _ :: xs, h => ⟨h.1, Each.ev h.2.2⟩
theorem evL_map {f : α → β} : ∀ {l : List α}, evL (l.map f) = (evL l).map f
  | [] => rfl
  | [_] => rfl
  | x :: _ :: l => by
    show f x :: evL (l.map f) = f x :: (evL l).map f
    rw [evL_map]
theorem evL_len : ∀ {l : List α}, (evL l).length ≤ l.length
  | [] => Nat.le_refl _
  | [_] => Nat.le_refl _
  | x :: y :: l => by
    have := evL_len (l := l)
    show (evL l).length + 1 ≤ l.length + 1 + 1
    omega
section
variable {prog : Program} {w : World} {A : Around} {E : Value → Shared → Prop} {s : Shared}
theorem places_ev {n lo : Nat} (h : lo ≤ n) : Builtin.Slice.slicePlaces (lo : Int) (n : Int) 2 = (n - lo + 1) / 2 := by
  unfold Builtin.Slice.slicePlaces
  rw [if_pos (by decide)]
  split <;> omega
theorem pick_ev (xs : Array Value) {lo : Nat} (h : lo ≤ xs.size) : ((List.range ((xs.size - lo + 1) / 2)).filterMap fun (m : Nat) => xs[((lo : Int) + (m : Int) * 2).toNat]?).toArray = (evL (xs.toList.drop lo)).toArray := by
  congr 1
  rw [← evL_range, List.length_drop, Array.length_toList]
  refine fm_congr fun m _ => ?_
  rw [List.getElem?_drop, Array.getElem?_toList]
  congr 1
  omega
theorem sliceApplied_ev {sl : Addr} {vl vs : Value} {n lo : Nat} {o : Option Int} {Q : Int × Int × Nat → Shared → Prop} (hs : s.heap.IsSliceOf sl vl .none vs) (pl : IsPart vl o) (ps : IsPart vs (some 2)) (hlo : lo ≤ n) (ha : Builtin.Slice.sliceAdjust o none 2 (n : Int) = ((lo : Int), (n : Int)))
    (h : Q ((lo : Int), 2, (n - lo + 1) / 2) s) : wpAny (model prog w) A (Builtin.Slice.sliceApplied (.ref sl) (pure (n : Int))) Q E s := by
  obtain ⟨os, hos, hcs, hds⟩ := id hs
  unfold Builtin.Slice.sliceApplied Builtin.Slice.sliceFields
  refine wpAny_bind (wpAny_bind (wpAny_field hos hds (x := vl) rfl (wpAny_bind (wpAny_field hos hds (x := .none) rfl (wpAny_bind (wpAny_field hos hds (x := vs) rfl (wpAny_pure ?_)))))))
  refine wpAny_bind (HT.slicePart_ ps ?_)
  show wpAny _ _ (if ((2 : Int) == 0) = true then _ else _) _ _ s
  rw [if_neg (by decide)]
  refine wpAny_bind (HT.slicePart_ pl (wpAny_bind (slicePart_none (wpAny_bind (wpAny_pure ?_)))))
  show wpAny _ _ (match Builtin.Slice.sliceAdjust o none 2 (n : Int) with | (lo, hi) => pure (lo, (2 : Int), Builtin.Slice.slicePlaces lo hi 2)) _ _ s
  rw [ha]
  show wpAny _ _ (pure ((lo : Int), (2 : Int), Builtin.Slice.slicePlaces (lo : Int) (n : Int) 2)) _ _ s
  rw [places_ev hlo]
  exact wpAny_pure h
theorem getItem_tuple_ev {t sl : Addr} {items : Array Value} {vl vs : Value} {lo : Nat} {o : Option Int} {Q : Value → Shared → Prop} (ht : IsTup s.heap t items) (hs : s.heap.IsSliceOf sl vl .none vs) (pl : IsPart vl o) (ps : IsPart vs (some 2)) (hlo : lo ≤ items.size) (ha : Builtin.Slice.sliceAdjust o none 2 (items.size : Int) = ((lo : Int), (items.size : Int)))
    (h : Q (.ref s.heap.objs.size) { s with heap := s.heap.push { cls := .type "tuple", data := .seq (evL (items.toList.drop lo)).toArray } })
    (hsz : items.size ≤ sizeLine) : wpAny (model prog w) A (getItem (.ref t) (.ref sl)) Q E s := by
  have htake : sizeOk (.seq (evL (items.toList.drop lo)).toArray) := by
    show (evL (items.toList.drop lo)).toArray.size ≤ sizeLine
    rw [List.size_toArray]
    refine Nat.le_trans evL_len ?_
    rw [List.length_drop, Array.length_toList]
    omega
  obtain ⟨os, hos, hcs, hds⟩ := id hs
  have hTs : s.TypeIs (.ref sl) "slice" := ⟨os, hos, hcs⟩
  unfold getItem
  try with_reducible refine wpAny_holding ?_
  first | refine wpAny_bind (wpAny_pure ?_) | skip
  refine wpAny_bind (wpAny_sequenceKey ht.typeIs (by decide) ?_)
  refine wpAny_bind (wpAny_callSpecial?_slot (name := Str.ofString "__getitem__") ht.typeIs PyProof.Rows.slot_tuple_getitem
    (wpAny_call_entry PyProof.Rows.slot_tuple_getitem ht.typeIs entry_tuple_getitem ?_ (args_tuple_getitem _ _)))
  show wpAny _ _ (Builtin.Tuple.tupleItemsOf (.ref t) >>= _) _ _ s
  refine wpAny_bind (tupleItemsOf_ ht ?_)
  refine wpAny_bind (wpAny_typeOf hTs ?_)
  rw [if_pos (by decide)]
  refine wpAny_bind (sliceApplied_ev hs pl ps hlo ha ?_)
  have hno : ¬ (((lo : Int) == 0 && (2 : Int) == 1 && (items.size - lo + 1) / 2 == items.size) = true) := by
    rw [show ((2 : Int) == 1) = false from rfl, Bool.and_false, Bool.false_and]
    exact Bool.false_ne_true
  show wpAny _ _ (if ((lo : Int) == 0 && (2 : Int) == 1 && (items.size - lo + 1) / 2 == items.size) = true then _ else _) _ _ s
  rw [if_neg hno, pick_ev items hlo]
  first
    | exact wpAny_bind (m := Builtin.Tuple.tupleExact _) (wpAny_newObj_type (wpAny_pure ⟨_, rfl, wpAny_pure h⟩) htake)
    | exact wpAny_bind (m := Builtin.Tuple.tupleExact _) (wpAny_newObj_type (wpAny_bind (wpAny_pure (wpAny_pure ⟨_, rfl, wpAny_pure h⟩))) htake)
    | exact wpAny_bind (wpAny_bind (m := Builtin.Tuple.tupleExact _) (wpAny_newObj_type (wpAny_pure (wpAny_pure ⟨_, rfl, wpAny_pure h⟩)) htake))
    | exact wpAny_bind (wpAny_bind (m := Builtin.Tuple.tupleExact _) (wpAny_newObj_type (wpAny_pure ⟨_, rfl, wpAny_pure h⟩) htake))
end
theorem vals_ev : ∀ {xs : List V} {us : List Value}, Vals xs us → Vals (evL xs) (evL us)
  | _, _, .nil => .nil
  | _, _, .cons r .nil => .cons r .nil
  | _, _, .cons r (.cons _ t) => .cons r (vals_ev t)
def tEvT (K : PySem.W.Frag) (k : Nat) (te : TE) : TE := fun σ H Q => te σ H fun x H1 => ∃ a xs, x = .ref a ∧ SqT K H1 a xs ∧ ∀ p, H1 p = none → Q (.ref p) (upd H1 p (.tup (evL (xs.drop k))))
theorem pe_evT {X : Cx} {e : Expr} {te : TE} {lw : Option Expr} {tl : TO} {o : Option Int} {kk k : Nat} {p1 p3 pos : Pos} (he : PE X e te) (hl : PO X lw tl) (ho : ∀ σ H (Q : Option Int → Hp → Prop), Q o H → tl σ H Q) (ha : ∀ n : Nat, Builtin.Slice.sliceAdjust o none 2 (n : Int) = (((min kk n : Nat) : Int), (n : Int))) : PE X (.Subscript e (.Slice lw none (some (.Constant (.int 2) k p1)) p3) pos) (tEvT X.K kk te) := by
  refine ⟨fun pins s σ H Q I h => ?_⟩
  refine Subscript_ (thn (he.run pins s σ H _ I h) fun v s1 ⟨x, H1, I1, r1, q1⟩ => ?_)
  obtain ⟨a, xs, ex, hx, q⟩ := q1
  subst ex
  cases r1
  have hst : PO X (some (.Constant (.int 2) k p1)) (tPart (tC (.int 2))) := po_some pe_int
  refine wpAny_Slice (thn (hl.run pins s1 σ H1 (fun o' H2 => o' = o ∧ H2 = H1) I1 (ho _ _ _ ⟨rfl, rfl⟩)) fun vl s2 ⟨l, H2, I2, pl, el, e2⟩ => ?_)
  subst el e2
  refine thn (po_none.run pins s2 σ H2 (fun o H3 => o = none ∧ H3 = H2) I2 ⟨rfl, rfl⟩) fun vu s3 ⟨u, H3, I3, pu, eu, e3⟩ => ?_
  subst eu e3
  refine thn (hst.run pins s3 σ H3 (fun o H4 => o = some 2 ∧ H4 = H3) I3 ⟨2, rfl, rfl, rfl⟩) fun vs s4 ⟨o, H4, I4, ps, eo, e4⟩ => ?_
  subst eo e4
  have I5 : Inv X pins σ H4 { s4 with heap := s4.heap.push { cls := .type "slice", data := .fields #[vl, vu, vs] } } := I4.kept (t' := s4.toks) fun b ob q => Heap.get?_push_of_some _ q
  obtain ⟨its, r, ht, hz⟩ := I5.tuple hx
  have hlen := r.length
  cases pu
  show wpAny (model X.prog X.w) X.A (subscriptTail e (.Slice lw none (some (.Constant (.int 2) k p1)) p3) (.ref a) (.ref s4.heap.objs.size)) (EP X pins σ Q) X.xe { s4 with heap := s4.heap.push { cls := .type "slice", data := .fields #[vl, .none, vs] } }
  refine tail_any (ops := [.ref a, .ref s4.heap.objs.size]) ht.typeIs (PyProof.Rows.slot_tuple_getitem.lookup) ?_ (by with_unfolding_all rfl)
  refine getItem_tuple_ev (lo := min kk its.toArray.size) ht (Heap.IsSliceOf.new _ vl .none vs) pl ps (Nat.min_le_right _ _) (ha _) ?_ (by rw [List.size_toArray]; omega)
  refine ⟨.ref _, _, I5.laid (t' := s4.toks) (o := .tup (evL (xs.drop kk))) (fun b ob q => Heap.get?_push_of_some _ q) (Nat.le_refl _) ?_, rfl, q _ (I5.hok.fresh (Nat.le_refl _))⟩
  rw [show (its.toArray.toList.drop (min kk its.toArray.size)) = its.drop kk by
    rw [List.size_toArray]
    show its.drop _ = _
    by_cases h : kk ≤ its.length
    · rw [Nat.min_eq_left h]
    · rw [List.drop_eq_nil_of_le (by omega), List.drop_eq_nil_of_le (by omega)]]
  have hl1 := evL_len (l := xs.drop kk)
  rw [List.length_drop] at hl1
  exact ⟨by omega, _, vals_ev (r.drop kk), IsTup.new _ _⟩
theorem adj0 (n : Nat) : Builtin.Slice.sliceAdjust none none 2 (n : Int) = (((min 0 n : Nat) : Int), (n : Int)) := by
  rw [Nat.zero_min]
  rfl
theorem adj1 (n : Nat) : Builtin.Slice.sliceAdjust (some 1) none 2 (n : Int) = (((min 1 n : Nat) : Int), (n : Int)) := by
  show (min (1 : Int) (n : Int), (n : Int)) = _
  rw [show min (1 : Int) (n : Int) = ((min 1 n : Nat) : Int) by omega]
section
variable {S : Stc} {Γ : Ctx} {a : Expr} {pos : Pos} {E : α → SP} {m : Option (List α)} {k k' : Nat} {p1 p2 p3 : Pos}
theorem jn_ev0 (h : JN S a Γ m fun x => sh (tupS E x)) : JN S (.Subscript a (.Slice none none (some (.Constant (.int 2) k p1)) p3) pos) Γ (m.bind fun xs => some (evL xs)) (fun x => sh (tupS E x)) := fun σ W F sta z hz Q kq => by
  obtain ⟨x, h1, h2⟩ := run1 hz
  cases h2
  refine ⟨tEvT S.K 0 (tOf S a), fun X hX => hX.K ▸ pe_evT (peO hX) po_none (fun _ _ _ q => q) adj0, h σ W F sta x h1 _ fun v W' Fv ext _ _ r => ?_⟩
  obtain ⟨_, p, vs, rfl, q2, q3⟩ := r
  exact ⟨p, vs, rfl, .inl (.inl (ext.ok p _ q2)), (kq.ext ext).newT ext.ok q3.ev⟩
theorem jn_ev1 (h : JN S a Γ m fun x => sh (tupS E x)) : JN S (.Subscript a (.Slice (some (.Constant (.int 1) k' p2)) none (some (.Constant (.int 2) k p1)) p3) pos) Γ (m.bind fun xs => some (evL (xs.drop 1))) (fun x => sh (tupS E x)) := fun σ W F sta z hz Q kq => by
  obtain ⟨x, h1, h2⟩ := run1 hz
  cases h2
  refine ⟨tEvT S.K 1 (tOf S a), fun X hX => hX.K ▸ pe_evT (peO hX) (po_some pe_int) (fun _ _ _ q => ⟨1, rfl, q⟩) adj1, h σ W F sta x h1 _ fun v W' Fv ext _ _ r => ?_⟩
  obtain ⟨_, p, vs, rfl, q2, q3⟩ := r
  exact ⟨p, vs, rfl, .inl (.inl (ext.ok p _ q2)), (kq.ext ext).newT ext.ok (q3.drop 1).ev⟩
end
end CC
set_option maxHeartbeats 4000000
/-! sum of a tuple. -/
namespace CC
open PySem PySem.Spec L2
open PyProof.Rows hiding St
variable {α β γ δ τ υ ω ρ ε : Type}
section
variable {prog : Program} {w : World} {A : Around} {E : Value → Shared → Prop} {s : Shared} {l : Addr} {its : List Value} {ns : List Int} {Q : Value → Shared → Prop}
theorem sum_rawT (hh : A.handled = none) (hl : s.heap.IsTuple l its.toArray) (hi : IntsAre its ns)
    (h : ∀ h' tk t', (∀ b o, s.heap.get? b = some o → h'.get? b = some o) → Q (.int ns.sum t') { s with heap := h', toks := tk }) : wpAny (model prog w) A (call (.builtin "sum") [.ref l]) Q E s := by
  obtain ⟨xs, e⟩ := hi.allInts.items
  have hn : numsOf (intItems xs).toList = ns := by rw [← e]; exact hi.numsOf
  rw [nums_intItems] at hn
  rw [e] at hl
  refine PySem.W.ktm_sumG hh hl fun h' tk t' hk => ?_
  have := h h' tk t' hk
  rw [preSum_eq, List.take_of_length_le (by simp), hn]; exact this
end
def rSumT (K : PySem.W.Frag) : List V → Hp → VK → Prop := fun vs H Q => ∃ (a : Addr) (ns : List Int), vs = [V.ref a] ∧ SqT K H a (ns.map V.int) ∧ Q (.int ns.sum) H
theorem cr_sumT {X : Cx} (hc : X.calm = true) : CallR X (.builtin "sum") (rSumT X.K) := by
  intro pins s σ H vs us Q I r h
  obtain ⟨a, ns, rfl, hs, q⟩ := h
  obtain ⟨its, rv, hl, _⟩ := I.tuple hs
  rw [Vals.ref1 r]
  exact sum_rawT (I.ok.hd hc) hl rv.ints fun h' tk t' hk => ⟨.int _, H, I.kept hk, ⟨_, rfl⟩, q⟩
section
variable {S : Stc} {Γ : Ctx} {a : Expr} {pos : Pos}
theorem sum_tup {m : Option (List Int)} {p : Pos} (hm : S.mg "sum" = none) (h : JN S a Γ m fun x => sh (tupS intS x)) (hg : GlS S "sum" := by rfl) (hs : ∀ env, starEach [a] env = [(false, eval a env)] := by intro _; rfl) (hcm : S.calm = true := by rfl) : JN S (.Call (.Name "sum" p) [a] [] pos) Γ (m.bind fun x => some x.sum) fun z => sh (intS z) :=
  jn_b1 (f := fun x : List Int => some x.sum) (fun X hX => hX.K ▸ cr_sumT (hX.calm.trans hcm)) (fun W x v z ok hh e Q k => by
    cases e
    obtain ⟨a, vs, rfl, h2, h3⟩ := hh
    have e1 := each_flat fl_int h3
    subst e1
    exact ⟨a, x, rfl, .inl (.inl (ok a _ h2)), k.val ok rfl⟩) hm h hg (by decide +kernel) (by decide) (by decide) hs
end
end CC
set_option maxHeartbeats 4000000
/-! a dict of one pair; d.get(k, x). -/
namespace CC
open PySem PySem.Spec L2
open PyProof.Rows hiding St
variable {α β γ δ τ υ ω ρ ε κ : Type} [DecidableEq κ]
section
variable {S : Stc} {Γ : Ctx} {a b c e : Expr} {pos : Pos}
theorem jn_d1 {kE : κ → SP} {kk : κ → Key} {E : α → SP} {ma : Option κ} {mv : Option α} (K : KeyE kE kk) (ha : JN S a Γ ma fun k => sh (kE k)) (he : JN S e Γ mv fun x => sh (E x)) : JN S (.Dict [some a] [e] pos) Γ (ma.bind fun k => mv.bind fun x => some [(k, x)]) (dkO kk E) := fun σ W F sta z hz Q kq => by
  obtain ⟨k, x, m1, m2, m3⟩ := run2 hz
  cases m3
  refine ⟨tDisp [(tOf S a, tOf S e)], fun X hX => pe_disp (pps_cons (peO hX) (peO hX) pps_nil) rfl rfl (fun z => nomatch z) (Nat.le_of_ble_eq_true rfl), fun p hp => ?_⟩
  have e1 : Ext W ⟨upd W.H p (.dK []), W.B⟩ := Ext.new sta.ok hp
  show tOf S a σ (upd W.H p (.dK [])) _
  refine ha σ ⟨upd W.H p (.dK []), W.B⟩ F (sta.ext e1) k m1 _ fun u W1 F1 e2 _ _ r1 => he σ W1 F (sta.ext (e1.trans e2)) x m2 _ fun v W2 F2 e3 _ _ r2 => ?_
  have e23 : Ext ⟨upd W.H p (.dK []), W.B⟩ W2 := e2.trans e3
  have hp2 : W2.H p = some (.dK []) := e23.h p _ upd_same
  have ek := K.eq r1.2
  subst ek
  refine ⟨hp2, [(kk k, v)], rfl, Nat.le_of_ble_eq_true rfl, ?_⟩
  show Q (.ref p) (upd W2.H p (.dK [(kk k, v)]))
  have hB : W2.B p = none := e23.fr p (by show upd W.H p (.dK []) p ≠ none; rw [upd_same]; exact fun z => nomatch z) (sta.ok.back hp)
  have e3 : Ext W ⟨upd W2.H p (.dK [(kk k, v)]), W2.B⟩ := by
    refine ⟨wr_ok e3.ok hB, fun a o h => ?_, (e1.trans e23).b, fun a h3 h4 => ?_⟩
    · have na : a ≠ p := fun z => by rw [z, hp] at h; cases h
      show upd W2.H p _ a = _
      rw [upd_ne na]
      exact (e1.trans e23).h a o h
    · exact (e1.trans e23).fr a h3 h4
  have fp3 : FpOk ⟨upd W2.H p (.dK [(kk k, v)]), W2.B⟩ [p] := by
    refine ⟨List.nodup_cons.mpr ⟨by simp, List.nodup_nil⟩, fun a ha => ?_, fun a ha => ?_⟩
    · rw [List.mem_singleton.mp ha]
      show upd W2.H p _ p ≠ none
      rw [upd_same]
      exact fun z => nomatch z
    · rw [List.mem_singleton.mp ha]
      exact hB
  exact kq (.ref p) _ [p] e3 (fun a ha => by rw [List.mem_singleton.mp ha]; exact hp) fp3 ⟨p, _, rfl, upd_same, rfl, rfl, r2.2, trivial⟩
theorem jn_dget2 {apos : Pos} {kE : κ → SP} {kk : κ → Key} {E : α → SP} {R : List (κ × α) → OP} {ma : Option κ} {mb : Option (List (κ × α))} {mc : Option α} (K : KeyE kE kk) (D : DRd kk E R) (hb : JR S b Γ mb R) (ha : JN S a Γ ma fun k => sh (kE k)) (hc : JN S c Γ mc fun x => sh (E x)) (hbase : ∀ env, attributeBase b "get" env (eval b env) = eval b env := by intro _; rfl)
    (hf : ∀ env, ((backTo pos (starEach [a, c] env)).all (fun x => !x.1) && (backToKw pos (keywordEach [] env)).all (fun x => x.1.isSome) && decide (([a, c] : List Expr).length + ([] : List Keyword).length + (if ([] : List Keyword).isEmpty then 0 else 1) < 30)) = true := by intro _; rfl) (hline : (apos.endLine == pos.line) = true := by rfl) (htr : ∀ env, backTo pos (starEach [a, c] env) = [(false, eval a env), (false, eval c env)] := by intro _; rfl) :
    JN S (.Call (.Attribute b "get" apos) [a, c] [] pos) Γ (mb.bind fun s => ma.bind fun k => mc.bind fun x => some ((getM s k).getD x)) fun z => sh (E z) := fun σ W F st z hz Q kq => by
  obtain ⟨s, m1, hz⟩ := run1 hz
  obtain ⟨k, x, m2, m3, m4⟩ := run2 hz
  cases m4
  refine ⟨tDGet2 (tOf S b) (tOf S a) (tOf S c), fun X hX => pe_dget2 (by have := hX.un; omega) (peO hX) (peO hX) (peO hX) ⟨hbase _, hf _, hline, htr _⟩, ?_⟩
  refine hb σ W F st s m1 _ fun u W1 e1 ⟨F2, r2, al⟩ => ?_
  obtain ⟨p0, r0, eu, h0, _⟩ := D W1 s u F2 e1.ok r2
  refine ⟨p0, eu, ?_, ha σ W1 F (st.ext e1) k m2 _ fun v W2 F1 e2 _ _ r1 => hc σ W2 F (st.ext (e1.trans e2)) x m3 _ fun d W3 F3 e3 _ _ r3 => ?_⟩
  · exact .inl ⟨r0, .inl h0⟩
  have r2' : (R s).C W3 u F2 := OP.loc _ r2 (e2.trans e3).b fun x hx => (e2.trans e3).h.eq (al x hx)
  obtain ⟨p, r, rfl, h2, h3⟩ := D W3 s u F2 e3.ok r2'
  cases eu
  have ek := K.eq r1.2
  subst ek
  have g := h3.get K k
  have kx := (kq.ext ((e1.trans e2).trans e3))
  refine ⟨valV r (kk k), DGet.k h2, ?_⟩
  cases hg : getM s k with
  | none =>
    rw [hg] at g
    simp only at g
    rw [g]
    exact (hg ▸ kx).val e3.ok r3.2
  | some y =>
    rw [hg] at g
    obtain ⟨w, g1, g2⟩ := g
    rw [g1]
    exact (hg ▸ kx).val e3.ok g2
end
end CC
set_option maxHeartbeats 4000000
/-! dict comprehensions: keys ints (texts), values shared. -/
namespace CC
open PySem PySem.Spec L2
open PyProof.Rows hiding St
variable {α β γ δ τ υ ω ρ ε κ : Type} [DecidableEq κ]
def dcGo (t : α → Option Bool) (fk : α → Option κ) (fv : α → Option β) : List α → List (κ × β) → Option (List (κ × β))
  | [], s => some s
  | x :: xs, s => (t x).bind fun b => bif b then (fk x).bind fun k => (fv x).bind fun v => dcGo t fk fv xs (putM s k v) else dcGo t fk fv xs s
def dcM (t : α → Option Bool) (fk : α → Option κ) (fv : α → Option β) (xs : List α) : Option (List (κ × β)) := if xs.length ≤ LIM then dcGo t fk fv xs [] else none
theorem putR_len (k : κ) (x : β) : ∀ s : List (κ × β), (putR s k x).length = s.length
  | [] => rfl
  | q :: s => by
    unfold putR
    rw [List.length_cons, List.length_cons, putR_len k x s]
theorem putM_len (s : List (κ × β)) (k : κ) (x : β) : (putM s k x).length ≤ s.length + 1 := by
  unfold putM
  split
  · rw [putR_len]; omega
  · rw [List.length_append, List.length_singleton]; omega
section
variable {S : Stc} {Γ Δ : Ctx} {a b c e tg iter kx vx : Expr} {es ifs : List Expr} {pos : Pos}
theorem jn_dc {scope : Scope} {mi : Option (List α)} {E : α → SP} {up : α → Ctx → Ctx} {ws : List Nat} {mt : α → Option Bool} {mk : α → Option κ} {mv : α → Option β} {kE : κ → SP} {kk : κ → Key} {G : β → SP} (K : KeyE kE kk) (own : List (Str × Nat)) (nd : S.N.Nodup) (hi : JIc S tg iter Γ mi E) (ok : blkC S.N S.sc scope own = true) (hg : JG (S.blk scope) tg E up ws)
    (hw : ∀ i ∈ ws, i ∈ own.map (·.2)) (hl : ∀ i ∈ ws, i < Γ.length) (ht : ∀ x, JTs (S.blk scope) ifs (up x (wipeC Γ (own.map (·.2)))) (mt x)) (hk : ∀ x, JN (S.blk scope) kx (up x (wipeC Γ (own.map (·.2)))) (mk x) fun k => sh (kE k)) (hv : ∀ x, JN (S.blk scope) vx (up x (wipeC Γ (own.map (·.2)))) (mv x) fun y => sh (G y))
    (hs : ∀ env x, foldedSetIterable iter env x = pure x := by intro _ _; rfl) (hcm : S.calm = true := by rfl) :
    JN S (.DictComp kx vx [⟨tg, iter, ifs, 0⟩] scope pos) Γ (mi.bind fun xs => dcM mt mk mv xs) (dkO kk G) := fun σ W F st zs hx Q kq => by
  refine ⟨tDc (tiOf S tg iter) (tgOf (S.blk scope) tg) (ttsOf (S.blk scope) ifs) (tOf (S.blk scope) kx) (tOf (S.blk scope) vx) (own.map (·.2)), fun X hX => pe_dc (hX.calm.trans hcm) (by rw [hX.N]; exact nd) (piO hX) (by rw [hX.N, hX.sc]; exact blkOk_by ok) (fun s H C cl fp => pgO (hX.blk scope s H C cl fp)) (fun s H C cl fp => ptsO (hX.blk scope s H C cl fp)) (fun s H C cl fp => peO (hX.blk scope s H C cl fp)) (fun s H C cl fp => peO (hX.blk scope s H C cl fp)) (hs _), ?_⟩
  obtain ⟨xs, h1, h2⟩ := run1 hx
  unfold dcM at h2
  split at h2
  · rename_i hlen
    refine hi σ W F st xs h1 _ fun J W' ext iok => fun D hD => ?_
    have st' := st.ext ext
    refine ⟨fun i m H => m = xs.length - i ∧ i ≤ xs.length ∧ ∃ (W1 : Wd) (r : List (Key × V)) (s : List (κ × β)), W1.H = H ∧ Ext W' W1 ∧ W1.H D = some (.dK r) ∧ W1.B D = none ∧ s.length ≤ i ∧ dcGo mt mk mv (xs.drop i) s = some zs ∧ DRel kk G W1.B r s,
      ⟨xs.length, by simp, Nat.zero_le _, ⟨upd W'.H D (.dK []), W'.B⟩, [], [], rfl, Ext.new ext.ok hD, upd_same, ext.ok.back hD, Nat.le_refl _, by simpa using h2, DRel.nil⟩, ?_⟩
    rintro i m H ⟨rfl, hi', W1, r, s, rfl, e1, d1, d2, la, c1, o1⟩
    obtain ⟨iok1, iok2⟩ := iok W1 e1
    by_cases hlt : i < xs.length
    · obtain ⟨g1, g2⟩ := iok1 i xs[i] (List.getElem?_eq_getElem hlt)
      refine .inr ⟨g1, fun H' => ∃ m', m' < xs.length - i ∧ (m' = xs.length - (i + 1) ∧ i + 1 ≤ xs.length ∧ ∃ (W1 : Wd) (r : List (Key × V)) (s : List (κ × β)), W1.H = H' ∧ Ext W' W1 ∧ W1.H D = some (.dK r) ∧ W1.B D = none ∧ s.length ≤ i + 1 ∧ dcGo mt mk mv (xs.drop (i + 1)) s = some zs ∧ DRel kk G W1.B r s), fun H' h => h, fun v H' y => ?_⟩
      obtain ⟨W2, rfl, e2, p2⟩ := g2 v H' y
      have hDrop : xs.drop i = xs[i] :: xs.drop (i + 1) := List.drop_eq_getElem_cons hlt
      rw [hDrop] at c1
      obtain ⟨b, t1, t2⟩ := run1 (f := fun b => bif b then (mk xs[i]).bind fun k => (mv xs[i]).bind fun v => dcGo mt mk mv (xs.drop (i + 1)) (putM s k v) else dcGo mt mk mv (xs.drop (i + 1)) s) c1
      obtain ⟨Fw, sw, subw⟩ := (st'.ext (e1.trans e2)).wipe (own.map (·.2))
      refine hg _ _ W2 Fw xs[i] v sw (fun j hj => by rw [wipeC_len]; exact hl j hj) p2 _ fun σ2 F2 wp _ s2 sub2 => ⟨?_, ?_⟩
      · rw [wp _ hw]
        exact jc_of.wipe_wipe σ (own.map (·.2))
      refine ht xs[i] σ2 W2 F2 s2 b t1 _ fun W3 e3 => ?_
      have eAll : Ext W1 W3 := e2.trans e3
      cases b with
      | true =>
        obtain ⟨k1, v1, t3, t4, t5⟩ := run2 (f := fun k v => dcGo mt mk mv (xs.drop (i + 1)) (putM s k v)) t2
        refine iteT (hk xs[i] σ2 W3 F2 (s2.ext e3) k1 t3 _ fun u W4 Fu e4 _ _ r4 => hv xs[i] σ2 W4 F2 ((s2.ext e3).ext e4) v1 t4 _ fun y W5 Fy e5 _ _ r5 => ?_)
        have eA : Ext W1 W5 := (eAll.trans e4).trans e5
        have hD5 : W5.H D = some (.dK r) := eA.h D _ d1
        have hB5 : W5.B D = none := eA.fr D (by rw [d1]; exact fun z => nomatch z) d2
        have ek := K.eq r4.2
        subst ek
        have hr : r.length < LIM := by
          have := o1.len
          omega
        refine ⟨r, kk k1, rfl, hD5, lim_lt hr, xs.length - (i + 1), by omega, rfl, hlt, ⟨upd W5.H D (.dK (putK r (kk k1) y)), W5.B⟩, putK r (kk k1) y, putM s k1 v1, rfl, ?_, upd_same, hB5, ?_, t5, ?_⟩
        · have q := e1.trans eA
          refine ⟨fun a o h => ?_, fun a o h => ?_, q.b, q.fr⟩
          · have z : a ≠ D := fun z => by
              rw [z] at h
              rw [show W5.B D = some o from h] at hB5
              cases hB5
            show upd W5.H D _ a = some o
            rw [upd_ne z]
            exact q.ok a o h
          · show upd W5.H D _ a = some o
            rw [upd_ne (ne_of_none h hD)]
            exact q.h a o h
        · have := putM_len s k1 v1
          omega
        · exact (o1.mono eA.b).put K r5.2
      | false =>
        exact iteF ⟨xs.length - (i + 1), by omega, rfl, hlt, W3, r, s, rfl, e1.trans eAll, eAll.h D _ d1, eAll.fr D (by rw [d1]; exact fun z => nomatch z) d2, by omega, t2, o1.mono eAll.b⟩
    · have ei : i = xs.length := by omega
      subst ei
      rw [List.drop_length] at c1
      cases c1
      refine .inl ⟨iok2 _ (Nat.le_refl _), kq (.ref D) W1 [D] (ext.trans e1) (fun a ha => ?_) ⟨?_, fun a ha => ?_, fun a ha => ?_⟩ ⟨D, r, rfl, d1, rfl, o1⟩⟩
      · rw [List.mem_singleton.mp ha]; exact ext.h.back hD
      · exact List.nodup_cons.mpr ⟨List.not_mem_nil, List.nodup_nil⟩
      · rw [List.mem_singleton.mp ha, d1]; exact fun z => nomatch z
      · rw [List.mem_singleton.mp ha]; exact d2
  · cases h2
theorem swD_cell {k v : Expr} {gs : List Comprehension} {scope : Scope} {pos py : Pos} {y : Str} {l : Nat} {env : Env} (hy : env.scope.names.lookup y = some .cell) : swapsWith (.DictComp k v gs scope pos) (some (.Name y py)) l env = pure false := by
  have ky : env.kindOf y = some .cell := hy
  unfold swapsWith
  simp only [ky]
  cases env.blockKind == ScopeKind.function <;> rfl
theorem swD_true {k v : Expr} {gs : List Comprehension} {scope : Scope} {pos py : Pos} {y : Str} {l : Nat} {env : Env} (hk : env.scope.kind = .function) (hy : env.scope.names.lookup y = some .local) (hl : (py.line == pos.line) = true)
    (ha : (scope.names.any fun (n, k) => n == y && (k == .local || k == .cell)) = false) : swapsWith (.DictComp k v gs scope pos) (some (.Name y py)) l env = pure true := by
  have ky : env.kindOf y = some .local := hy
  have hb : env.blockKind = .function := by unfold Env.blockKind; rw [hk]; rfl
  unfold swapsWith
  simp only [hb, ky, ha, Expr.pos, hl]
  rfl
theorem js_setDcC {x : Str} {py spos pos : Pos} {k v : Expr} {gs : List Comprehension} {scope : Scope} {m : Option α} {R : α → OP} (i : Nat) (nd : S.N.Nodup) (h : JN S (.DictComp k v gs scope pos) Γ m R) (hi : (Γ[i]?).isSome = true := by rfl) (hN : S.N[i]? = some x := by rfl) (hx : S.sc.names.lookup x = some .cell := by rfl) (hp : (S.prot.contains i) = false := by rfl) (hf : S.fn x = true := by rfl) :
    JS S (.Assign [.Name x py] (.DictComp k v gs scope pos) spos) Γ m fun a => .nx (Γ.set i (some (R a))) := fun σ W F sta y hy E k => by
  refine ⟨tAsg (tOf S _) (gName i), fun X hX => ps_set (by rw [hX.N]; exact nd) (by rw [hX.N]; exact hN) (locS (.inr hx) hX) (peO hX) (swD_cell (by rw [hX.sc]; exact hx)) (by rw [hX.fn]; exact .inl hf), h σ W F sta y hy _ fun v W' Fv ext fr fp r => ?_⟩
  obtain ⟨F', s', stp⟩ := sta_set sta ext fr fp r hi
  exact k _ W' F' (Keep.set (ncon hp)) stp s'
/-- in d, as a test -/
theorem jt_din {kE : κ → SP} {kk : κ → Key} {E : β → SP} {R : List (κ × β) → OP} {ma : Option κ} {mb : Option (List (κ × β))} (K : KeyE kE kk) (D : DRd kk E R) (ha : JN S a Γ ma fun k => sh (kE k)) (hb : JR S b Γ mb R) (h1 : behindInMarks .In b = false := by first | exact nobehind _ (by decide) (by decide) | rfl) :
    JT S (.Compare a [.In] [b] pos) Γ (ma.bind fun k => mb.bind fun s => some (getM s k).isSome) := fun σ W F st z hz Q kq => by
  obtain ⟨k, s, m1, m2, m3⟩ := run2 hz
  cases m3
  refine ⟨tB (tDIn (tOf S a) (tOf S b)), fun X hX => pt_cmp (pc_din (by have := hX.un; omega) (peO hX) (peO hX)) h1, ?_⟩
  refine ha σ W F st k m1 _ fun v W1 F1 e1 _ _ r1 => hb σ W1 F (st.ext e1) s m2 _ fun u W2 e2 ⟨F2, r2, _⟩ => ?_
  obtain ⟨p, r, rfl, h2, h3⟩ := D W2 s u F2 e2.ok r2
  have ek := K.eq r1.2
  subst ek
  refine ⟨p, _, rfl, DGet.k h2, ?_⟩
  have g := h3.get K k
  have e : (valV r (kk k)).isSome = (getM s k).isSome := by
    cases q : getM s k with
    | none => rw [q] at g; rw [g]; rfl
    | some y =>
      rw [q] at g
      obtain ⟨u, g, _⟩ := g
      rw [g]
      rfl
  exact ⟨_, rfl, e ▸ kq _ (e1.trans e2)⟩
theorem jt_dnin {kE : κ → SP} {kk : κ → Key} {E : β → SP} {R : List (κ × β) → OP} {ma : Option κ} {mb : Option (List (κ × β))} (K : KeyE kE kk) (D : DRd kk E R) (ha : JN S a Γ ma fun k => sh (kE k)) (hb : JR S b Γ mb R) (h1 : behindInMarks .NotIn b = false := by first | exact nobehind _ (by decide) (by decide) | rfl) :
    JT S (.Compare a [.NotIn] [b] pos) Γ (ma.bind fun k => mb.bind fun s => some (!(getM s k).isSome)) := fun σ W F st z hz Q kq => by
  obtain ⟨k, s, m1, m2, m3⟩ := run2 hz
  cases m3
  refine ⟨tB (tDNotIn (tOf S a) (tOf S b)), fun X hX => pt_cmp (pc_dnotin (by have := hX.un; omega) (peO hX) (peO hX)) h1, ?_⟩
  refine ha σ W F st k m1 _ fun v W1 F1 e1 _ _ r1 => hb σ W1 F (st.ext e1) s m2 _ fun u W2 e2 ⟨F2, r2, _⟩ => ?_
  obtain ⟨p, r, rfl, h2, h3⟩ := D W2 s u F2 e2.ok r2
  have ek := K.eq r1.2
  subst ek
  refine ⟨p, _, rfl, DGet.k h2, ?_⟩
  have g := h3.get K k
  have e : (valV r (kk k)).isSome = (getM s k).isSome := by
    cases q : getM s k with
    | none => rw [q] at g; rw [g]; rfl
    | some y =>
      rw [q] at g
      obtain ⟨u, g, _⟩ := g
      rw [g]
      rfl
  exact ⟨_, rfl, e ▸ kq _ (e1.trans e2)⟩
end
end CC
set_option maxHeartbeats 4000000
/-! range of three numbers; xs.index(y). -/
namespace CC
open PySem PySem.Spec L2
open PyProof.Rows hiding St
variable {α β γ δ τ υ ω ρ ε κ : Type}
/-- range(lo, hi, c) -/
def rng3 (lo hi c : Int) : Option (List Int) := if hi - lo ≤ LIM ∧ lo - hi ≤ LIM ∧ -LIM ≤ lo ∧ lo ≤ LIM ∧ -LIM ≤ hi ∧ hi ≤ LIM ∧ c ≠ 0 ∧ -LIM ≤ c ∧ c ≤ LIM then some ((List.range (Builtin.Range.rangeSize lo hi c).toNat).map fun i : Nat => lo + (i : Nat) * c) else none
theorem rsize {lo hi c : Int} (h0 : c ≠ 0) (h1 : hi - lo ≤ 1000000) (h2 : lo - hi ≤ 1000000) : 0 ≤ Builtin.Range.rangeSize lo hi c ∧ Builtin.Range.rangeSize lo hi c ≤ 1000001 := by
  unfold Builtin.Range.rangeSize
  split
  · split
    · have a := Int.ediv_nonneg (a := hi - lo - 1) (b := c) (by omega) (by omega)
      have b : (hi - lo - 1) / c ≤ hi - lo - 1 := Int.ediv_le_self _ (by omega)
      omega
    · omega
  · split
    · have a := Int.ediv_nonneg (a := lo - hi - 1) (b := -c) (by omega) (by omega)
      have b : (lo - hi - 1) / (-c) ≤ lo - hi - 1 := Int.ediv_le_self _ (by omega)
      omega
    · omega
theorem ok_rng3 {lo c : Int} {n : Nat} {C : Wd → Prop} (hC : ∀ W1, C W1 → Ex W1.B W1.H) : ItOk (Itc lo c n) C ((List.range n).map fun i : Nat => lo + (i : Nat) * c) intS := fun W1 cc => by
  refine ⟨fun i x hx => ?_, fun i hi => by
    show n ≤ i
    simpa using hi⟩
  have hi : i < n := by
    have := (List.getElem?_eq_some_iff.mp hx).1
    simpa using this
  rw [List.getElem?_map, List.getElem?_range hi] at hx
  cases hx
  exact ⟨hi, fun v H' ⟨e1, e2⟩ => ⟨W1, e1.symm, Ext.refl (hC W1 cc), e2⟩⟩
section
variable {S : Stc} {Γ Δ : Ctx} {a b c e tg iter : Expr} {es ifs : List Expr} {pos : Pos}
theorem ji_rng3 {p : Pos} {m m' m'' : Option Int} (hm : S.mg "range" = none) (h : JN S a Γ m fun x => sh (intS x)) (h' : JN S b Γ m' fun x => sh (intS x)) (h'' : JN S c Γ m'' fun x => sh (intS x)) (hg : GlS S "range" := by rfl) (hs : ∀ env, starEach [a, b, c] env = (false, eval a env) :: starEach [b, c] env := by intro _; rfl)
    (hs2 : ∀ env, starEach [b, c] env = (false, eval b env) :: starEach [c] env := by intro _; rfl) (hs3 : ∀ env, starEach [c] env = [(false, eval c env)] := by intro _; rfl) : JI S tg (.Call (.Name "range" p) [a, b, c] [] pos) Γ (m.bind fun lo => m'.bind fun hi => m''.bind fun c => rng3 lo hi c) intS := fun σ W F st xs hx R k => by
  obtain ⟨lo, h1, hx⟩ := run1 hx
  obtain ⟨hi, cc, h1', h1'', h2⟩ := run2 hx
  unfold rng3 at h2
  split at h2
  · rename_i hb
    cases h2
    have z : (LIM : Int) = 1000000 := rfl
    rw [z] at hb
    obtain ⟨b1, b2, b3, b4, b5, b6, b7, b8, b9⟩ := hb
    have hr := rsize b7 b1 b2
    refine ⟨iRng3 (tCons (tOf S a) (tCons (tOf S b) (tCons (tOf S c) tNil))), fun X hX => pi_range3 (hg.gl hX) (mgS hm hX) (pa_cons (peO hX) (pa_cons (peO hX) (pa_cons (peO hX) pa_nil (hs3 _)) (hs2 _)) (hs _)) (hs _) (by rw [hs2, hs3]; rfl), h σ W F st lo h1 _ fun v W1 Fv ext _ _ r => ?_⟩
    obtain ⟨_, rfl⟩ := r
    refine h' σ W1 F (st.ext ext) hi h1' _ fun v W2 Fv ext2 _ _ r => ?_
    obtain ⟨_, rfl⟩ := r
    refine h'' σ W2 F ((st.ext ext).ext ext2) cc h1'' _ fun v W3 Fv ext3 _ _ r => ?_
    obtain ⟨_, rfl⟩ := r
    refine ⟨lo, hi, cc, (Builtin.Range.rangeSize lo hi cc).toNat, rfl, ⟨b7, by omega, ?_, by omega⟩, k _ W3 ((ext.trans ext2).trans ext3) (ok_rng3 fun W1 c => c.1)⟩
    unfold Builtin.Range.small Builtin.Range.rangeFitsLong
    simp only [Bool.and_eq_true, Bool.or_eq_true, decide_eq_true_eq]
    refine ⟨⟨⟨⟨?_, ?_⟩, ?_⟩, ?_⟩, .inr ?_⟩
    · omega
    · omega
    · omega
    · omega
    · split
      · simp only [Bool.and_eq_true, decide_eq_true_eq]; omega
      · simp only [Bool.and_eq_true, decide_eq_true_eq]; omega
  · cases h2
/-- xs.index(y) -/
def idxM [DecidableEq α] (xs : List α) (y : α) : Option Int := if y ∈ xs then some (xs.idxOf y : Int) else none
theorem jn_index [DecidableEq α] {apos : Pos} {E : α → SP} {V : α → L2.V} {ma : Option (List α)} {mb : Option α} (f : FlatE E V) (ha : JN S a Γ ma fun xs => sh (lstS E xs)) (hb : JN S b Γ mb fun y => sh (E y))
    (hbase : ∀ env, attributeBase a "index" env (eval a env) = eval a env := by intro _; rfl)
    (hfew : ∀ env, ((backTo pos (starEach [b] env)).all (fun x => !x.1) && (backToKw pos (keywordEach [] env)).all (fun x => x.1.isSome) && decide ([b].length + ([] : List Keyword).length + (if ([] : List Keyword).isEmpty then 0 else 1) < 30)) = true := by intro _; rfl)
    (hline : (apos.endLine == pos.line) = true := by rfl) (hs : ∀ env, starEach [b] env = (false, eval b env) :: starEach [] env := by intro _; rfl) :
    JN S (.Call (.Attribute a "index" apos) [b] [] pos) Γ (ma.bind fun xs => mb.bind fun y => idxM xs y) fun z => sh (intS z) := fun σ W F st z hz Q kq => by
  obtain ⟨xs, y, h1, h2, h3⟩ := run2 hz
  unfold idxM at h3
  split at h3
  · rename_i hm
    cases h3
    refine ⟨tBM S.K "list" (rIndex S.K) (tOf S a) (tCons (tOf S b) tNil), fun X hX => hX.K ▸ pe_bm PySem.F.plainAttrs_list PySem.F.slot_list_index PySem.F.type_list_index mt_index (peO hX) (pa_cons (peO hX) pa_nil (hs _)) (hbase _) (hfew _) hline (hs _) rfl, ?_⟩
    refine ha σ W F st xs h1 _ fun v W1 F1 e1 _ _ r1 => ?_
    obtain ⟨_, p, vs, rfl, q2, q3⟩ := r1
    have e := each_flat f q3
    subst e
    have hH := e1.ok p _ q2
    refine ⟨.inl ⟨rfl, _, .inl (.inl hH)⟩, ?_⟩
    refine hb σ W1 F (st.ext e1) y h2 _ fun u W2 F2 e2 _ _ r2 => ?_
    have eu := f.eq r2.2
    subst eu
    have hj : xs.idxOf y < xs.length := List.idxOf_lt_length_iff.mpr hm
    refine ⟨p, xs.map V, V y, xs.idxOf y, V (xs[xs.idxOf y]), rfl, rfl, .inl (.inl (e2.h p _ hH)), f.flat y, flat_all f xs, ?_, ?_, fun m z hm2 hz2 => ?_, (kq.ext (e1.trans e2)).val e2.ok rfl⟩
    · rw [List.getElem?_map, List.getElem?_eq_getElem hj]; rfl
    · rw [f.inj, List.getElem_idxOf hj]
      exact decide_eq_true rfl
    · rw [List.getElem?_map, List.getElem?_eq_getElem (by omega)] at hz2
      have hz2 := Option.some.inj hz2
      subst hz2
      rw [f.inj]
      refine decide_eq_false fun q => ?_
      have := List.not_of_lt_findIdx (p := fun x => x == y) (xs := xs) (i := m) hm2
      rw [q] at this
      simp at this
  · cases h3
end
end CC
set_option maxHeartbeats 4000000
/-! and, or as values, with state. -/
namespace CC
open PySem PySem.Spec L2
open PyProof.Rows hiding St
variable {α β γ δ τ υ ω ρ ε κ : Type}
section
variable {S : Stc} {Γ : τ → Ctx} {s : τ} {a b c e : Expr} {es : List Expr} {pos : Pos}
theorem je_one {op : BoolOp} {m : Option (α × τ)} {R : α → OP} (h : JE S a Γ s m R) : JE S (.BoolOp op [a] pos) Γ s m R := fun σ W F sta x hx Q k => ⟨tOf S a, fun X hX => pe_one (peO hX), h σ W F sta x hx Q k⟩
theorem je_and {ma : Option (Bool × τ)} {mb : τ → Option (Bool × τ)} (ha : JE S a Γ s ma fun z => sh (boolS z)) (hb : ∀ s1, JE S (.BoolOp .And (b :: es) pos) Γ s1 (mb s1) fun z => sh (boolS z)) :
    JE S (.BoolOp .And (a :: b :: es) pos) Γ s (ma.bind fun p => bif p.1 then mb p.2 else some (false, p.2)) fun z => sh (boolS z) := JE.of_sh fun σ W F sta z hz Q k => by
  obtain ⟨x, h1, h2⟩ := run1 hz
  obtain ⟨x1, x2⟩ := x
  refine ⟨tAndV (tOf S a) (tOf S (.BoolOp .And (b :: es) pos)), fun X hX => pe_and (peO hX) (peO hX), ha.sh sta h1 fun v W' F' stp sa r => ⟨x1, r, ?_⟩⟩
  cases x1 with
  | true => exact iteT ((hb x2).sh sa h2 fun v W2 F2 stp2 sa2 r2 => k v W2 F2 (stp.trans stp2) sa2 r2)
  | false =>
    cases h2
    exact iteF (k _ W' F' stp sa rfl)
theorem je_or {ma : Option (Bool × τ)} {mb : τ → Option (Bool × τ)} (ha : JE S a Γ s ma fun z => sh (boolS z)) (hb : ∀ s1, JE S (.BoolOp .Or (b :: es) pos) Γ s1 (mb s1) fun z => sh (boolS z)) :
    JE S (.BoolOp .Or (a :: b :: es) pos) Γ s (ma.bind fun p => bif p.1 then some (true, p.2) else mb p.2) fun z => sh (boolS z) := JE.of_sh fun σ W F sta z hz Q k => by
  obtain ⟨x, h1, h2⟩ := run1 hz
  obtain ⟨x1, x2⟩ := x
  refine ⟨tOrV (tOf S a) (tOf S (.BoolOp .Or (b :: es) pos)), fun X hX => pe_or (peO hX) (peO hX), ha.sh sta h1 fun v W' F' stp sa r => ⟨x1, r, ?_⟩⟩
  cases x1 with
  | false => exact iteF ((hb x2).sh sa h2 fun v W2 F2 stp2 sa2 r2 => k v W2 F2 (stp.trans stp2) sa2 r2)
  | true =>
    cases h2
    exact iteT (k _ W' F' stp sa rfl)
theorem je_max2 {p : Pos} {m : Option (α × τ)} {G : α → List SP} (g1 g2 : α → Int) (hm : S.mg "max" = none) (h : JEA S (e :: es) Γ s m G) (hG : ∀ x, G x = [intS (g1 x), intS (g2 x)] := by intro _; rfl) (hg : GlS S "max" := by rfl) (he : ∀ env, starEach (e :: es) env = (false, eval e env) :: starEach es env := by intro _; rfl) (hpl : ∀ env, (backTo pos (starEach es env)).any (·.1) = false := by intro _; rfl) (hcm : S.calm = true := by rfl) : JE S (.Call (.Name "max" p) (e :: es) [] pos) Γ s (m.bind fun x => some (if g2 x.1 > g1 x.1 then g2 x.1 else g1 x.1, x.2)) fun z => sh (intS z) := JE.of_sh fun σ W F sta z hz Q kq => by
  obtain ⟨x, h1, h2⟩ := run1 hz
  cases h2
  refine ⟨tCB (fun xs H Q => ∃ i j, xs = [.int i, .int j] ∧ Q (.int (if j > i then j else i)) H) (taOf S (e :: es)), fun X hX => pe_callB (call_max2 (hX.calm.trans hcm)) (hg.gl hX) (mgS hm hX) (by decide +kernel) (paO hX) (by decide) (by decide) (he _) (hpl _), h σ W F sta x h1 _ fun vs W' F' stp sa hh => ?_⟩
  rw [hG] at hh
  obtain ⟨u, v, rfl, a1, a2⟩ := hets2 hh
  cases a1
  cases a2
  exact ⟨_, _, rfl, kq _ W' F' stp sa rfl⟩
theorem je_min2 {p : Pos} {m : Option (α × τ)} {G : α → List SP} (g1 g2 : α → Int) (hm : S.mg "min" = none) (h : JEA S (e :: es) Γ s m G) (hG : ∀ x, G x = [intS (g1 x), intS (g2 x)] := by intro _; rfl) (hg : GlS S "min" := by rfl) (he : ∀ env, starEach (e :: es) env = (false, eval e env) :: starEach es env := by intro _; rfl) (hpl : ∀ env, (backTo pos (starEach es env)).any (·.1) = false := by intro _; rfl) (hcm : S.calm = true := by rfl) : JE S (.Call (.Name "min" p) (e :: es) [] pos) Γ s (m.bind fun x => some (if g2 x.1 < g1 x.1 then g2 x.1 else g1 x.1, x.2)) fun z => sh (intS z) := JE.of_sh fun σ W F sta z hz Q kq => by
  obtain ⟨x, h1, h2⟩ := run1 hz
  cases h2
  refine ⟨tCB (fun xs H Q => ∃ i j, xs = [.int i, .int j] ∧ Q (.int (if j < i then j else i)) H) (taOf S (e :: es)), fun X hX => pe_callB (call_min2 (hX.calm.trans hcm)) (hg.gl hX) (mgS hm hX) (by decide +kernel) (paO hX) (by decide) (by decide) (he _) (hpl _), h σ W F sta x h1 _ fun vs W' F' stp sa hh => ?_⟩
  rw [hG] at hh
  obtain ⟨u, v, rfl, a1, a2⟩ := hets2 hh
  cases a1
  cases a2
  exact ⟨_, _, rfl, kq _ W' F' stp sa rfl⟩
end
section
variable {S : Stc} {Γ : Ctx} {a b c e : Expr} {es : List Expr} {pos : Pos}
theorem jn_onone {E : α → SP} {j} : JN S (.Constant .none j pos) Γ (some (none : Option α)) fun o => sh (optS E o) := jn_c (E := optS E) (fun _ _ => pe_non) fun _ => rfl
theorem jn_osome {E : α → SP} {m : Option α} (h : JN S e Γ m fun x => sh (E x)) : JN S e Γ (m.bind fun x => some (some x)) fun o => sh (optS E o) := fun σ W F sta o ho Q k => by
  obtain ⟨x, h1, h2⟩ := run1 ho
  cases h2
  exact h σ W F sta x h1 Q k
theorem jx_osome {E : α → SP} {m : Option (Res ε α)} {Xp : ε → XP} (h : JNX S e Γ m (fun x => sh (E x)) Xp) : JNX S e Γ (m.bind fun r => some (mapX some r)) (fun o => sh (optS E o)) Xp := fun σ W F st z hz Q k => by
  obtain ⟨r, h1, h2⟩ := run1 hz
  cases h2
  refine h σ W F st r h1 Q ?_
  cases r with
  | ok x => exact k
  | er u => exact k
end
section
variable {S : Stc} {Γ : τ → Ctx} {s : τ} {a b c e : Expr} {es : List Expr} {pos : Pos}
theorem je_osome {E : α → SP} {m : Option (α × τ)} (h : JE S e Γ s m fun x => sh (E x)) : JE S e Γ s (m.bind fun q => some (some q.1, q.2)) fun o => sh (optS E o) := fun σ W F sta o ho Q k => by
  obtain ⟨x, h1, h2⟩ := run1 ho
  cases h2
  exact h σ W F sta x h1 Q k
end
end CC
set_option maxHeartbeats 4000000
/-! Dicts whose keys are tuples of ints and texts. -/
namespace CC
open PySem PySem.Spec L2
open PyProof.Rows hiding St
variable {α β γ δ τ υ ω ρ ε κ : Type}
structure KeyT (kE : κ → SP) (kt : κ → List Key) : Prop where
  eq : ∀ {B k v}, (kE k).P B v → ∃ b, v = .ref b ∧ B b = some (.tup ((kt k).map kV))
  inj : ∀ {a b}, kt a = kt b → a = b
theorem kt_prII : KeyT (fun p : Int × Int => prS intS intS p) fun p => [.inl p.1, .inl p.2] := ⟨fun {B k v} h => by
  obtain ⟨b, vs, h1, h2, h3⟩ := h
  obtain ⟨u, w, rfl, a1, a2⟩ := hets2 h3
  cases a1
  cases a2
  exact ⟨b, h1, h2⟩, fun {a b} h => by
  simp only [List.cons.injEq, Sum.inl.injEq, and_true] at h
  exact Prod.ext h.1 h.2⟩
theorem kt_prIS : KeyT (fun p : Int × Str => prS intS strS p) fun p => [.inl p.1, .inr p.2] := ⟨fun {B k v} h => by
  obtain ⟨b, vs, h1, h2, h3⟩ := h
  obtain ⟨u, w, rfl, a1, a2⟩ := hets2 h3
  cases a1
  cases a2
  exact ⟨b, h1, h2⟩, fun {a b} h => by
  simp only [List.cons.injEq, Sum.inl.injEq, Sum.inr.injEq, and_true] at h
  exact Prod.ext h.1 h.2⟩
theorem kt_ints : KeyT (fun xs : List Int => tupS intS xs) fun xs => xs.map Sum.inl := ⟨fun {B k v} h => by
  obtain ⟨b, vs, h1, h2, h3⟩ := h
  have e := each_flat fl_int h3
  subst e
  refine ⟨b, h1, ?_⟩
  rw [h2, List.map_map]
  rfl, fun {a b} h => by
  induction a generalizing b with
  | nil => cases b with
    | nil => rfl
    | cons => cases h
  | cons x a ih => cases b with
    | nil => cases h
    | cons y b =>
      simp only [List.map_cons, List.cons.injEq, Sum.inl.injEq] at h
      rw [h.1, ih h.2]⟩
def TRel (kt : κ → List Key) (E : α → SP) (B : Hp) : List (List Key × V) → List (κ × α) → Prop
  | [], [] => True
  | p :: r, q :: s => p.1 = kt q.1 ∧ (E q.2).P B p.2 ∧ TRel kt E B r s
  | _, _ => False
theorem TRel.mono {kt : κ → List Key} {E : α → SP} {B B' : Hp} (e : Ex B B') : ∀ {r : List (List Key × V)} {s : List (κ × α)}, TRel kt E B r s → TRel kt E B' r s
  | [], [], _ => trivial
  | _ :: _, _ :: _, h => ⟨h.1, SP.mono _ h.2.1 e, TRel.mono e h.2.2⟩
  | [], _ :: _, h => h.elim
  | _ :: _, [], h => h.elim
theorem TRel.len {kt : κ → List Key} {E : α → SP} {B : Hp} : ∀ {r : List (List Key × V)} {s : List (κ × α)}, TRel kt E B r s → r.length = s.length
  | [], [], _ => rfl
  | _ :: _, _ :: _, h => by rw [List.length_cons, List.length_cons, TRel.len h.2.2]
  | [], _ :: _, h => h.elim
  | _ :: _, [], h => h.elim
variable [DecidableEq κ]
theorem TRel.get {kE : κ → SP} {kt : κ → List Key} (K : KeyT kE kt) {E : α → SP} {B : Hp} : ∀ {r : List (List Key × V)} {s : List (κ × α)} (k : κ), TRel kt E B r s → match getM s k with | none => valV r (kt k) = none | some x => ∃ v, valV r (kt k) = some v ∧ (E x).P B v
  | [], [], k, _ => rfl
  | p :: r, q :: s, k, h => by
    unfold getM
    by_cases e : q.1 = k
    · rw [if_pos e]
      exact ⟨p.2, valV_pos (h.1.trans (by rw [e])), h.2.1⟩
    · rw [if_neg e]
      have := TRel.get K k h.2.2
      rw [valV_neg (fun z => e (K.inj (h.1.symm.trans z)))]
      exact this
  | [], _ :: _, _, h => h.elim
  | _ :: _, [], _, h => h.elim
theorem TRel.repl {kE : κ → SP} {kt : κ → List Key} (K : KeyT kE kt) {E : α → SP} {B : Hp} {k : κ} {x : α} {v : V} (hv : (E x).P B v) : ∀ {r : List (List Key × V)} {s : List (κ × α)}, TRel kt E B r s → TRel kt E B (r.map fun kv => if kv.1 = kt k then (kv.1, v) else kv) (putR s k x)
  | [], [], _ => trivial
  | p :: r, q :: s, h => by
    have ih := TRel.repl K (k := k) hv h.2.2
    rw [List.map_cons]
    unfold putR
    by_cases e : q.1 = k
    · rw [if_pos e, if_pos (h.1.trans (by rw [e]))]
      exact ⟨h.1, hv, ih⟩
    · rw [if_neg e, if_neg (fun z => e (K.inj (h.1.symm.trans z)))]
      exact ⟨h.1, h.2.1, ih⟩
  | [], _ :: _, h => h.elim
  | _ :: _, [], h => h.elim
omit [DecidableEq κ] in
theorem TRel.snoc {kt : κ → List Key} {E : α → SP} {B : Hp} {k : κ} {x : α} {v : V} (hv : (E x).P B v) : ∀ {r : List (List Key × V)} {s : List (κ × α)}, TRel kt E B r s → TRel kt E B (r ++ [(kt k, v)]) (s ++ [(k, x)])
  | [], [], _ => ⟨rfl, hv, trivial⟩
  | _ :: _, _ :: _, h => ⟨h.1, h.2.1, TRel.snoc hv h.2.2⟩
  | [], _ :: _, h => h.elim
  | _ :: _, [], h => h.elim
theorem TRel.put {kE : κ → SP} {kt : κ → List Key} (K : KeyT kE kt) {E : α → SP} {B : Hp} {r : List (List Key × V)} {s : List (κ × α)} {k : κ} {x : α} {v : V} (hv : (E x).P B v) (h : TRel kt E B r s) : TRel kt E B (putK r (kt k) v) (putM s k x) := by
  have g := h.get K k
  unfold putK putM
  rw [valV_any]
  cases q : getM s k with
  | none =>
    rw [q] at g
    rw [show (valV r (kt k)).isSome = false by rw [g]; rfl, if_neg (fun z => nomatch z), if_neg (fun z => nomatch z)]
    exact h.snoc hv
  | some y =>
    rw [q] at g
    obtain ⟨u, g, _⟩ := g
    rw [show (valV r (kt k)).isSome = true by rw [g]; rfl, if_pos rfl, if_pos (show (some y).isSome = true from rfl)]
    exact h.repl K hv
def dtS (kt : κ → List Key) (E : α → SP) (s : List (κ × α)) : SP := ⟨fun B v => ∃ a r, v = .ref a ∧ B a = some (.dT r) ∧ TRel kt E B r s, fun h e => by
  obtain ⟨a, r, h1, h2, h3⟩ := h
  exact ⟨a, r, h1, e a _ h2, h3.mono e⟩⟩
def dtO (kt : κ → List Key) (E : α → SP) (s : List (κ × α)) : OP := ⟨fun W v F => ∃ a r, v = .ref a ∧ W.H a = some (.dT r) ∧ F = [a] ∧ TRel kt E W.B r s, fun h e k => by
  obtain ⟨a, r, h1, h2, rfl, h4⟩ := h
  exact ⟨a, r, h1, (k a List.mem_cons_self).trans h2, rfl, h4.mono e⟩⟩
omit [DecidableEq κ] in
theorem fz_dt {kt : κ → List Key} {E : α → SP} (s : List (κ × α)) : FrzN (dtO kt E s) (dtS kt E s) := ⟨fun {W v F} h nd fr ok => by
  obtain ⟨a, r, rfl, h2, rfl, h4⟩ := h
  have na : W.B a = none := fr a List.mem_cons_self
  refine ⟨upd W.B a (.dT r), Ex.new na, fun b o e => ?_, fun b hb n => ?_, a, r, rfl, upd_same, h4.mono (Ex.new na)⟩
  · by_cases z : b = a
    · subst z
      rw [upd_same] at e
      rw [h2]
      exact e
    · rw [upd_ne z] at e
      exact ok b o e
  · have z : b ≠ a := fun z => n (z ▸ List.mem_cons_self)
    rw [upd_ne z]
    exact hb⟩
/-- what is read of either -/
def TRd (kt : κ → List Key) (E : α → SP) (R : List (κ × α) → OP) : Prop := ∀ W s v F, Ex W.B W.H → (R s).C W v F → ∃ a r, v = .ref a ∧ W.H a = some (.dT r) ∧ TRel kt E W.B r s
omit [DecidableEq κ] in
theorem rd_dtS {kt : κ → List Key} {E : α → SP} : TRd kt E (fun s => sh (dtS kt E s)) := fun W s v F ok h => by
  obtain ⟨_, a, r, h1, h2, h3⟩ := h
  exact ⟨a, r, h1, ok a _ h2, h3⟩
omit [DecidableEq κ] in
theorem rd_dtO {kt : κ → List Key} {E : α → SP} : TRd kt E (dtO kt E) := fun W s v F ok h => by
  obtain ⟨a, r, h1, h2, _, h3⟩ := h
  exact ⟨a, r, h1, h2, h3⟩
theorem TRel.dget {kE : κ → SP} {kt : κ → List Key} (K : KeyT kE kt) {E : α → SP} {W : Wd} {p : Addr} {r : List (List Key × V)} {s : List (κ × α)} {k : κ} {v : V} (ok : Ex W.B W.H) (h2 : W.H p = some (.dT r)) (h3 : TRel kt E W.B r s) (hk : (kE k).P W.B v) :
    ∃ o, DGet W.H p v o ∧ o.isSome = (getM s k).isSome ∧ ∀ x, getM s k = some x → ∃ w, o = some w ∧ (E x).P W.B w := by
  obtain ⟨b, rfl, hb⟩ := K.eq hk
  refine ⟨_, DGet.t (k := kt k) h2 (ok b _ hb), ?_, fun x hx => ?_⟩
  · have g := h3.get K k
    cases q : getM s k with
    | none => rw [q] at g; rw [g]; rfl
    | some y =>
      rw [q] at g
      obtain ⟨u, g, _⟩ := g
      rw [g]
      rfl
  · have g := h3.get K k
    rw [hx] at g
    exact g
section
variable {S : Stc} {Γ : Ctx} {a b c e : Expr} {es : List Expr} {pos : Pos}
omit [DecidableEq κ] in
theorem jn_tnew {kt : κ → List Key} {E : α → SP} : JN S (.Dict [] [] pos) Γ (some []) (dtO kt E) := fun σ W F sta z hz Q kq => by
  cases hz
  refine ⟨tDNewT, fun X hX => pe_dnewT, fun p hp => ?_⟩
  exact kq (.ref p) ⟨upd W.H p (.dT []), W.B⟩ [p] (Ext.new sta.ok hp) (fun x hx => by rw [List.mem_singleton.mp hx]; exact hp) (fp_one (sta.ok.back hp)) ⟨p, [], rfl, upd_same, rfl, trivial⟩
theorem jn_tin {kE : κ → SP} {kt : κ → List Key} {E : α → SP} {R : List (κ × α) → OP} {ma : Option κ} {mb : Option (List (κ × α))} (K : KeyT kE kt) (D : TRd kt E R) (ha : JN S a Γ ma fun k => sh (kE k)) (hb : JR S b Γ mb R) (h1 : behindInMarks .In b = false := by first | exact nobehind _ (by decide) (by decide) | rfl) :
    JN S (.Compare a [.In] [b] pos) Γ (ma.bind fun k => mb.bind fun s => some (getM s k).isSome) fun z => sh (boolS z) := fun σ W F st z hz Q kq => by
  obtain ⟨k, s, m1, m2, m3⟩ := run2 hz
  cases m3
  refine ⟨tDIn (tOf S a) (tOf S b), fun X hX => pe_cmp (pc_din (by have := hX.un; omega) (peO hX) (peO hX)) h1, ?_⟩
  refine ha σ W F st k m1 _ fun v W1 F1 e1 _ _ r1 => hb σ W1 F (st.ext e1) s m2 _ fun u W2 e2 ⟨F2, r2, _⟩ => ?_
  obtain ⟨p, r, rfl, h2, h3⟩ := D W2 s u F2 e2.ok r2
  obtain ⟨o, g1, g2, _⟩ := TRel.dget K e2.ok h2 h3 (SP.mono _ r1.2 e2.b)
  exact ⟨p, o, rfl, g1, (kq.ext (e1.trans e2)).val e2.ok (by rw [g2]; rfl)⟩
theorem jn_tnin {kE : κ → SP} {kt : κ → List Key} {E : α → SP} {R : List (κ × α) → OP} {ma : Option κ} {mb : Option (List (κ × α))} (K : KeyT kE kt) (D : TRd kt E R) (ha : JN S a Γ ma fun k => sh (kE k)) (hb : JR S b Γ mb R) (h1 : behindInMarks .NotIn b = false := by first | exact nobehind _ (by decide) (by decide) | rfl) :
    JN S (.Compare a [.NotIn] [b] pos) Γ (ma.bind fun k => mb.bind fun s => some (!(getM s k).isSome)) fun z => sh (boolS z) := fun σ W F st z hz Q kq => by
  obtain ⟨k, s, m1, m2, m3⟩ := run2 hz
  cases m3
  refine ⟨tDNotIn (tOf S a) (tOf S b), fun X hX => pe_cmp (pc_dnotin (by have := hX.un; omega) (peO hX) (peO hX)) h1, ?_⟩
  refine ha σ W F st k m1 _ fun v W1 F1 e1 _ _ r1 => hb σ W1 F (st.ext e1) s m2 _ fun u W2 e2 ⟨F2, r2, _⟩ => ?_
  obtain ⟨p, r, rfl, h2, h3⟩ := D W2 s u F2 e2.ok r2
  obtain ⟨o, g1, g2, _⟩ := TRel.dget K e2.ok h2 h3 (SP.mono _ r1.2 e2.b)
  exact ⟨p, o, rfl, g1, (kq.ext (e1.trans e2)).val e2.ok (by rw [g2]; rfl)⟩
theorem jt_tin {kE : κ → SP} {kt : κ → List Key} {E : α → SP} {R : List (κ × α) → OP} {ma : Option κ} {mb : Option (List (κ × α))} (K : KeyT kE kt) (D : TRd kt E R) (ha : JN S a Γ ma fun k => sh (kE k)) (hb : JR S b Γ mb R) (h1 : behindInMarks .In b = false := by first | exact nobehind _ (by decide) (by decide) | rfl) :
    JT S (.Compare a [.In] [b] pos) Γ (ma.bind fun k => mb.bind fun s => some (getM s k).isSome) := fun σ W F st z hz Q kq => by
  obtain ⟨k, s, m1, m2, m3⟩ := run2 hz
  cases m3
  refine ⟨tB (tDIn (tOf S a) (tOf S b)), fun X hX => pt_cmp (pc_din (by have := hX.un; omega) (peO hX) (peO hX)) h1, ?_⟩
  refine ha σ W F st k m1 _ fun v W1 F1 e1 _ _ r1 => hb σ W1 F (st.ext e1) s m2 _ fun u W2 e2 ⟨F2, r2, _⟩ => ?_
  obtain ⟨p, r, rfl, h2, h3⟩ := D W2 s u F2 e2.ok r2
  obtain ⟨o, g1, g2, _⟩ := TRel.dget K e2.ok h2 h3 (SP.mono _ r1.2 e2.b)
  exact ⟨p, o, rfl, g1, _, rfl, g2 ▸ kq _ (e1.trans e2)⟩
theorem jt_tnin {kE : κ → SP} {kt : κ → List Key} {E : α → SP} {R : List (κ × α) → OP} {ma : Option κ} {mb : Option (List (κ × α))} (K : KeyT kE kt) (D : TRd kt E R) (ha : JN S a Γ ma fun k => sh (kE k)) (hb : JR S b Γ mb R) (h1 : behindInMarks .NotIn b = false := by first | exact nobehind _ (by decide) (by decide) | rfl) :
    JT S (.Compare a [.NotIn] [b] pos) Γ (ma.bind fun k => mb.bind fun s => some (!(getM s k).isSome)) := fun σ W F st z hz Q kq => by
  obtain ⟨k, s, m1, m2, m3⟩ := run2 hz
  cases m3
  refine ⟨tB (tDNotIn (tOf S a) (tOf S b)), fun X hX => pt_cmp (pc_dnotin (by have := hX.un; omega) (peO hX) (peO hX)) h1, ?_⟩
  refine ha σ W F st k m1 _ fun v W1 F1 e1 _ _ r1 => hb σ W1 F (st.ext e1) s m2 _ fun u W2 e2 ⟨F2, r2, _⟩ => ?_
  obtain ⟨p, r, rfl, h2, h3⟩ := D W2 s u F2 e2.ok r2
  obtain ⟨o, g1, g2, _⟩ := TRel.dget K e2.ok h2 h3 (SP.mono _ r1.2 e2.b)
  exact ⟨p, o, rfl, g1, _, rfl, g2 ▸ kq _ (e1.trans e2)⟩
theorem jn_tget {kE : κ → SP} {kt : κ → List Key} {E : α → SP} {R : List (κ × α) → OP} {ma : Option κ} {mb : Option (List (κ × α))} (K : KeyT kE kt) (D : TRd kt E R) (hb : JR S b Γ mb R) (ha : JN S a Γ ma fun k => sh (kE k)) (hs : NoSl a := by exact fun _ _ => rfl) :
    JN S (.Subscript b a pos) Γ (mb.bind fun s => ma.bind fun k => getM s k) fun z => sh (E z) := fun σ W F st z hz Q kq => by
  obtain ⟨s, k, m1, m2, m3⟩ := run2 hz
  refine ⟨tDGet (tOf S b) (tOf S a), fun X hX => pe_dget (by have := hX.un; omega) (peO hX) (peO hX) hs, ?_⟩
  refine hb σ W F st s m1 _ fun u W1 e1 ⟨F2, r2, al⟩ => ha σ W1 F (st.ext e1) k m2 _ fun v W2 F1 e2 _ _ r1 => ?_
  have r2' : (R s).C W2 u F2 := OP.loc _ r2 e2.b fun x hx => e2.h.eq (al x hx)
  obtain ⟨p, r, rfl, h2, h3⟩ := D W2 s u F2 e2.ok r2'
  obtain ⟨o, g1, _, g3⟩ := TRel.dget K e2.ok h2 h3 r1.2
  obtain ⟨w, rfl, g4⟩ := g3 z m3
  exact ⟨p, w, rfl, g1, (kq.ext (e1.trans e2)).val e2.ok g4⟩
theorem js_tput {x : Str} {p0 tpos : Pos} {kE : κ → SP} {kt : κ → List Key} {E : α → SP} {s : List (κ × α)} {mv : Option α} {mk : Option κ} (i : Nat) (K : KeyT kE kt) (h : JN S e Γ mv fun x => sh (E x)) (hk : JN S b Γ mk fun k => sh (kE k)) (hi : Γ[i]? = some (some (dtO kt E s)) := by rfl) (hN : S.N[i]? = some x := by rfl) (hv : Vis S.sc x := by first | exact Or.inl rfl | exact Or.inr (Or.inl rfl) | exact Or.inr (Or.inr rfl))
    (hd : (x == ("__debug__" : Str)) = false := by decide) (hcd : (x == ("__classdict__" : Str)) = false := by decide) (hs : ∀ env, swapsWith e (some (.Subscript (.Name x p0) b tpos)) pos.line env = pure false := by intro _; rfl) :
    JS S (.Assign [.Subscript (.Name x p0) b tpos] e pos) Γ (mv.bind fun y => mk.bind fun k => putMO s k y) fun s' => .nx (Γ.set i (some (dtO kt E s'))) := fun σ W F sta z hz Ed kq => by
  obtain ⟨y, k, m1, m2, m3⟩ := run2 hz
  unfold putMO at m3
  split at m3
  · rename_i hlen
    cases m3
    refine ⟨sDPut (tVar i) (tOf S b) (tOf S e), fun X hX => ps_dput (by have := hX.un; omega) (pe_var (by rw [hX.N]; exact hN) (visS hv hX) hd hcd) (peO hX) (peO hX) (hs _), ?_⟩
    refine h σ W F sta y m1 _ fun u W1 Fv ext fr fp r => ?_
    obtain ⟨rfl, r⟩ := r
    obtain ⟨v, F1, F2, a1, a2, a3, a4⟩ := (sta.ext ext).hold.at hi
    refine ⟨v, a1, hk σ W1 F (sta.ext ext) k m2 _ fun w W3 Fv3 ext3 _ _ r3 => ?_⟩
    have sta3 := (sta.ext ext).ext ext3
    obtain ⟨v', F1', F2', c1, c2, c3, c4⟩ := sta3.hold.at hi
    have ev : v' = v := by rw [a1] at c1; exact (Option.some.inj (Option.some.inj c1)).symm
    subst ev
    obtain ⟨p, rr, rfl, d2, rfl, d4⟩ := c2
    obtain ⟨bk, rfl, hbk⟩ := K.eq r3.2
    have hB : W3.B p = none := (sta3.fp.perm c3).fr p (by simp)
    refine ⟨p, _, rfl, DPut.t d2 (ext3.ok bk _ hbk) (lim_lt (by rw [d4.len]; exact hlen)), ?_⟩
    have d5 : TRel kt E W3.B (putK rr (kt k) u) (putM s k y) := d4.put K (SP.mono _ r ext3.b)
    have fpA := (sta3.fp.perm c3).left
    obtain ⟨F', s', stp⟩ := sta_own (W' := ⟨upd W3.H p (.dT (putK rr (kt k) u)), W3.B⟩) (F1' := [p]) (o' := dtO kt E (putM s k y)) [] sta3 (by rw [List.append_nil]; exact sta3.fp) c1 c3 c4 (wr_ok ext3.ok hB) rfl (fun a ha _ => upd_ne fun z => ha (z ▸ List.mem_cons_self)) wr_al
      ⟨fpA.nd, fun a ha => wr_al a (fpA.al a ha), fpA.fr⟩ (fun a ha => .inl ha) ⟨p, _, rfl, upd_same, rfl, d5⟩
    rw [List.append_nil] at stp
    exact kq σ _ F' Keep.refl ((ext.stp0.trans ext3.stp0).trans stp) s'
  · cases m3
end
end CC
set_option maxHeartbeats 4000000
/-! Objects: instances of the program's own classes, with their fields. -/
namespace CC
open PySem PySem.Spec L2
open PyProof.Rows hiding St
variable {α β γ δ τ υ ω ρ ε κ : Type}
theorem zlk : ∀ {ns : List Str} {vs : List V} {i : Nat} {f : Str} {v : V}, ns.Nodup → ns[i]? = some f → vs[i]? = some v → (ns.zip vs).lookup f = some v
  | n :: ns, u :: vs, 0, f, v, nd, h1, h2 => by
    have e1 : n = f := by simpa using h1
    have e2 : u = v := by simpa using h2
    subst e1 e2
    show List.lookup n ((n, u) :: ns.zip vs) = some u
    rw [List.lookup_cons_self]
  | n :: ns, u :: vs, i + 1, f, v, nd, h1, h2 => by
    have h1' : ns[i]? = some f := by simpa using h1
    have ne : f ≠ n := fun z => (List.nodup_cons.mp nd).1 (z ▸ List.mem_of_getElem? h1')
    show List.lookup f ((n, u) :: ns.zip vs) = some v
    rw [List.lookup_cons, beq_eq_false_iff_ne.mpr ne]
    exact zlk (List.nodup_cons.mp nd).2 h1' (by simpa using h2)
  | [], _, _, _, _, _, h1, _ => by simp at h1
  | _ :: _, [], _, _, _, _, _, h2 => by simp at h2
theorem zno : ∀ {ns : List Str} {vs : List V} {f : Str}, f ∉ ns → (ns.zip vs).lookup f = none
  | [], _, _, _ => rfl
  | _ :: _, [], _, _ => rfl
  | n :: ns, u :: vs, f, h => by
    have ne : f ≠ n := fun z => h (z ▸ List.mem_cons_self)
    show List.lookup f ((n, u) :: ns.zip vs) = none
    rw [List.lookup_cons, beq_eq_false_iff_ne.mpr ne]
    exact zno fun z => h (List.mem_cons_of_mem _ z)
theorem znew {f : Str} {u : V} : ∀ {ns : List Str} {vs : List V}, f ∉ ns → vs.length = ns.length → putF f u (ns.zip vs) = (ns ++ [f]).zip (vs ++ [u])
  | [], [], _, _ => rfl
  | [], _ :: _, _, h => by simp at h
  | _ :: _, [], _, h => by simp at h
  | n :: ns, v :: vs, h, hl => by
    have ne : ¬ n = f := fun z => h (z ▸ List.mem_cons_self)
    show (if n = f then _ else (n, v) :: putF f u (ns.zip vs)) = (n, v) :: (ns ++ [f]).zip (vs ++ [u])
    rw [if_neg ne, znew (fun z => h (List.mem_cons_of_mem _ z)) (by simpa using hl)]
/-- an instance of the class at C, the fields ns -/
def insO (C : Addr) (ns : List Str) (ps : List OP) : OP := ⟨fun W v F => ∃ a dx vs F2, v = .ref a ∧ W.H a = some (.ins C dx (ns.zip vs)) ∧ W.H dx = some (.own a) ∧ F = a :: dx :: F2 ∧ vs.length = ns.length ∧ HetO W vs ps F2, fun h e k => by
  obtain ⟨a, dx, vs, F2, h1, h2, h3, h4, h5, h6⟩ := h
  subst h4
  exact ⟨a, dx, vs, F2, h1, (k a List.mem_cons_self).trans h2, (k dx (List.mem_cons_of_mem _ List.mem_cons_self)).trans h3, rfl, h5, h6.loc e fun b hb => k b (List.mem_cons_of_mem _ (List.mem_cons_of_mem _ hb))⟩⟩
/-- .. that stands still -/
def insS (C : Addr) (ns : List Str) (qs : List SP) : SP := ⟨fun B v => ∃ a dx vs, v = .ref a ∧ B a = some (.ins C dx (ns.zip vs)) ∧ vs.length = ns.length ∧ Hets B vs qs, fun h e => by
  obtain ⟨a, dx, vs, h1, h2, h3, h4⟩ := h
  exact ⟨a, dx, vs, h1, e a _ h2, h3, h4.mono e⟩⟩
theorem fz_ins {C : Addr} {ns : List Str} {ps : List OP} {qs : List SP} (f : Paired FrzN ps qs) : FrzN (insO C ns ps) (insS C ns qs) := ⟨fun {W v F} h nd fr ok => by
  obtain ⟨a, dx, vs, F2, rfl, h2, h3, rfl, h5, h6⟩ := h
  have nd1 := List.nodup_cons.mp nd
  have nd2 := List.nodup_cons.mp nd1.2
  obtain ⟨B1, a1, a2, a3, a4⟩ := fz_het (ps := ps) (qs := qs) h6 f nd2.2 (fun b hb => fr b (List.mem_cons_of_mem _ (List.mem_cons_of_mem _ hb))) ok
  have na : B1 a = none := a3 a (fr a List.mem_cons_self) fun z => nd1.1 (List.mem_cons_of_mem _ z)
  refine ⟨upd B1 a (.ins C dx (ns.zip vs)), a1.trans (Ex.new na), fun b o e => ?_, fun b hb n => ?_, a, dx, vs, rfl, upd_same, h5, a4.mono (Ex.new na)⟩
  · by_cases z : b = a
    · subst z
      rw [upd_same] at e
      rw [h2]
      exact e
    · rw [upd_ne z] at e
      exact a2 b o e
  · have z : b ≠ a := fun z => n (z ▸ List.mem_cons_self)
    rw [upd_ne z]
    exact a3 b hb fun q => n (List.mem_cons_of_mem _ (List.mem_cons_of_mem _ q))⟩
section
variable {S : Stc} {Γ : Ctx} {a b c e : Expr} {es : List Expr} {pos : Pos}
/-- e.f, read where it stands -/
theorem jr_fld {C : Addr} {ns : List Str} {ps : α → List OP} {R : β → OP} {g : α → β} {m : Option α} {f : Str} (k : Nat) (c : Cls S.K C) (na : NoAttr S.K C f) (h : JR S e Γ m fun x => insO C ns (ps x)) (hk : ∀ x, (ps x)[k]? = some (R (g x)) := by intro _; rfl) (hf : ns[k]? = some f := by rfl) (nd : ns.Nodup := by decide) (hb : ∀ env, attributeBase e f env (eval e env) = eval e env := by intro _; rfl) :
    JR S (.Attribute e f pos) Γ (m.bind fun x => some (g x)) R := fun σ W F sta z hz Q kq => by
  obtain ⟨y, h1, h2⟩ := run1 hz
  cases h2
  refine ⟨tFld S.K (tOf S e) f, fun X hX => hX.K ▸ pe_fld (peO hX) (hb _), h σ W F sta y h1 _ fun v W' ext ⟨F1, r, al⟩ => ?_⟩
  obtain ⟨a, dx, vs, F2, rfl, q2, q3, rfl, q5, q6⟩ := r
  obtain ⟨u, G1, G2, u1, u2, u3, _⟩ := q6.at (hk y)
  exact ⟨a, C, dx, _, u, rfl, q2, c, na, zlk nd hf u1, kq u W' ext ⟨G1, u2, fun b hb => al b (List.mem_cons_of_mem _ (List.mem_cons_of_mem _ (u3.mem_iff.mpr (List.mem_append_left _ hb))))⟩⟩
/-- e.f of what stands still -/
theorem jn_fldS {C : Addr} {ns : List Str} {qs : α → List SP} {E : β → SP} {g : α → β} {m : Option α} {f : Str} (k : Nat) (c : Cls S.K C) (na : NoAttr S.K C f) (h : JN S e Γ m fun x => sh (insS C ns (qs x))) (hk : ∀ x, (qs x)[k]? = some (E (g x)) := by intro _; rfl) (hf : ns[k]? = some f := by rfl) (nd : ns.Nodup := by decide) (hb : ∀ env, attributeBase e f env (eval e env) = eval e env := by intro _; rfl) :
    JN S (.Attribute e f pos) Γ (m.bind fun x => some (g x)) fun x => sh (E x) := fun σ W F sta z hz Q kq => by
  obtain ⟨y, h1, h2⟩ := run1 hz
  cases h2
  refine ⟨tFld S.K (tOf S e) f, fun X hX => hX.K ▸ pe_fld (peO hX) (hb _), h σ W F sta y h1 _ fun v W' Fv ext _ _ r => ?_⟩
  obtain ⟨_, a, dx, vs, rfl, q2, q3, q4⟩ := r
  obtain ⟨u, u1, u2⟩ := q4.get (hk y)
  exact ⟨a, C, dx, _, u, rfl, ext.ok a _ q2, c, na, zlk nd hf u1, (kq.ext ext).val ext.ok u2⟩
end
section
variable {S : Stc} {Γ : Ctx} {a b c e : Expr} {es : List Expr} {pos : Pos}
theorem HetO.snoc {W : Wd} {u : V} {o : OP} {G : List Addr} (h : o.C W u G) : ∀ {vs : List V} {ps : List OP} {F : List Addr}, HetO W vs ps F → HetO W (vs ++ [u]) (ps ++ [o]) (F ++ G)
  | [], [], F, e => by
    have e : F = [] := e
    subst e
    exact ⟨G, [], (List.append_nil _).symm, h, rfl⟩
  | v :: vs, p :: ps, F, ⟨F1, F2, h1, h2, h3⟩ => by
    subst h1
    exact ⟨F1, F2 ++ G, by rw [List.append_assoc], h2, HetO.snoc h h3⟩
  | [], _ :: _, _, h => h.elim
  | _ :: _, [], _, h => h.elim
/-- a part of the object at slot i, and how it may change -/
theorem ins_part {σ : L2.St} {W : Wd} {F : List Addr} {i k : Nat} {C : Addr} {ns : List Str} {ps : List OP} {o : OP} (sta : Sta Γ σ W F) (hi : Γ[i]? = some (some (insO C ns ps))) (hk : ps[k]? = some o) :
    ∃ a dx vs u K1, σ[i]? = some (some (.ref a)) ∧ W.H a = some (.ins C dx (ns.zip vs)) ∧ vs.length = ns.length ∧ vs[k]? = some u ∧ o.C W u K1 ∧ FpOk W K1 ∧ ∀ (W' : Wd) (o' : OP) (K1' : List Addr), W'.B = W.B → Ex W'.B W'.H → (∀ b, b ∉ K1 → W.H b ≠ none → W'.H b = W.H b) → (∀ b, W.H b ≠ none → W'.H b ≠ none) → K1'.Perm K1 → o'.C W' u K1' →
      ∃ F', Sta (Γ.set i (some (insO C ns (ps.set k o')))) σ W' F' ∧ Stp W F W' F' := by
  obtain ⟨v, F1, F2, a1, a2, a3, a4⟩ := sta.hold.at hi
  obtain ⟨a, dx, vs, G, rfl, b2, b3, rfl, b5, b6⟩ := a2
  obtain ⟨u, K1, K2, k1, k2, k3, k4⟩ := b6.at hk
  have fpA := (sta.fp.perm a3).left
  have nd1 := List.nodup_cons.mp fpA.nd
  have nd2 := List.nodup_cons.mp nd1.2
  have ndK := k3.nodup_iff.mp nd2.2
  have inG : ∀ b ∈ K1, b ∈ G := fun b hb => k3.mem_iff.mpr (List.mem_append_left _ hb)
  have fpK : FpOk W K1 := ⟨(List.nodup_append.mp ndK).1, fun b hb => fpA.al b (List.mem_cons_of_mem _ (List.mem_cons_of_mem _ (inG b hb))), fun b hb => fpA.fr b (List.mem_cons_of_mem _ (List.mem_cons_of_mem _ (inG b hb)))⟩
  refine ⟨a, dx, vs, u, K1, a1, b2, b5, k1, k2, fpK, fun W' o' K1' eb ok hh al pm r => ?_⟩
  have naK : a ∉ K1 := fun z => nd1.1 (List.mem_cons_of_mem _ (inG a z))
  have ndx : dx ∉ K1 := fun z => nd2.1 (inG dx z)
  obtain ⟨G', g1, g2⟩ := k4 W' o' u K1' (by rw [eb]; exact Ex.refl _) (fun b hb => hh b (fun z => (List.nodup_append.mp ndK).2.2 b z b hb rfl) (fpA.al b (List.mem_cons_of_mem _ (List.mem_cons_of_mem _ (k3.mem_iff.mpr (List.mem_append_right _ hb)))))) r
  have hset : vs.set k u = vs := by
    refine List.ext_getElem? fun n => ?_
    by_cases z : k = n
    · subst z
      rw [k1, List.getElem?_set_self (List.getElem?_eq_some_iff.mp k1).1]
    · rw [List.getElem?_set_ne z]
  rw [hset] at g1
  have pG : G'.Perm G := g2.trans ((List.Perm.append_right K2 pm).trans k3.symm)
  have pF : (a :: dx :: G').Perm (a :: dx :: G) := .cons a (.cons dx pG)
  have fpB := fpA.perm pF.symm
  obtain ⟨F', s', stp⟩ := sta_own (W' := W') (F1' := a :: dx :: G') (o' := insO C ns (ps.set k o')) [] sta (by rw [List.append_nil]; exact sta.fp) a1 a3 a4 ok eb (fun b hb hn => hh b (fun z => hb (List.mem_cons_of_mem _ (List.mem_cons_of_mem _ (inG b z)))) hn) al
    ⟨fpB.nd, fun b hb => al b (fpB.al b hb), fun b hb => by rw [eb]; exact fpB.fr b hb⟩ (fun b hb => .inl (pF.mem_iff.mp hb)) ⟨a, dx, vs, G', rfl, (hh a naK (by rw [b2]; exact fun z => nomatch z)).trans b2, (hh dx ndx (by rw [b3]; exact fun z => nomatch z)).trans b3, rfl, b5, g1⟩
  rw [List.append_nil] at stp
  exact ⟨F', s', stp⟩
/-- o.f = e, a new field -/
theorem js_fldNew {x f : Str} {p0 p1 : Pos} {C : Addr} {ns : List Str} {ps : List OP} {E : α → OP} {mv : Option α} (i : Nat) (c : Cls S.K C) (na : NoAttr S.K C f) (h : JN S e Γ mv E) (hi : Γ[i]? = some (some (insO C ns ps)) := by rfl) (hf : f ∉ ns := by decide) (hl : ns.length < 900 := by decide) (hN : S.N[i]? = some x := by rfl) (hv : Vis S.sc x := by first | exact Or.inl rfl | exact Or.inr (Or.inl rfl) | exact Or.inr (Or.inr rfl))
    (hd : (x == ("__debug__" : Str)) = false := by decide) (hcd : (x == ("__classdict__" : Str)) = false := by decide) (hs : ∀ env, swapsWith e (some (.Attribute (.Name x p0) f p1)) pos.line env = pure false := by intro _; rfl) :
    JS S (.Assign [.Attribute (.Name x p0) f p1] e pos) Γ mv fun y => .nx (Γ.set i (some (insO C (ns ++ [f]) (ps ++ [E y])))) := fun σ W F sta y hy Ed kq => by
  refine ⟨sFld S.K (tVar i) (tOf S e) f, fun X hX => hX.K ▸ ps_fld (pe_var (by rw [hX.N]; exact hN) (visS hv hX) hd hcd) (peO hX) (hs _), h σ W F sta y hy _ fun u W1 Fv ext fr fp r => ?_⟩
  have sta1 := sta.ext ext
  obtain ⟨v, F1, F2, a1, a2, a3, a4⟩ := sta1.hold.at hi
  obtain ⟨a, dx, vs, G, rfl, b2, b3, rfl, b5, b6⟩ := a2
  have hzl : (ns.zip vs).length < 1000 := by
    rw [List.length_zip]
    omega
  refine ⟨.ref a, a1, a, C, dx, _, rfl, b2, c, na, hzl, ?_⟩
  rw [znew hf b5]
  have q : FpOk W1 (F ++ Fv) := sta.fp.fresh ext fp fr
  have q2 : FpOk W1 (((a :: dx :: G) ++ F2) ++ Fv) := q.perm (List.Perm.append_right Fv a3)
  have fpA : FpOk W1 ((a :: dx :: G) ++ Fv) := by
    refine FpOk.left (F' := F2) (q2.perm ?_)
    rw [List.append_assoc, List.append_assoc]
    exact List.Perm.append_left _ List.perm_append_comm
  have nd1 := List.nodup_cons.mp (show (a :: (dx :: G ++ Fv)).Nodup from fpA.nd)
  have hB : W1.B a = none := fpA.fr a List.mem_cons_self
  have nA : ∀ b ∈ dx :: G ++ Fv, b ≠ a := fun b hb z => nd1.1 (z ▸ hb)
  have r' : (E y).C ⟨upd W1.H a (.ins C dx ((ns ++ [f]).zip (vs ++ [u]))), W1.B⟩ u Fv := OP.loc _ r (fun _ _ h => h) fun b hb => upd_ne (nA b (List.mem_append_right _ hb))
  have g' : HetO ⟨upd W1.H a (.ins C dx ((ns ++ [f]).zip (vs ++ [u]))), W1.B⟩ vs ps G := HetO.loc (W := W1) (W' := ⟨upd W1.H a (.ins C dx ((ns ++ [f]).zip (vs ++ [u]))), W1.B⟩) (fun _ _ h => h) b6 fun b hb => upd_ne (nA b (List.mem_append_left _ (List.mem_cons_of_mem _ hb)))
  obtain ⟨F', s', stp⟩ := sta_own (W' := ⟨upd W1.H a (.ins C dx ((ns ++ [f]).zip (vs ++ [u]))), W1.B⟩) (F1' := a :: dx :: (G ++ Fv)) (o' := insO C (ns ++ [f]) (ps ++ [E y])) Fv sta1 q a1 a3 a4 (wr_ok ext.ok hB) rfl (fun b hb _ => upd_ne fun z => hb (z ▸ List.mem_cons_self)) wr_al
    ⟨fpA.nd, fun b hb => wr_al b (fpA.al b hb), fpA.fr⟩ (fun b hb => by
      rcases List.mem_append.mp (show b ∈ (a :: dx :: G) ++ Fv from hb) with z | z
      · exact .inl z
      · exact .inr (.inl z)) ⟨a, dx, vs ++ [u], G ++ Fv, rfl, upd_same, (upd_ne (nA dx (List.mem_append_left _ List.mem_cons_self))).trans b3, rfl, by rw [List.length_append, List.length_append, b5]; rfl, HetO.snoc r' g'⟩
  exact kq σ _ F' Keep.refl ((ext.stp fr).trans stp) s'
/-- o.f[i] = e, a list of shared things -/
theorem js_fldI {x f : Str} {p0 p1 tpos : Pos} {C : Addr} {ns : List Str} {ps : List OP} {E : α → SP} {xs : List α} {mv : Option α} {mi : Option Int} (i k : Nat) (c : Cls S.K C) (na : NoAttr S.K C f) (h : JN S e Γ mv fun x => sh (E x)) (hb : JN S b Γ mi fun z => sh (intS z)) (hi : Γ[i]? = some (some (insO C ns ps)) := by rfl) (hk : ps[k]? = some (lstO (fun x => sh (E x)) xs) := by rfl) (hf : ns[k]? = some f := by rfl) (nd : ns.Nodup := by decide) (hN : S.N[i]? = some x := by rfl) (hv : Vis S.sc x := by first | exact Or.inl rfl | exact Or.inr (Or.inl rfl) | exact Or.inr (Or.inr rfl))
    (hd : (x == ("__debug__" : Str)) = false := by decide) (hcd : (x == ("__classdict__" : Str)) = false := by decide) (hab : ∀ env, attributeBase (.Name x p0) f env (eval (.Name x p0) env) = eval (.Name x p0) env := by intro _; rfl)
    (ha : ∀ env v, assign (.Subscript (.Attribute (.Name x p0) f p1) b tpos) env v = (do
      let ov ← holding [v] (eval (.Attribute (.Name x p0) f p1) env)
      let iv ← holding [v, ov] (eval b env)
      standAt tpos
      holding [v, ov, iv] (setItem ov iv v)
      release [v, ov, iv] []) := by intro _ _; rfl) (hs : ∀ env, swapsWithSole [.Subscript (.Attribute (.Name x p0) f p1) b tpos] e pos.line env = pure false := by intro _; rfl) (hw : ∀ env, swappedStores [.Subscript (.Attribute (.Name x p0) f p1) b tpos] e env = pure none := by intro _; rfl)
    (h1 : ∀ env, (assignEach [.Subscript (.Attribute (.Name x p0) f p1) b tpos] env).map (·.2) = [assign (.Subscript (.Attribute (.Name x p0) f p1) b tpos) env] := by intro _; rfl) :
    JS S (.Assign [.Subscript (.Attribute (.Name x p0) f p1) b tpos] e pos) Γ (mv.bind fun v => mi.bind fun k => setAt xs k v) fun ys => .nx (Γ.set i (some (insO C ns (ps.set k (lstO (fun x => sh (E x)) ys))))) := fun σ W F sta z hz Ed kk => by
  obtain ⟨y, l, m1, m2, m3⟩ := run2 hz
  obtain ⟨j, j1, j2⟩ := run1 (f := fun j => some (xs.set j y)) m3
  cases j2
  refine ⟨tAsg (tOf S e) (gSub (tFld S.K (tVar i) f) (tOf S b) rSetL), fun X hX => ps_asg (peO hX) (hX.K ▸ pg_sub (pe_fld (pe_var (by rw [hX.N]; exact hN) (visS hv hX) hd hcd) (hab _)) (peO hX) set_list (ha _)) (hs _) (hw _) (h1 _), ?_⟩
  refine h σ W F sta y m1 _ fun u W1 Fv ext fr fp r => ?_
  obtain ⟨rfl, r⟩ := r
  have sta1 := sta.ext ext
  obtain ⟨a, dx, vs, w, K1, a1, a2, a3, a4, a5, a6, _⟩ := ins_part sta1 hi hk
  obtain ⟨p, us, K2, rfl, l2, rfl, l4⟩ := a5
  refine ⟨.ref a, a1, a, C, dx, _, .ref p, rfl, a2, c, na, zlk nd hf a4, ?_⟩
  refine hb σ W1 F sta1 l m2 _ fun t W2 _ ext2 _ _ r2 => ?_
  obtain ⟨_, rfl⟩ := r2
  have sta2 := sta1.ext ext2
  obtain ⟨a', dx', vs', w', K1', b1, b2, b3, b4, b5, b6, b7⟩ := ins_part sta2 hi hk
  have ea : a' = a := by rw [a1] at b1; have := (Option.some.inj (Option.some.inj b1)); cases this; rfl
  subst ea
  have e2 : HO.ins C dx' (ns.zip vs') = HO.ins C dx (ns.zip vs) := by
    rw [ext2.h _ _ a2] at b2
    exact (Option.some.inj b2).symm
  have ew : w' = .ref p := by
    have q1 := zlk nd hf b4
    have q2 := zlk nd hf a4
    have e3 : ns.zip vs' = ns.zip vs := by injection e2
    rw [e3, q2] at q1
    exact (Option.some.inj q1).symm
  subst ew
  obtain ⟨p', us', K2', e1, d2, rfl, d4⟩ := b5
  cases e1
  obtain ⟨rfl, d5⟩ := d4.each
  have hB : W2.B p = none := b6.fr p List.mem_cons_self
  refine ⟨p, us', l, j, rfl, rfl, d2, by rw [d5.len]; exact j1, ?_⟩
  obtain ⟨F', s', stp⟩ := b7 ⟨upd W2.H p (.lst (us'.set j u)), W2.B⟩ (lstO (fun x => sh (E x)) (xs.set j y)) [p] rfl (wr_ok ext2.ok hB) (fun b hb _ => upd_ne fun z => hb (z ▸ List.mem_cons_self)) wr_al (.refl _) ⟨p, us'.set j u, [], rfl, upd_same, rfl, Owns.of_each (d5.set (SP.mono _ r ext2.b) j)⟩
  exact kk σ _ F' Keep.refl ((ext.stp0.trans ext2.stp0).trans stp) s'
end
end CC
set_option maxHeartbeats 4000000
/-! Objects: their methods, what may be thawed. -/
namespace CC
open PySem PySem.Spec L2
open PyProof.Rows hiding St
variable {α β γ δ τ υ ω ρ ε κ : Type}
/-! ### thawing -/
/-- leans on what stands still only by tuples -/
def TlO (o : OP) : Prop := ∀ (H B B' : Hp) (v : V) (F : List Addr), (∀ a vs, B a = some (.tup vs) → B' a = some (.tup vs)) → o.C ⟨H, B⟩ v F → o.C ⟨H, B'⟩ v F
def TlS (p : SP) : Prop := ∀ (B B' : Hp) (v : V), (∀ a vs, B a = some (.tup vs) → B' a = some (.tup vs)) → p.P B v → p.P B' v
/-- leans on nothing that stands still -/
def FlO (o : OP) : Prop := ∀ (H B B' : Hp) (v : V) (F : List Addr), o.C ⟨H, B⟩ v F → o.C ⟨H, B'⟩ v F
def FlS (p : SP) : Prop := ∀ (B B' : Hp) (v : V), p.P B v → p.P B' v
theorem FlS.tl {p : SP} (f : FlS p) : TlS p := fun B B' v _ h => f B B' v h
theorem fl_i (x : Int) : FlS (intS x) := fun _ _ _ h => h
theorem fl_b (x : Bool) : FlS (boolS x) := fun _ _ _ h => h
theorem fl_s (x : Str) : FlS (strS x) := fun _ _ _ h => h
theorem fl_n : FlS nonS := fun _ _ _ h => h
theorem FlS.sh {p : SP} (f : FlS p) : FlO (sh p) := fun H B B' v F h => ⟨h.1, f B B' v h.2⟩
theorem TlS.sh {p : SP} (f : TlS p) : TlO (CC.sh p) := fun H B B' v F k h => ⟨h.1, f B B' v k h.2⟩
theorem fl_owns {E : α → OP} (f : ∀ x, FlO (E x)) {H B B' : Hp} : ∀ {vs : List V} {xs : List α} {F : List Addr}, Owns E ⟨H, B⟩ vs xs F → Owns E ⟨H, B'⟩ vs xs F
  | [], [], _, h => h
  | _ :: _, _ :: _, _, ⟨F1, F2, h1, h2, h3⟩ => ⟨F1, F2, h1, f _ H B B' _ _ h2, fl_owns f h3⟩
  | [], _ :: _, _, h => h.elim
  | _ :: _, [], _, h => h.elim
theorem tl_owns {E : α → OP} (f : ∀ x, TlO (E x)) {H B B' : Hp} (k : ∀ a vs, B a = some (.tup vs) → B' a = some (.tup vs)) : ∀ {vs : List V} {xs : List α} {F : List Addr}, Owns E ⟨H, B⟩ vs xs F → Owns E ⟨H, B'⟩ vs xs F
  | [], [], _, h => h
  | _ :: _, _ :: _, _, ⟨F1, F2, h1, h2, h3⟩ => ⟨F1, F2, h1, f _ H B B' _ _ k h2, tl_owns f k h3⟩
  | [], _ :: _, _, h => h.elim
  | _ :: _, [], _, h => h.elim
theorem fl_lst {E : α → OP} (f : ∀ x, FlO (E x)) (xs : List α) : FlO (lstO E xs) := fun H B B' v F ⟨a, vs, F2, h1, h2, h3, h4⟩ => ⟨a, vs, F2, h1, h2, h3, fl_owns f h4⟩
theorem tl_lst {E : α → OP} (f : ∀ x, TlO (E x)) (xs : List α) : TlO (lstO E xs) := fun H B B' v F k ⟨a, vs, F2, h1, h2, h3, h4⟩ => ⟨a, vs, F2, h1, h2, h3, tl_owns f k h4⟩
theorem fl_het {H B B' : Hp} : ∀ {vs : List V} {ps : List OP} {F : List Addr}, (∀ o ∈ ps, FlO o) → HetO ⟨H, B⟩ vs ps F → HetO ⟨H, B'⟩ vs ps F
  | [], [], _, _, h => h
  | _ :: _, _ :: _, _, f, ⟨F1, F2, h1, h2, h3⟩ => ⟨F1, F2, h1, f _ List.mem_cons_self H B B' _ _ h2, fl_het (fun o ho => f o (List.mem_cons_of_mem _ ho)) h3⟩
  | [], _ :: _, _, _, h => h.elim
  | _ :: _, [], _, _, h => h.elim
theorem fl_nil : ∀ o ∈ ([] : List OP), FlO o := fun _ h => (List.not_mem_nil h).elim
theorem fl_cons {p : OP} {ps : List OP} (h : FlO p) (t : ∀ o ∈ ps, FlO o) : ∀ o ∈ p :: ps, FlO o := fun o ho => by
  rcases List.mem_cons.mp ho with z | z
  · exact z ▸ h
  · exact t o z
theorem fl_ins {C : Addr} {ns : List Str} {ps : List OP} (f : ∀ o ∈ ps, FlO o) : FlO (insO C ns ps) := fun H B B' v F ⟨a, dx, vs, F2, h1, h2, h3, h4, h5, h6⟩ => ⟨a, dx, vs, F2, h1, h2, h3, h4, h5, fl_het f h6⟩
theorem tl_each {E : α → SP} (f : ∀ x, TlS (E x)) {B B' : Hp} (k : ∀ a vs, B a = some (.tup vs) → B' a = some (.tup vs)) : ∀ {vs : List V} {xs : List α}, Each E B vs xs → Each E B' vs xs
  | [], [], h => h
  | _ :: _, _ :: _, h => ⟨f _ B B' _ k h.1, tl_each f k h.2⟩
  | [], _ :: _, h => h.elim
  | _ :: _, [], h => h.elim
theorem tl_tup {E : α → SP} (f : ∀ x, TlS (E x)) (xs : List α) : TlS (tupS E xs) := fun B B' v k ⟨a, vs, h1, h2, h3⟩ => ⟨a, vs, h1, k a vs h2, tl_each f k h3⟩
theorem tl_pr {E : α → SP} {G : β → SP} (f : ∀ x, TlS (E x)) (g : ∀ x, TlS (G x)) (z : α × β) : TlS (prS E G z) := fun B B' v k ⟨a, vs, h1, h2, h3⟩ => ⟨a, vs, h1, k a vs h2, by
  match vs, h3 with
  | [_, _], h3 => exact ⟨f _ B B' _ k h3.1, g _ B B' _ k h3.2.1, trivial⟩
  | [], h3 => exact h3.elim
  | [_], h3 => exact h3.2.elim
  | _ :: _ :: _ :: _, h3 => exact h3.2.2.elim⟩
theorem tl_opt {E : α → SP} (f : ∀ x, TlS (E x)) : ∀ o, TlS (optS E o)
  | none => fl_n.tl
  | some x => f x
/-- no tuple is owned -/
def NoTup (o : OP) : Prop := ∀ W v F, o.C W v F → ∀ a ∈ F, ∀ vs, W.H a ≠ some (.tup vs)
theorem nt_sh {p : SP} : NoTup (sh p) := fun W v F h a ha => by
  rw [h.1] at ha
  exact (List.not_mem_nil ha).elim
theorem nt_owns {E : α → OP} (f : ∀ x, NoTup (E x)) {W : Wd} : ∀ {vs : List V} {xs : List α} {F : List Addr}, Owns E W vs xs F → ∀ a ∈ F, ∀ us, W.H a ≠ some (.tup us)
  | [], [], _, h, a, ha => by
    have h : _ = _ := h
    subst h
    exact (List.not_mem_nil ha).elim
  | _ :: _, _ :: _, _, ⟨F1, F2, h1, h2, h3⟩, a, ha => by
    subst h1
    rcases List.mem_append.mp ha with z | z
    · exact f _ W _ _ h2 a z
    · exact nt_owns f h3 a z
  | [], _ :: _, _, h, _, _ => h.elim
  | _ :: _, [], _, h, _, _ => h.elim
theorem nt_lst {E : α → OP} (f : ∀ x, NoTup (E x)) (xs : List α) : NoTup (lstO E xs) := fun W v F ⟨a, vs, F2, h1, h2, h3, h4⟩ b hb us => by
  subst h3
  rcases List.mem_cons.mp hb with z | z
  · subst z
    rw [h2]
    exact fun z => nomatch z
  · exact nt_owns f h4 b z us
theorem nt_het {W : Wd} : ∀ {vs : List V} {ps : List OP} {F : List Addr}, (∀ o ∈ ps, NoTup o) → HetO W vs ps F → ∀ a ∈ F, ∀ us, W.H a ≠ some (.tup us)
  | [], [], _, _, h, a, ha => by
    have h : _ = _ := h
    subst h
    exact (List.not_mem_nil ha).elim
  | _ :: _, _ :: _, _, f, ⟨F1, F2, h1, h2, h3⟩, a, ha => by
    subst h1
    rcases List.mem_append.mp ha with z | z
    · exact f _ List.mem_cons_self W _ _ h2 a z
    · exact nt_het (fun o ho => f o (List.mem_cons_of_mem _ ho)) h3 a z
  | [], _ :: _, _, _, h, _, _ => h.elim
  | _ :: _, [], _, _, h, _, _ => h.elim
theorem nt_nil : ∀ o ∈ ([] : List OP), NoTup o := fun _ h => (List.not_mem_nil h).elim
theorem nt_cons {p : OP} {ps : List OP} (h : NoTup p) (t : ∀ o ∈ ps, NoTup o) : ∀ o ∈ p :: ps, NoTup o := fun o ho => by
  rcases List.mem_cons.mp ho with z | z
  · exact z ▸ h
  · exact t o z
theorem nt_ins {C : Addr} {ns : List Str} {ps : List OP} (f : ∀ o ∈ ps, NoTup o) : NoTup (insO C ns ps) := fun W v F ⟨a, dx, vs, F2, h1, h2, h3, h4, h5, h6⟩ b hb us => by
  subst h4
  rcases List.mem_cons.mp hb with z | z
  · subst z
    rw [h2]
    exact fun z => nomatch z
  · rcases List.mem_cons.mp z with z | z
    · subst z
      rw [h3]
      exact fun z => nomatch z
    · exact nt_het f h6 b z us
section
variable {S : Stc} {Γ : Ctx} {a b c e : Expr} {es : List Expr} {pos : Pos} {st : Stmt}
/-- what was there and was owned is no longer held still -/
def thB (W : Wd) (B : Hp) : Hp := open Classical in fun a => if W.B a = none ∧ W.H a ≠ none then none else B a
theorem thB_b {W : Wd} {B : Hp} (h : Ex W.B B) : Ex W.B (thB W B) := fun a o e => by
  unfold thB
  rw [if_neg fun z => by rw [z.1] at e; cases e]
  exact h a o e
theorem thB_sub {W : Wd} {B : Hp} : Ex (thB W B) B := fun a o e => by
  unfold thB at e
  split at e
  · cases e
  · exact e
theorem thB_fr {W : Wd} {B : Hp} : ∀ a, W.H a ≠ none → W.B a = none → thB W B a = none := fun a h1 h2 => by
  unfold thB
  rw [if_pos ⟨h2, h1⟩]
theorem sta_frzT {σ : L2.St} {W : Wd} {F : List Addr} {i : Nat} {o : OP} {p : SP} (st : Sta Γ σ W F) (hi : Γ[i]? = some (some o)) (f : FrzN o p) (nt : NoTup o) : ∃ B' F', Ex W.B B' ∧ Sta (Γ.set i (some (sh p))) σ ⟨W.H, B'⟩ F' ∧ ∀ a, W.B a = none → W.H a ≠ none → B' a ≠ none → ∀ vs, B' a ≠ some (.tup vs) := by
  obtain ⟨v, F1, F2, a1, a2, a3, a4⟩ := st.hold.at hi
  have fp := st.fp.perm a3
  obtain ⟨B', b1, b2, b3, b4⟩ := f.run a2 fp.left.nd fp.left.fr st.ok
  obtain ⟨F', c1, c2⟩ := a4 ⟨W.H, B'⟩ (sh p) v [] b1 (fun _ _ => rfl) ⟨rfl, b4⟩
  have fp' : FpOk ⟨W.H, B'⟩ F' := by
    refine FpOk.perm (F := F2) ?_ (by simpa using c2.symm)
    exact ⟨fp.right.nd, fp.right.al, fun a ha => b3 a (fp.right.fr a ha) fun z => fp.disj a z ha⟩
  rw [set_back a1] at c1
  refine ⟨B', F', b1, ⟨b2, fp', by rw [List.length_set]; exact st.len, c1⟩, fun a h1 h2 h3 vs h4 => ?_⟩
  have hm : a ∈ F1 := Classical.byContradiction fun n => h3 (b3 a h1 n)
  exact nt W v F1 a2 a hm vs (b2 a _ h4)
/-- what is owned is read as if it stood still; the value leans on it by nothing but tuples -/
theorem jn_thawR {m : Option α} {R : α → OP} {i : Nat} {o : OP} {p : SP} (hR : ∀ x, TlO (R x)) (hi : Γ[i]? = some (some o)) (f : FrzN o p) (nt : NoTup o) (h : JN S e (Γ.set i (some (sh p))) m R) : JN S e Γ m R := fun σ W F st x hx Q k => by
  obtain ⟨B', F', b, st', hB⟩ := sta_frzT st hi f nt
  refine h σ ⟨W.H, B'⟩ F' st' x hx Q fun v W' Fv ext fr fp r => ?_
  refine k v ⟨W'.H, thB W W'.B⟩ Fv ⟨thB_sub.trans ext.ok, ext.h, thB_b (b.trans ext.b), thB_fr⟩ fr ⟨fp.nd, fp.al, fun a ha => ?_⟩ (hR x W'.H W'.B (thB W W'.B) v Fv (fun a vs e => ?_) r)
  · show thB W W'.B a = none
    cases q : thB W W'.B a with
    | none => rfl
    | some o =>
      have := thB_sub a o q
      rw [fp.fr a ha] at this
      cases this
  · unfold thB
    rw [if_neg fun z => ?_]
    · exact e
    · have n : B' a ≠ none := fun q => by
        have := ext.fr a z.2 q
        rw [this] at e
        cases e
      cases q : B' a with
      | none => exact n q
      | some u =>
        have e2 := ext.b a u q
        rw [e] at e2
        cases e2
        exact hB a z.1 z.2 n vs q
/-! ### a field held still while a statement runs -/
/-- the very value v -/
def alSP (p : SP) (v : V) : SP := ⟨fun B u => u = v ∧ p.P B u, fun h e => ⟨h.1, p.mono h.2 e⟩⟩
theorem jn_al {m : Option α} {p : α → SP} {v : α → V} (h : JN S e Γ m fun x => sh (alSP (p x) (v x))) : JN S e Γ m fun x => sh (p x) := fun σ W F st x hx Q k =>
  h σ W F st x hx Q fun u W' Fv ext fr fp r => k u W' Fv ext fr fp ⟨r.1, r.2.2⟩
theorem fl_holds {H B B' : Hp} : ∀ {Γ : Ctx} {σ : L2.St} {F : List Addr}, (∀ o, some o ∈ Γ → FlO o) → Holds Γ σ ⟨H, B⟩ F → Holds Γ σ ⟨H, B'⟩ F
  | [], _, _, _, h => h
  | none :: Γ, σ, F, f, h => fl_holds (Γ := Γ) (σ := σ.tail) (F := F) (fun o ho => f o (List.mem_cons_of_mem _ ho)) h
  | some o :: Γ, σ, F, f, ⟨v, F1, F2, h1, h2, h3, h4⟩ => ⟨v, F1, F2, h1, h2, f o List.mem_cons_self H B B' v F1 h3, fl_holds (fun o ho => f o (List.mem_cons_of_mem _ ho)) h4⟩
theorem flc_nil : ∀ o, some o ∈ ([] : Ctx) → FlO o := fun _ h => (List.not_mem_nil h).elim
theorem flc_non {Γ : Ctx} (h : ∀ o, some o ∈ Γ → FlO o) : ∀ o, some o ∈ (none :: Γ : Ctx) → FlO o := fun o ho => by
  rcases List.mem_cons.mp ho with z | z
  · cases z
  · exact h o z
theorem flc_cons {q : OP} {Γ : Ctx} (f : FlO q) (h : ∀ o, some o ∈ Γ → FlO o) : ∀ o, some o ∈ (some q :: Γ : Ctx) → FlO o := fun o ho => by
  rcases List.mem_cons.mp ho with z | z
  · cases z
    exact f
  · exact h o z
theorem js_thawF {C : Addr} {ns : List Str} {ps : List OP} {o : OP} {p : SP} {m : Option ω} {Γf : ω → Ctx} {qs : ω → List OP} (i k : Nat) (hi : Γ[i]? = some (some (insO C ns ps))) (hk : ps[k]? = some o) (f : FrzN o p)
    (hf : ∀ y, (Γf y)[i]? = some (some (insO C ns (qs y)))) (hq : ∀ y, (qs y)[k]? = some o) (fl : ∀ y, ∀ q, some q ∈ Γf y → FlO q)
    (h : ∀ u, JS S st (Γ.set i (some (insO C ns (ps.set k (sh (alSP p u)))))) m fun y => .nx ((Γf y).set i (some (insO C ns ((qs y).set k (sh (alSP p u))))))) : JS S st Γ m fun y => .nx (Γf y) := fun σ W F sta y hy Ed kk => by
  obtain ⟨v, F1, F2, a1, a2, a3, a4⟩ := sta.hold.at hi
  obtain ⟨a, dx, vs, G, rfl, b2, b3, rfl, b5, b6⟩ := a2
  obtain ⟨u, K1, K2, k1, k2, k3, k4⟩ := b6.at hk
  have fpA := sta.fp.perm a3
  have nd1 := List.nodup_cons.mp fpA.left.nd
  have nd2 := List.nodup_cons.mp nd1.2
  have ndK := k3.nodup_iff.mp nd2.2
  have inF : ∀ b ∈ K1, b ∈ F := fun b hb => a3.mem_iff.mpr (List.mem_append_left _ (List.mem_cons_of_mem _ (List.mem_cons_of_mem _ (k3.mem_iff.mpr (List.mem_append_left _ hb)))))
  obtain ⟨B', c1, c2, c3, c4⟩ := f.run k2 (List.nodup_append.mp ndK).1 (fun b hb => sta.fp.fr b (inF b hb)) sta.ok
  have hset : ∀ {us : List V}, us[k]? = some u → us.set k u = us := fun {us} e => by
    refine List.ext_getElem? fun n => ?_
    by_cases z : k = n
    · subst z
      rw [e, List.getElem?_set_self (List.getElem?_eq_some_iff.mp e).1]
    · rw [List.getElem?_set_ne z]
  obtain ⟨G', g1, g2⟩ := k4 ⟨W.H, B'⟩ (sh (alSP p u)) u [] c1 (fun _ _ => rfl) ⟨rfl, rfl, c4⟩
  rw [hset k1] at g1
  obtain ⟨F', d1, d2⟩ := a4 ⟨W.H, B'⟩ (insO C ns (ps.set k (sh (alSP p u)))) (.ref a) (a :: dx :: G') c1 (fun _ _ => rfl) ⟨a, dx, vs, G', rfl, b2, b3, rfl, b5, g1⟩
  rw [set_back a1] at d1
  have pG : G'.Perm K2 := by simpa using g2
  have pF : F.Perm (F' ++ K1) := by
    refine a3.trans ?_
    refine List.Perm.trans ?_ (List.Perm.append_right K1 d2.symm)
    have e1 : ((a :: dx :: G) ++ F2).Perm ((a :: dx :: (G' ++ K1)) ++ F2) := List.Perm.append_right F2 (.cons a (.cons dx (k3.trans (List.perm_append_comm.trans (List.Perm.append_right K1 pG.symm)))))
    refine e1.trans ?_
    show (((a :: dx :: G') ++ K1) ++ F2).Perm _
    rw [List.append_assoc, List.append_assoc]
    exact List.Perm.append_left _ List.perm_append_comm
  have fpF := sta.fp.perm pF
  have fr' : ∀ b ∈ F', B' b = none := fun b hb => c3 b (fpF.left.fr b hb) (fpF.disj b hb)
  have sta' : Sta (Γ.set i (some (insO C ns (ps.set k (sh (alSP p u)))))) σ ⟨W.H, B'⟩ F' := ⟨c2, ⟨fpF.left.nd, fpF.left.al, fr'⟩, by rw [List.length_set]; exact sta.len, d1⟩
  have inB : ∀ b ∈ K1, B' b ≠ none ∨ B' b = none := fun b _ => (Classical.em (B' b = none)).symm
  refine h u σ ⟨W.H, B'⟩ F' sta' y hy Ed fun σ' W'' F'' kp stp sa => ?_
  have hi2 : ((Γf y).set i (some (insO C ns ((qs y).set k (sh (alSP p u))))))[i]? = some (some (insO C ns ((qs y).set k (sh (alSP p u))))) := List.getElem?_set_self (List.getElem?_eq_some_iff.mp (hf y)).1
  obtain ⟨v2, P1, P2, e1, e2, e3, e4⟩ := sa.hold.at hi2
  obtain ⟨a', dx', vs', Q, rfl, r2, r3, rfl, r5, r6⟩ := e2
  have hk2 : ((qs y).set k (sh (alSP p u)))[k]? = some (sh (alSP p u)) := List.getElem?_set_self (List.getElem?_eq_some_iff.mp (hq y)).1
  obtain ⟨u', L1, L2, l1, ⟨rfl, rfl, l2⟩, l3, l4⟩ := r6.at hk2
  have keepK : ∀ b ∈ K1, W''.H b = W.H b := fun b hb => by
    cases q : W.H b with
    | none => exact absurd q (fpF.right.al b hb)
    | some x => exact stp.h b x q fun z => fpF.disj b z hb
  have alive : ∀ b, W.H b ≠ none → W''.H b ≠ none := stp.al
  have cK : o.C W'' u' K1 := OP.loc _ k2 (c1.trans stp.b) keepK
  obtain ⟨Q', t1, t2⟩ := l4 W'' o u' K1 (Ex.refl _) (fun _ _ => rfl) cK
  rw [hset l1, List.set_set] at t1
  have hqs : (qs y).set k o = qs y := by
    refine List.ext_getElem? fun n => ?_
    by_cases z : k = n
    · subst z
      rw [hq y, List.getElem?_set_self (List.getElem?_eq_some_iff.mp (hq y)).1]
    · rw [List.getElem?_set_ne z]
  rw [hqs] at t1
  obtain ⟨F3, s1, s2⟩ := e4 W'' (insO C ns (qs y)) (.ref a') (a' :: dx' :: Q') (Ex.refl _) (fun _ _ => rfl) ⟨a', dx', vs', Q', rfl, r2, r3, rfl, r5, t1⟩
  rw [set_back e1, List.set_set] at s1
  have hgf : (Γf y).set i (some (insO C ns (qs y))) = Γf y := by
    refine List.ext_getElem? fun n => ?_
    by_cases z : i = n
    · subst z
      rw [hf y, List.getElem?_set_self (List.getElem?_eq_some_iff.mp (hf y)).1]
    · rw [List.getElem?_set_ne z]
  rw [hgf] at s1
  have pQ : L2.Perm Q := by simpa using l3.symm
  have pF3 : F3.Perm (F'' ++ K1) := by
    refine s2.trans ?_
    refine List.Perm.trans ?_ (List.Perm.append_right K1 e3.symm)
    have e5 : ((a' :: dx' :: Q') ++ P2).Perm ((a' :: dx' :: (Q ++ K1)) ++ P2) := List.Perm.append_right P2 (.cons a' (.cons dx' (t2.trans (List.perm_append_comm.trans (List.Perm.append_right K1 pQ)))))
    refine e5.trans ?_
    show (((a' :: dx' :: Q) ++ K1) ++ P2).Perm _
    rw [List.append_assoc, List.append_assoc]
    exact List.Perm.append_left _ List.perm_append_comm
  have dj : ∀ b ∈ F'', b ∉ K1 := fun b hb hk => by
    rcases stp.fp b hb with z | z
    · exact fpF.disj b z hk
    · exact fpF.right.al b hk z
  have fp3 : FpOk ⟨W''.H, W.B⟩ (F'' ++ K1) := ⟨List.nodup_append.mpr ⟨sa.fp.nd, fpF.right.nd, fun b hb b' hb' e => dj b hb (e ▸ hb')⟩, fun b hb => by
    rcases List.mem_append.mp hb with z | z
    · exact sa.fp.al b z
    · exact alive b (fpF.right.al b z), fun b hb => by
    rcases List.mem_append.mp hb with z | z
    · exact (c1.trans stp.b).back (sa.fp.fr b z)
    · exact fpF.right.fr b z⟩
  refine kk σ' ⟨W''.H, W.B⟩ F3 kp ⟨(c1.trans stp.b).trans stp.ok, Ex.refl _, fun b x hx hn => stp.h b x hx fun z => hn (pF.mem_iff.mpr (List.mem_append_left _ z)), alive, fun b _ hb _ => hb, fun b hb => ?_⟩ ⟨(c1.trans stp.b).trans stp.ok, fp3.perm pF3.symm, ?_, fl_holds (fl y) s1⟩
  · rcases List.mem_append.mp (pF3.mem_iff.mp hb) with z | z
    · rcases stp.fp b z with z | z
      · exact .inl (pF.mem_iff.mpr (List.mem_append_left _ z))
      · exact .inr z
    · exact .inl (inF b z)
  · have := sa.len
    rw [List.length_set] at this
    exact this
end
end CC
set_option maxHeartbeats 4000000
/-! Objects: fields that are lists of lists, methods, makers. -/
namespace CC
open PySem PySem.Spec L2
open PyProof.Rows hiding St
variable {α β γ δ τ υ ω ρ ε κ : Type}
theorem pget_list {X : Cx} : PGet X (rIxL X.K) := by
  intro pins s σ H o i ov iv Q I rx ry h
  obtain ⟨p, xs, i, z, rfl, rfl, hq, he, q⟩ := h
  cases rx
  obtain ⟨t, rfl⟩ := ry
  obtain ⟨its, r, pl, hz⟩ := I.list hq
  obtain ⟨j, h1, h2, h3, h4, h5⟩ := atI_get he
  obtain ⟨w, ew, rw'⟩ := r.get h2
  have hl := r.length
  have hn := line63
  have fin : EP X pins σ Q w s := ⟨z, H, I, rw', q⟩
  by_cases h0 : 0 ≤ i
  · have hj : i.toNat = j := by
      rw [seqIndex_of h0 h5] at h1
      exact Option.some.inj h1
    exact wpAny_getItem_list pl.isList h0 (by omega) (by rw [hj]; simpa using ew) fin
  · have hj : (i + (its.toArray.size : Int)).toNat = j := by
      rw [seqIndex_neg (by omega) h4] at h1
      rw [List.size_toArray, ← hl]
      exact Option.some.inj h1
    exact wpAny_getItem_list_neg pl.isList (by omega) (by rw [List.size_toArray] <;> omega) (by omega) (by rw [hj]; simpa using ew) fin
section
variable {S : Stc} {Γ : Ctx} {a b c e : Expr} {es : List Expr} {pos : Pos} {st : Stmt} {rest : List Stmt}
theorem oGetL (X : Cx) (h : S.In X) : PGet X (rIxL S.K) := by
  rw [← h.K]
  exact pget_list
theorem pfS {X : Cx} {te : TE} {f : Str} (h : S.In X) (he : PE X e te) (hb : attributeBase e f X.env (eval e X.env) = eval e X.env) : PE X (.Attribute e f pos) (tFld S.K te f) := by
  rw [← h.K]
  exact pe_fld he hb
/-- a field of the object at slot i, now and later -/
theorem ins_fld {σ : L2.St} {W : Wd} {F : List Addr} {i k : Nat} {C : Addr} {ns : List Str} {ps : List OP} {o : OP} {f : Str} (sta : Sta Γ σ W F) (hi : Γ[i]? = some (some (insO C ns ps))) (hk : ps[k]? = some o) (hf : ns[k]? = some f) (nd : ns.Nodup) :
    ∃ a dx vs u, σ[i]? = some (some (.ref a)) ∧ W.H a = some (.ins C dx (ns.zip vs)) ∧ (ns.zip vs).lookup f = some u ∧ (∃ K1, o.C W u K1 ∧ FpOk W K1) ∧ ∀ W1, Ext W W1 → ∃ K1, o.C W1 u K1 ∧ FpOk W1 K1 ∧ ∀ (W' : Wd) (o' : OP) (K1' : List Addr), W'.B = W1.B → Ex W'.B W'.H → (∀ b, b ∉ K1 → W1.H b ≠ none → W'.H b = W1.H b) → (∀ b, W1.H b ≠ none → W'.H b ≠ none) → K1'.Perm K1 → o'.C W' u K1' →
      ∃ F', Sta (Γ.set i (some (insO C ns (ps.set k o')))) σ W' F' ∧ Stp W F W' F' := by
  obtain ⟨a, dx, vs, u, K1, a1, a2, a3, a4, a5, a6, _⟩ := ins_part sta hi hk
  refine ⟨a, dx, vs, u, a1, a2, zlk nd hf a4, ⟨K1, a5, a6⟩, fun W1 ext => ?_⟩
  obtain ⟨a', dx', vs', w', K1', b1, b2, b3, b4, b5, b6, b7⟩ := ins_part (sta.ext ext) hi hk
  have ea : a' = a := by rw [a1] at b1; have := (Option.some.inj (Option.some.inj b1)); cases this; rfl
  subst ea
  have e2 : HO.ins C dx' (ns.zip vs') = HO.ins C dx (ns.zip vs) := by
    rw [ext.h _ _ a2] at b2
    exact (Option.some.inj b2).symm
  have ew : w' = u := by
    have q1 := zlk nd hf b4
    have q2 := zlk nd hf a4
    have e3 : ns.zip vs' = ns.zip vs := by injection e2
    rw [e3, q2] at q1
    exact (Option.some.inj q1).symm
  subst ew
  refine ⟨K1', b5, b6, fun W' o' K2 c1 c2 c3 c4 c5 c6 => ?_⟩
  obtain ⟨F', d1, d2⟩ := b7 W' o' K2 c1 c2 c3 c4 c5 c6
  exact ⟨F', d1, ext.stp0.trans d2⟩
def appAt (xss : List (List α)) (l : Int) (y : α) : Option (List (List α)) := (ixN xss.length l).bind fun j => (xss[j]?).bind fun xs => (appM xs y).bind fun ys => some (xss.set j ys)
/-- o.f[i].append(e) -/
theorem js_fldApp {x f : Str} {p0 p1 tpos apos cpos spos : Pos} {C : Addr} {ns : List Str} {ps : List OP} {E : α → SP} {xss : List (List α)} {mv : Option α} {mi : Option Int} (i k : Nat) (c : Cls S.K C) (na : NoAttr S.K C f) (hb : JN S b Γ mi fun z => sh (intS z)) (h : JN S e Γ mv fun x => sh (E x)) (hi : Γ[i]? = some (some (insO C ns ps)) := by rfl) (hk : ps[k]? = some (lstO (lstO fun x => sh (E x)) xss) := by rfl) (hf : ns[k]? = some f := by rfl) (nd : ns.Nodup := by decide) (hN : S.N[i]? = some x := by rfl) (hv : Vis S.sc x := by first | exact Or.inl rfl | exact Or.inr (Or.inl rfl) | exact Or.inr (Or.inr rfl))
    (hd : (x == ("__debug__" : Str)) = false := by decide) (hcd : (x == ("__classdict__" : Str)) = false := by decide) (hab : ∀ env, attributeBase (.Name x p0) f env (eval (.Name x p0) env) = eval (.Name x p0) env := by intro _; rfl) (hpl : PlainIx b := by exact fun _ _ => rfl)
    (hbase : ∀ env, attributeBase (.Subscript (.Attribute (.Name x p0) f p1) b tpos) "append" env (eval (.Subscript (.Attribute (.Name x p0) f p1) b tpos) env) = eval (.Subscript (.Attribute (.Name x p0) f p1) b tpos) env := by intro _; rfl)
    (hfew : ∀ env, ((backTo cpos (starEach [e] env)).all (fun x => !x.1) && (backToKw cpos (keywordEach [] env)).all (fun x => x.1.isSome) && decide ([e].length + ([] : List Keyword).length + (if ([] : List Keyword).isEmpty then 0 else 1) < 30)) = true := by intro _; rfl)
    (hline : (apos.endLine == cpos.line) = true := by rfl) (hs : ∀ env, starEach [e] env = (false, eval e env) :: starEach [] env := by intro _; rfl) (hsw : ∀ env, swapsWith (.Call (.Attribute (.Subscript (.Attribute (.Name x p0) f p1) b tpos) "append" apos) [e] [] cpos) none spos.line env = pure false := by intro _; rfl) :
    JS S (.Expr (.Call (.Attribute (.Subscript (.Attribute (.Name x p0) f p1) b tpos) "append" apos) [e] [] cpos) spos) Γ (mi.bind fun l => mv.bind fun y => appAt xss l y) fun ys => .nx (Γ.set i (some (insO C ns (ps.set k (lstO (lstO fun x => sh (E x)) ys))))) := fun σ W F sta z hz Ed kk => by
  obtain ⟨l, y, m1, m2, m3⟩ := run2 hz
  unfold appAt at m3
  obtain ⟨j, j1, m3⟩ := run1 (f := fun j => (xss[j]?).bind fun xs => (appM xs y).bind fun ys => some (xss.set j ys)) m3
  obtain ⟨xs, j2, m3⟩ := run1 (f := fun xs => (appM xs y).bind fun ys => some (xss.set j ys)) m3
  obtain ⟨ys, j3, j4⟩ := run1 (f := fun ys => some (xss.set j ys)) m3
  cases j4
  unfold appM at j3
  split at j3
  · rename_i hlen
    cases j3
    refine ⟨tDrop (tBM S.K "list" rAppend (tOp (rIxL S.K) (tFld S.K (tVar i) f) (tOf S b)) (tCons (tOf S e) tNil)), fun X hX => ?_, ?_⟩
    · have h1 := pe_bm (X := X) (apos := apos) (cpos := cpos) PySem.F.plainAttrs_list PySem.F.slot_list_append PySem.F.type_list_append mt_append (pe_ix (pos := tpos) (oIxL X hX) (pfS (pos := p1) hX (pe_var (pos := p0) (by rw [hX.N]; exact hN) (visS hv hX) hd hcd) (hab _)) (peO (e := b) hX) hpl) (pa_cons (peO (e := e) hX) pa_nil (hs _)) (hbase _) (hfew _) hline (hs _) rfl
      rw [hX.K] at h1
      exact ps_expr h1 (hsw _)
    obtain ⟨a, dx, vs, u, a1, a2, a3, ⟨K0, a4, a5⟩, a6⟩ := ins_fld sta hi hk hf nd
    obtain ⟨p, us, K2, rfl, l2, rfl, l4⟩ := a4
    obtain ⟨w0, G1, G2, w1, ⟨q, ts, K3, rfl, w2, rfl, w3⟩, w4, _⟩ := l4.at j2
    refine ⟨.ref a, a1, a, C, dx, _, .ref p, rfl, a2, c, na, a3, ?_⟩
    refine hb σ W F sta l m1 _ fun t W1 _ ext _ _ r1 => ?_
    obtain ⟨_, rfl⟩ := r1
    refine ⟨p, us, l, .ref q, rfl, rfl, .inl (.inl (ext.h _ _ l2)), by unfold atI; rw [l4.len, j1]; exact w1, ?_⟩
    refine ⟨.inl ⟨rfl, ts, .inl (.inl (ext.h _ _ w2))⟩, h σ W1 F (sta.ext ext) y m2 _ fun v W2 Fv ext2 fr fp r => ?_⟩
    obtain ⟨rfl, r⟩ := r
    have e02 := ext.trans ext2
    obtain ⟨K1, c1, c2, c3⟩ := a6 W2 e02
    obtain ⟨p', us', K2', e1, d2, rfl, d4⟩ := c1
    cases e1
    have eu : us' = us := by
      rw [e02.h _ _ l2] at d2
      cases d2
      rfl
    subst eu
    obtain ⟨w0', G1', G2', v1, v2, v3, v4⟩ := d4.at j2
    rw [w1] at v1
    cases v1
    obtain ⟨q', ts', K3', e3, v5, rfl, v6⟩ := v2
    cases e3
    have et : ts' = ts := by
      rw [e02.h _ _ w2] at v5
      cases v5
      rfl
    subst et
    obtain ⟨rfl, v7⟩ := v6.each
    refine ⟨q, ts', v, rfl, rfl, v5, lim_lt (by rw [v7.len]; exact hlen), ?_⟩
    have nd2 := List.nodup_cons.mp c2.nd
    have ndK := v3.nodup_iff.mp nd2.2
    have hB : W2.B q = none := c2.fr q (List.mem_cons_of_mem _ (v3.mem_iff.mpr (List.mem_append_left _ List.mem_cons_self)))
    have hpq : p ≠ q := fun z => nd2.1 (z ▸ v3.mem_iff.mpr (List.mem_append_left _ List.mem_cons_self))
    have hG2 : ∀ b ∈ G2', b ≠ q := fun b hb z => (List.nodup_cons.mp ndK).1 (z ▸ hb)
    have hset : us'.set j (.ref q) = us' := by
      refine List.ext_getElem? fun n => ?_
      by_cases z : j = n
      · subst z
        rw [w1, List.getElem?_set_self (List.getElem?_eq_some_iff.mp w1).1]
      · rw [List.getElem?_set_ne z]
    obtain ⟨G', g1, g2⟩ := v4 ⟨upd W2.H q (.lst (ts' ++ [v])), W2.B⟩ (xs ++ [y]) (.ref q) [q] (fun _ _ h => h) (fun b hb => upd_ne (hG2 b hb)) ⟨q, ts' ++ [v], [], rfl, upd_same, rfl, Owns.of_each (v7.app ⟨r, trivial⟩)⟩
    rw [hset] at g1
    obtain ⟨F', s', stp⟩ := c3 ⟨upd W2.H q (.lst (ts' ++ [v])), W2.B⟩ (lstO (lstO fun x => sh (E x)) (xss.set j (xs ++ [y]))) (p :: G') rfl (wr_ok e02.ok hB) (fun b hb _ => upd_ne fun z => hb (z ▸ List.mem_cons_of_mem _ (v3.mem_iff.mpr (List.mem_append_left _ List.mem_cons_self)))) wr_al (.cons p (g2.trans v3.symm)) ⟨p, us', G', rfl, (upd_ne hpq).trans d2, rfl, g1⟩
    exact kk σ _ F' Keep.refl stp s'
  · cases j3
def augAt (g : Int → Int → Int) (xs : List Int) (l y : Int) : Option (List Int) := (ixN xs.length l).bind fun j => (xs[j]?).bind fun x => some (xs.set j (g x y))
/-- o.f[i] op= e, ints -/
theorem js_fldAug {x f : Str} {p0 p1 tpos : Pos} {C : Addr} {ns : List Str} {ps : List OP} {op : Operator} {g : Int → Int → Int} {xs : List Int} {mv : Option Int} {mi : Option Int} (i k : Nat) (hop : ∀ X, PIp X op (ipI g)) (c : Cls S.K C) (na : NoAttr S.K C f) (hb : JN S b Γ mi fun z => sh (intS z)) (h : JN S e Γ mv fun x => sh (intS x)) (hi : Γ[i]? = some (some (insO C ns ps)) := by rfl) (hk : ps[k]? = some (lstO (fun x => sh (intS x)) xs) := by rfl) (hf : ns[k]? = some f := by rfl) (nd : ns.Nodup := by decide) (hN : S.N[i]? = some x := by rfl) (hv : Vis S.sc x := by first | exact Or.inl rfl | exact Or.inr (Or.inl rfl) | exact Or.inr (Or.inr rfl))
    (hd : (x == ("__debug__" : Str)) = false := by decide) (hcd : (x == ("__classdict__" : Str)) = false := by decide) (hab : ∀ env, attributeBase (.Name x p0) f env (eval (.Name x p0) env) = eval (.Name x p0) env := by intro _; rfl)
    (ha : ∀ ov iv new, augStore b ov iv new = (do holding [new, ov, iv] (setItem ov iv new); release [new, ov, iv] []; pure .next) := by intro _ _ _; rfl) :
    JS S (.AugAssign (.Subscript (.Attribute (.Name x p0) f p1) b tpos) op e pos) Γ (mi.bind fun l => mv.bind fun y => augAt g xs l y) fun ys => .nx (Γ.set i (some (insO C ns (ps.set k (lstO (fun x => sh (intS x)) ys))))) := fun σ W F sta z hz Ed kk => by
  obtain ⟨l, y, m1, m2, m3⟩ := run2 hz
  unfold augAt at m3
  obtain ⟨j, j1, m3⟩ := run1 (f := fun j => (xs[j]?).bind fun x => some (xs.set j (g x y))) m3
  obtain ⟨x0, j2, m3⟩ := run1 (f := fun x => some (xs.set j (g x y))) m3
  cases m3
  refine ⟨tAugS (tFld S.K (tVar i) f) (tOf S b) (tOf S e) (rIxL S.K) (ipI g) rSetL, fun X hX => ps_augS (pfS hX (pe_var (by rw [hX.N]; exact hN) (visS hv hX) hd hcd) (hab _)) (peO hX) (oGetL X hX) (peO hX) (hop X) set_list ha, ?_⟩
  obtain ⟨a, dx, vs, u, a1, a2, a3, ⟨K0, a4, a5⟩, a6⟩ := ins_fld sta hi hk hf nd
  obtain ⟨p, us, K2, rfl, l2, rfl, l4⟩ := a4
  obtain ⟨rfl, l5⟩ := l4.each
  refine ⟨.ref a, a1, a, C, dx, _, .ref p, rfl, a2, c, na, a3, ?_⟩
  refine hb σ W F sta l m1 _ fun t W1 _ ext _ _ r1 => ?_
  obtain ⟨_, rfl⟩ := r1
  obtain ⟨w, w1, w2⟩ := l5.get j2
  have w2 : w = .int x0 := w2
  subst w2
  refine ⟨p, us, l, .int x0, rfl, rfl, .inl (.inl (ext.h _ _ l2)), by unfold atI; rw [l5.len, j1]; exact w1, ?_⟩
  refine h σ W1 F (sta.ext ext) y m2 _ fun v W2 _ ext2 _ _ r2 => ?_
  obtain ⟨_, rfl⟩ := r2
  refine ⟨x0, y, rfl, rfl, ?_⟩
  have e02 := ext.trans ext2
  obtain ⟨K1, c1, c2, c3⟩ := a6 W2 e02
  obtain ⟨p', us', K2', e1, d2, rfl, d4⟩ := c1
  cases e1
  have eu : us' = us := by
    rw [e02.h _ _ l2] at d2
    cases d2
    rfl
  subst eu
  obtain ⟨rfl, d5⟩ := d4.each
  have hB : W2.B p = none := c2.fr p List.mem_cons_self
  refine ⟨p, us', l, j, rfl, rfl, d2, by rw [d5.len]; exact j1, ?_⟩
  obtain ⟨F', s', stp⟩ := c3 ⟨upd W2.H p (.lst (us'.set j (.int (g x0 y)))), W2.B⟩ (lstO (fun x => sh (intS x)) (xs.set j (g x0 y))) [p] rfl (wr_ok e02.ok hB) (fun b hb _ => upd_ne fun z => hb (z ▸ List.mem_cons_self)) wr_al (.refl _) ⟨p, us'.set j (.int (g x0 y)), [], rfl, upd_same, rfl, Owns.of_each (d5.set (E := intS) rfl j)⟩
  exact kk σ _ F' Keep.refl stp s'
/-- a, b = x, y -/
theorem js_par {x y : Str} {a b : Expr} {px py pt : Pos} {kt k2 pt2} {E : α → SP} {G : β → SP} {ma : Option α} {mb : Option β} (i j : Nat) (nd : S.N.Nodup) (ha : JN S a Γ ma fun x => sh (E x)) (hb : JN S b Γ mb fun x => sh (G x)) (hlt : i < Γ.length) (hjt : j < Γ.length) (hij : i ≠ j := by decide) (hi : S.N[i]? = some x := by rfl) (hj : S.N[j]? = some y := by rfl)
    (hx : S.sc.names.lookup x = some .local := by rfl) (hy : S.sc.names.lookup y = some .local := by rfl) (hp1 : (S.prot.contains i) = false := by rfl) (hp2 : (S.prot.contains j) = false := by rfl)
    (hw : ∀ env : Env, env.scope = S.sc → swappedStores [.Tuple [.Name x px, .Name y py] kt pt] (.Tuple [a, b] k2 pt2) env = pure (some [x, y]) := by intro env h; cases env; cases h; rfl)
    (hs : ∀ env, swapsWithSole [.Tuple [.Name x px, .Name y py] kt pt] (.Tuple [a, b] k2 pt2) pos.line env = pure false := by intro _; rfl)
    (he : ∀ env, starEach [a, b] env = (false, eval a env) :: starEach [b] env := by intro _; rfl) (he2 : ∀ env, starEach [b] env = (false, eval b env) :: starEach [] env := by intro _; rfl) (hc : S.calm = true := by rfl) :
    JS S (.Assign [.Tuple [.Name x px, .Name y py] kt pt] (.Tuple [a, b] k2 pt2) pos) Γ (ma.bind fun u => mb.bind fun v => some (u, v)) fun z => .nx ((Γ.set i (some (sh (E z.1)))).set j (some (sh (G z.2)))) := fun σ W F sta z hz Ed kk => by
  obtain ⟨u, v, m1, m2, m3⟩ := run2 hz
  cases m3
  refine ⟨tPar i j (tCons (tOf S a) (tCons (tOf S b) tNil)), fun X hX => ps_par (by rw [hX.calm]; exact hc) (by rw [hX.N]; exact nd) (by rw [hX.N]; exact hi) (by rw [hX.N]; exact hj) hij (by rw [hX.sc]; exact hx) (by rw [hX.sc]; exact hy) (pa_cons (peO hX) (pa_cons (peO hX) pa_nil (he2 _)) (he _)) (hw _ hX.sc) (hs _), ?_⟩
  refine ha σ W F sta u m1 _ fun s W1 _ ext _ _ r1 => ?_
  obtain ⟨rfl, r1⟩ := r1
  refine hb σ W1 F (sta.ext ext) v m2 _ fun t W2 _ ext2 _ _ r2 => ?_
  obtain ⟨rfl, r2⟩ := r2
  refine ⟨s, t, rfl, ?_⟩
  have sta2 := (sta.ext ext).ext ext2
  obtain ⟨F3, s4, sub⟩ := sta2.put (o := sh (E u)) (v := s) (F1 := []) hlt ⟨rfl, SP.mono _ r1 ext2.b⟩ (by rw [List.append_nil]; exact sta2.fp)
  obtain ⟨F4, s5, sub2⟩ := s4.put (o := sh (G v)) (v := t) (F1 := []) (i := j) (by rw [List.length_set]; exact hjt) ⟨rfl, r2⟩ (by rw [List.append_nil]; exact s4.fp)
  refine kk _ W2 F4 ((Keep.set (ncon hp1)).trans (Keep.set (ncon hp2))) ((ext.trans ext2).stp0.perm fun b hb => ?_) s5
  have := sub b (by have := sub2 b hb; simpa using this)
  simpa using this
end
section
variable {S : Stc} {Γ : Ctx} {a b c e o : Expr} {es : List Expr} {pos apos : Pos} {m : Str}
/-- o.m(e, ..) of an object that stands still -/
theorem jn_meth {C f : Addr} {fd : FuncData} {ps : List Str} {k : Nat} {ns : List Str} {qs : α → List SP} {G : β → List SP} {fM : α × β → Option ρ} {R : ρ → OP} {mo : Option α} {ma : Option β} {pl : Env → Sem Bool} (c : Cls S.K C) (hm : Meth S.K C m f) (Fn : FnOk S.P S.w S.K S.mg S.base CX0 k f fd ps (spP (fun z : α × β => insS C ns (qs z.1) :: G z.2) fM R)) (hb : Binds S.K fd ps []) (hk : k ≤ S.k)
    (ho : JN S o Γ mo fun x => sh (insS C ns (qs x))) (ha : JA S (e :: es) Γ ma G) (hn : m ∉ ns := by decide) (he : ∀ env, starEach (e :: es) env = (false, eval e env) :: starEach es env := by intro _; rfl) (hpl : ∀ env, (backTo pos (starEach es env)).any (·.1) = false := by intro _; rfl)
    (ht : ∀ env, eval (.Call (.Attribute o m apos) (e :: es) [] pos) env = (do
      let ov ← eval o env
      standAt apos.atName
      let (f, first) ← holding [ov] (getMethod ov m (pl env))
      callWith pos f first (backTo pos (starEach (e :: es) env)) (backToKw pos (keywordEach [] env))) := by intro _; rfl) (hcm : S.calm = true := by rfl) :
    JN S (.Call (.Attribute o m apos) (e :: es) [] pos) Γ (mo.bind fun x => ma.bind fun y => fM (x, y)) R := fun σ W F st z hz Q kk => by
  obtain ⟨x, y, h1, h2, h3⟩ := run2 hz
  refine ⟨tMeth C m (spP (fun z : α × β => insS C ns (qs z.1) :: G z.2) fM R) [] E0 (tOf S o) (taOf S (e :: es)), fun X hX => pe_meth (peO hX) (hX.K ▸ c) (hX.K ▸ hm) (fnokS Fn hX) ((hX.room hcm).mono hk) (bindsS hX hb) .nil passE0 (paO hX) (he _) (hpl _) (ht _), ?_⟩
  refine ho σ W F st x h1 _ fun v W1 _ ext _ _ r1 => ?_
  obtain ⟨_, a, dx, vs, rfl, q2, q3, q4⟩ := r1
  refine ⟨a, dx, _, rfl, ext.ok a _ q2, zno hn, ha σ W1 F (st.ext ext) y h2 _ fun us W2 ext2 hh => ?_⟩
  show spP _ fM R ((.ref a :: us) ++ []) W2.H Q E0
  rw [List.append_nil]
  exact ⟨(x, y), W2, z, rfl, ext2.ok, ⟨⟨a, dx, vs, rfl, ext2.b a _ q2, q3, q4.mono ext2.b⟩, hh⟩, h3, (kk.ext ext).ext ext2⟩
theorem jn_meth0 {C f : Addr} {fd : FuncData} {ps : List Str} {k : Nat} {ns : List Str} {qs : α → List SP} {fM : α × Unit → Option ρ} {R : ρ → OP} {mo : Option α} {pl : Env → Sem Bool} (c : Cls S.K C) (hm : Meth S.K C m f) (Fn : FnOk S.P S.w S.K S.mg S.base CX0 k f fd ps (spP (fun z : α × Unit => [insS C ns (qs z.1)]) fM R)) (hb : Binds S.K fd ps []) (hk : k ≤ S.k)
    (ho : JN S o Γ mo fun x => sh (insS C ns (qs x))) (hn : m ∉ ns := by decide)
    (ht : ∀ env, eval (.Call (.Attribute o m apos) [] [] pos) env = (do
      let ov ← eval o env
      standAt apos.atName
      let (f, first) ← holding [ov] (getMethod ov m (pl env))
      callWith pos f first (backTo pos (starEach [] env)) (backToKw pos (keywordEach [] env))) := by intro _; rfl) (hcm : S.calm = true := by rfl) :
    JN S (.Call (.Attribute o m apos) [] [] pos) Γ (mo.bind fun x => fM (x, ())) R := fun σ W F st z hz Q kk => by
  obtain ⟨x, h1, h3⟩ := run1 (f := fun x => fM (x, ())) hz
  refine ⟨tMeth C m (spP (fun z : α × Unit => [insS C ns (qs z.1)]) fM R) [] E0 (tOf S o) tNil, fun X hX => pe_meth0 (peO hX) (hX.K ▸ c) (hX.K ▸ hm) (fnokS Fn hX) ((hX.room hcm).mono hk) (bindsS hX hb) .nil passE0 (ht _), ?_⟩
  refine ho σ W F st x h1 _ fun v W1 _ ext _ _ r1 => ?_
  obtain ⟨_, a, dx, vs, rfl, q2, q3, q4⟩ := r1
  exact ⟨a, dx, _, rfl, ext.ok a _ q2, zno hn, (x, ()), W1, z, rfl, ext.ok, ⟨⟨a, dx, vs, rfl, q2, q3, q4⟩, trivial⟩, h3, kk.ext ext⟩
/-- C(e, ..) -/
theorem jn_make {x : Str} {p : Pos} {C f : Addr} {fd : FuncData} {ps : List Str} {k : Nat} {G : α → List SP} {O : Option τ → OP} {fN : α → Option τ → Option (Option τ)} {ma : Option α} (M : Mk S.K C f) (Fn : FnOk S.P S.w S.K S.mg S.base CX0 k f fd ps (spS O G (fun a s => (fN a s).bind fun s' => some ((), s')) fun _ => sh nonS)) (hO : O none = insO C [] []) (hm : S.mg x = some (.ref C)) (hb : Binds S.K fd ps [])
    (hk : k + 1 ≤ S.k) (ha : JA S (e :: es) Γ ma G) (hg : GlS S x := by rfl) (hdb : (x == ("__debug__" : Str)) = false := by decide) (he : ∀ env, starEach (e :: es) env = (false, eval e env) :: starEach es env := by intro _; rfl) (hpl : ∀ env, (backTo pos (starEach es env)).any (·.1) = false := by intro _; rfl) (hcm : S.calm = true := by rfl) :
    JN S (.Call (.Name x p) (e :: es) [] pos) Γ (ma.bind fun y => (fN y none).bind fun s => s) fun s => O (some s) := fun σ W F st z hz Q kk => by
  obtain ⟨y, h1, h2⟩ := run1 hz
  obtain ⟨s, h3, h4⟩ := run1 (f := fun s : Option τ => s) h2
  cases h4
  refine ⟨tMake C (spS O G (fun a s => (fN a s).bind fun s' => some ((), s')) fun _ => sh nonS) [] E0 (taOf S (e :: es)), fun X hX => pe_make (hX.K ▸ M) (fnokS Fn hX) ((hX.room hcm).mono hk) (hg.gl hX) (mgS hm hX) (bindsS hX hb) .nil passE0 (paO hX) hdb (he _) (hpl _), ?_⟩
  refine ha σ W F st y h1 _ fun vs W1 ext hh a dx ha1 hd1 hne => ?_
  show spS O G _ _ (.ref a :: (vs ++ [])) _ _ E0
  rw [List.append_nil]
  have hH : ∀ b o, W1.H b = some o → upd (upd W1.H dx (.own a)) a (.ins C dx []) b = some o := fun b o e => by
    rw [upd_ne (ne_of_none e ha1), upd_ne (ne_of_none e hd1)]
    exact e
  have hB : ∀ b, W1.H b = none → W1.B b = none := fun b e => ext.ok.back e
  refine ⟨y, none, ⟨upd (upd W1.H dx (.own a)) a (.ins C dx []), W1.B⟩, [a, dx], .ref a, vs, ((), some z), rfl, rfl, ext.ok.trans hH, ⟨?_, ?_, ?_⟩, ?_, hh, by show (fN y none).bind _ = _; rw [h3]; rfl, fun v W2 F' Fv stp fp c r => ?_⟩
  · exact List.nodup_cons.mpr ⟨fun q => by rcases List.mem_cons.mp q with q | q; exact hne q.symm; exact (List.not_mem_nil q).elim, List.nodup_cons.mpr ⟨List.not_mem_nil, List.nodup_nil⟩⟩
  · intro b hb
    rcases List.mem_cons.mp hb with q | q
    · subst q
      show upd _ _ _ _ ≠ none
      rw [upd_same]
      exact fun z => nomatch z
    · rcases List.mem_cons.mp q with q | q
      · subst q
        show upd _ _ _ _ ≠ none
        rw [upd_ne hne, upd_same]
        exact fun z => nomatch z
      · exact (List.not_mem_nil q).elim
  · intro b hb
    rcases List.mem_cons.mp hb with q | q
    · exact q ▸ hB a ha1
    · rcases List.mem_cons.mp q with q | q
      · exact q ▸ hB dx hd1
      · exact (List.not_mem_nil q).elim
  · rw [hO]
    exact ⟨a, dx, [], [], rfl, upd_same, (upd_ne hne).trans upd_same, rfl, rfl, rfl⟩
  · obtain ⟨rfl, rv⟩ := r
    rw [List.append_nil] at fp stp
    refine ⟨rv, kk.ext ext (.ref a) W2 F' ⟨stp.ok, fun b o e => stp.h b o (hH b o e) fun q => ?_, stp.b, fun b h1 h2 => stp.fr b ?_ h2 fun q => ?_⟩ (fun b hb => ?_) fp c⟩
    · rcases List.mem_cons.mp q with q | q
      · rw [q, ha1] at e; cases e
      · rcases List.mem_cons.mp q with q | q
        · rw [q, hd1] at e; cases e
        · exact (List.not_mem_nil q).elim
    · cases q : W1.H b with
      | none => exact absurd q h1
      | some o =>
        show upd (upd W1.H dx (.own a)) a (.ins C dx []) b ≠ none
        rw [hH b o q]
        exact fun z => nomatch z
    · rcases List.mem_cons.mp q with q | q
      · exact h1 (q ▸ ha1)
      · rcases List.mem_cons.mp q with q | q
        · exact h1 (q ▸ hd1)
        · exact (List.not_mem_nil q).elim
    · rcases stp.fp b hb with q | q
      · rcases List.mem_cons.mp q with q | q
        · exact q ▸ ha1
        · rcases List.mem_cons.mp q with q | q
          · exact q ▸ hd1
          · exact (List.not_mem_nil q).elim
      · cases q2 : W1.H b with
        | none => rfl
        | some o =>
          have := hH b o q2
          have q : upd (upd W1.H dx (.own a)) a (.ins C dx []) b = none := q
          rw [this] at q
          cases q
end
section
variable {S : Stc} {Γ : τ → Ctx} {s : τ} {a b c e : Expr} {es : List Expr} {pos apos : Pos} {m : Str}
/-- o.m(e, ..) that changes the object at slot i -/
theorem je_methS {y : Str} {p1 : Pos} {C f : Addr} {fd : FuncData} {ps : List Str} {k : Nat} {ns : List Str} {O : υ → OP} {os : υ → List OP} {G : α → List SP} {fM : α → υ → Option (ρ × υ)} {R : ρ → OP} {ma : Option (α × τ)} {pl : Env → Sem Bool} (i : Nat) (get : τ → υ) (put : τ → υ → τ) (c : Cls S.K C) (hm : Meth S.K C m f) (Fn : FnOk S.P S.w S.K S.mg S.base CX0 k f fd ps (spS O G fM R)) (hb : Binds S.K fd ps [])
    (hk : k ≤ S.k) (ha : JEA S (e :: es) Γ s ma G) (hO : ∀ u, O u = insO C ns (os u) := by intro _; rfl) (hn : m ∉ ns := by decide) (hi : ∀ s, (Γ s)[i]? = some (some (O (get s))) := by intro _; rfl) (hp : ∀ s u, (Γ s).set i (some (O u)) = Γ (put s u) := by intro _ _; rfl) (hN : S.N[i]? = some y := by rfl) (hv : Vis S.sc y := by first | exact Or.inl rfl | exact Or.inr (Or.inl rfl) | exact Or.inr (Or.inr rfl))
    (hd : (y == ("__debug__" : Str)) = false := by decide) (hcd : (y == ("__classdict__" : Str)) = false := by decide)
    (he : ∀ env, starEach (e :: es) env = (false, eval e env) :: starEach es env := by intro _; rfl) (hpl : ∀ env, (backTo pos (starEach es env)).any (·.1) = false := by intro _; rfl)
    (ht : ∀ env, eval (.Call (.Attribute (.Name y p1) m apos) (e :: es) [] pos) env = (do
      let ov ← eval (.Name y p1) env
      standAt apos.atName
      let (f, first) ← holding [ov] (getMethod ov m (pl env))
      callWith pos f first (backTo pos (starEach (e :: es) env)) (backToKw pos (keywordEach [] env))) := by intro _; rfl) (hcm : S.calm = true := by rfl) :
    JE S (.Call (.Attribute (.Name y p1) m apos) (e :: es) [] pos) Γ s (ma.bind fun q => (fM q.1 (get q.2)).bind fun r => some (r.1, put q.2 r.2)) R := fun σ W F sta z hz Q kk => by
  obtain ⟨q, h1, h2⟩ := run1 hz
  obtain ⟨r, h3, h4⟩ := run1 (f := fun r : ρ × υ => some (r.1, put q.2 r.2)) h2
  cases h4
  refine ⟨tMeth C m (spS O G fM R) [] E0 (tVar i) (taOf S (e :: es)), fun X hX => pe_meth (pe_var (by rw [hX.N]; exact hN) (visS hv hX) hd hcd) (hX.K ▸ c) (hX.K ▸ hm) (fnokS Fn hX) ((hX.room hcm).mono hk) (bindsS hX hb) .nil passE0 (paO hX) (he _) (hpl _) (ht _), ?_⟩
  obtain ⟨v0, F1, F2, a1, a2, _, _⟩ := sta.hold.at (hi s)
  rw [hO] at a2
  obtain ⟨ad, dx, vs0, G0, rfl, a5, _, _, _, _⟩ := a2
  refine ⟨.ref ad, a1, ad, dx, _, rfl, a5, zno hn, ha σ W F sta q h1 _ fun vs W1 Fa stp1 sa1 hh => ?_⟩
  show spS O G fM R ((.ref ad :: vs) ++ []) W1.H Q E0
  rw [List.append_nil]
  obtain ⟨v1, F1, F2, b1, b2, b3, b4⟩ := sa1.hold.at (hi q.2)
  have ev : v1 = .ref ad := by rw [a1] at b1; exact (Option.some.inj (Option.some.inj b1)).symm
  subst ev
  have fpP := sa1.fp.perm b3
  refine ⟨q.1, get q.2, W1, F1, .ref ad, vs, r, rfl, rfl, sa1.ok, fpP.left, b2, hh, h3, fun v W2 F1' Fv stp2 fp2 o2 r2 => ?_⟩
  have ne2 : ∀ a ∈ F2, a ∉ F1 := fun a ha h => fpP.disj a h ha
  have hH : ∀ a ∈ F2, W2.H a = W1.H a := fun a ha => by
    cases qa : W1.H a with
    | none => exact absurd qa (fpP.right.al a ha)
    | some o => exact stp2.h a o qa (ne2 a ha)
  obtain ⟨F', c1, c2⟩ := b4 W2 (O r.2) (.ref ad) F1' stp2.b hH o2
  rw [set_back b1, hp] at c1
  have fpN : FpOk W2 ((F1' ++ F2) ++ Fv) := by
    have fA : FpOk W2 ((F1' ++ Fv) ++ F2) := fp2.app ⟨fpP.right.nd, fun a ha => stp2.al a (fpP.right.al a ha), fun a ha => stp2.fr a (fpP.right.al a ha) (fpP.right.fr a ha) (ne2 a ha)⟩ fun a ha h => by
      rcases stp2.fp a ha with z | z
      · exact ne2 a h z
      · exact fpP.right.al a h z
    refine fA.perm ?_
    rw [List.append_assoc, List.append_assoc]
    exact List.Perm.append_left _ List.perm_append_comm
  have fpF : FpOk W2 (F' ++ Fv) := fpN.perm (List.Perm.append_right Fv c2.symm)
  refine kk v W2 F' Fv (stp1.trans ?_) ⟨stp2.ok, fpF.left, by rw [← hp, List.length_set]; exact sa1.len, c1⟩ fpF r2
  refine ⟨stp2.ok, stp2.b, fun a o h n => stp2.h a o h fun z => n (b3.mem_iff.mpr (List.mem_append_left _ z)), stp2.al, fun a x1 x2 n => stp2.fr a x1 x2 fun z => n (b3.mem_iff.mpr (List.mem_append_left _ z)), fun a ha => ?_⟩
  rcases List.mem_append.mp ha with z | z
  · rcases List.mem_append.mp (c2.mem_iff.mp z) with z | z
    · exact (stp2.fp a (List.mem_append_left _ z)).imp (fun w => b3.mem_iff.mpr (List.mem_append_left _ w)) id
    · exact .inl (b3.mem_iff.mpr (List.mem_append_right _ z))
  · exact (stp2.fp a (List.mem_append_right _ z)).imp (fun w => b3.mem_iff.mpr (List.mem_append_left _ w)) id
end
end CC
set_option maxHeartbeats 4000000
/-! Ways by None or not, `not` of a tuple, a row of a table under a second name (pinned), an owned last argument. -/
namespace CC
open PySem PySem.Spec L2
open PyProof.Rows hiding St
variable {α β γ δ τ υ ω ρ ε κ : Type}
section
variable {S : Stc} {Γ : Ctx} {a b c e : Expr} {es : List Expr} {pos : Pos} {st : Stmt} {rest sts : List Stmt}
theorem jb_split {Γ : Option α → Ctx} (o : Option α) {m0 : Option ω} {m1 : α → Option ω} {D : ω → Kd} (h0 : JB S sts (Γ none) m0 D) (h1 : ∀ y, JB S sts (Γ (some y)) (m1 y) D) : JB S sts (Γ o) (o.elim m0 m1) D := by
  cases o with
  | none => exact h0
  | some y => exact h1 y
theorem ov_isNN : OpV (fun x y H Q => y = .non ∧ Q (.bl (decide (x = .non))) H) (fun _ : Unit => nonS) (fun _ : Unit => nonS) (fun _ _ => some true) fun z => sh (boolS z) := fun W x y v u z ok hx hy e Q k => by
  cases e
  cases hy
  cases hx
  exact ⟨rfl, k.val ok rfl⟩
theorem jn_notTT {m : Option (List α)} {E : α → SP} (h : JN S e Γ m fun z => sh (tupS E z)) : JN S (.UnaryOp .Not e pos) Γ (m.bind fun x => some x.isEmpty) fun z => sh (boolS z) := fun σ W F st z hz Q k => by
  obtain ⟨x, h1, h2⟩ := run1 hz
  cases h2
  refine ⟨tNotT S.K (tOf S e), fun X hX => hX.K ▸ pe_notT (peO hX), h σ W F st x h1 _ fun v W' Fv e _ _ r => ?_⟩
  obtain ⟨_, p, vs, rfl, q2, q3⟩ := r
  refine ⟨!x.isEmpty, .inr (.inl ⟨vs, .inl (.inl (e.ok p _ q2)), ?_⟩), (k.ext e).val e.ok (by rw [Bool.not_not]; rfl)⟩
  have := q3.len
  cases x with
  | nil => cases vs with
    | nil => rfl
    | cons _ _ => cases this
  | cons _ _ => cases vs with
    | nil => cases this
    | cons _ _ => rfl
theorem jn_notTL {m : Option (List α)} {E : α → SP} (h : JN S e Γ m fun z => sh (lstS E z)) : JN S (.UnaryOp .Not e pos) Γ (m.bind fun x => some x.isEmpty) fun z => sh (boolS z) := fun σ W F st z hz Q k => by
  obtain ⟨x, h1, h2⟩ := run1 hz
  cases h2
  refine ⟨tNotT S.K (tOf S e), fun X hX => hX.K ▸ pe_notT (peO hX), h σ W F st x h1 _ fun v W' Fv e _ _ r => ?_⟩
  obtain ⟨_, p, vs, rfl, q2, q3⟩ := r
  refine ⟨!x.isEmpty, .inl ⟨vs, .inl (.inl (e.ok p _ q2)), ?_⟩, (k.ext e).val e.ok (by rw [Bool.not_not]; rfl)⟩
  have := q3.len
  cases x with
  | nil => cases vs with
    | nil => rfl
    | cons _ _ => cases this
  | cons _ _ => cases vs with
    | nil => cases this
    | cons _ _ => rfl
/-! ### pins -/
/-- a table whose k-th row is the value v -/
def pinO (E : α → OP) (k : Nat) (v : V) (xs : List α) : OP := ⟨fun W w F => (lstO E xs).C W w F ∧ ∃ a vs, w = .ref a ∧ W.H a = some (.lst vs) ∧ vs[k]? = some v, fun {W W' w F} h e q => by
  obtain ⟨h1, a, vs, h2, h3, h4⟩ := h
  refine ⟨OP.loc _ h1 e q, a, vs, h2, ?_, h4⟩
  obtain ⟨a', _, F2, e1, _, e3, _⟩ := h1
  have : a' = a := by rw [h2] at e1; cases e1; rfl
  subst this
  rw [q a' (by rw [e3]; exact List.mem_cons_self)]
  exact h3⟩
theorem iv_pin {K : PySem.W.Frag} {E : α → OP} {k : Nat} {v : V} : IxV (rIxL K) (pinO E k v) intS (fun xs i => atI xs i) E := fun W x y w u z F1 ok hx hy e Q kk => iv_lstO W x y w u z F1 ok hx.1 hy e Q kk
theorem jb_pin {r u : Str} {p0 p1 p2 : Pos} {E : α → OP} {xss : List α} {mi : Option Int} {mr : Nat → Option ω} {D : ω → Kd} (iu ir : Nat) (nd : S.N.Nodup) (ha : JN S a Γ mi fun z => sh (intS z)) (hi : Γ[iu]? = some (some (lstO E xss)) := by rfl) (hir : (Γ[ir]?).isSome = true := by rfl) (hne : iu ≠ ir := by decide)
    (hr : ∀ k v, JB S rest ((Γ.set iu (some (pinO E k v xss))).set ir (some (sh (valS v)))) (mr k) D)
    (hNu : S.N[iu]? = some u := by rfl) (hNr : S.N[ir]? = some r := by rfl) (hvu : Vis S.sc u := by first | exact Or.inl rfl | exact Or.inr (Or.inl rfl) | exact Or.inr (Or.inr rfl)) (hd : (u == ("__debug__" : Str)) = false := by decide) (hcd : (u == ("__classdict__" : Str)) = false := by decide)
    (hx : Loc S.sc r := by first | exact Or.inl rfl | exact Or.inr rfl) (hp : (S.prot.contains ir) = false := by rfl) (hpl : PlainIx a := by exact fun _ _ => rfl)
    (hs : ∀ env, swapsWith (.Subscript (.Name u p0) a p1) (some (.Name r p2)) pos.line env = pure false := by intro _; rfl) (hf : S.fn r = true ∨ S.sc.names.lookup r = some .local := by first | exact .inl rfl | exact .inr rfl) :
    JB S (.Assign [.Name r p2] (.Subscript (.Name u p0) a p1) pos :: rest) Γ (mi.bind fun i => (ixN xss.length i).bind fun k => mr k) D := fun σ W F sta z hz Ed kk => by
  obtain ⟨i, m1, m2⟩ := run1 hz
  obtain ⟨k, m3, m4⟩ := run1 (f := fun k => mr k) m2
  refine ⟨tSeq (tAsg (tOp (rIxL S.K) (tVar iu) (tOf S a)) (gName ir)) (tbOf S rest), fun X hX => pss_cons (ps_set (by rw [hX.N]; exact nd) (by rw [hX.N]; exact hNr) (locS hx hX) (pe_ix (oIxL X hX) (pe_var (by rw [hX.N]; exact hNu) (visS hvu hX) hd hcd) (peO hX) hpl) (hs _) (by rw [hX.fn, hX.sc]; exact hf)) (pbO hX), ?_⟩
  obtain ⟨w, F1, F2, a1, _⟩ := sta.hold.at hi
  refine ⟨w, a1, ha σ W F sta i m1 _ fun t W1 _ ext _ _ r1 => ?_⟩
  obtain ⟨_, rfl⟩ := r1
  have sta1 := sta.ext ext
  obtain ⟨w', F1', F2', c1, c2, c3, c4⟩ := sta1.hold.at hi
  have ev : w' = w := by rw [a1] at c1; exact (Option.some.inj (Option.some.inj c1)).symm
  subst ev
  obtain ⟨p, vs, G2, rfl, d2, rfl, d4⟩ := id c2
  have hkl : k < vs.length := by
    rw [d4.len]
    unfold ixN at m3
    split at m3
    · split at m3 <;> first | (cases m3; omega) | cases m3
    · split at m3 <;> first | (cases m3; omega) | cases m3
  obtain ⟨v, k1⟩ : ∃ v, vs[k]? = some v := ⟨_, List.getElem?_eq_getElem hkl⟩
  refine ⟨p, vs, i, v, rfl, rfl, .inl (.inl d2), by unfold atI; rw [d4.len, m3]; exact k1, ?_⟩
  obtain ⟨F', s1, s2⟩ := c4 W1 (pinO E k v xss) (.ref p) (p :: G2) (fun _ _ h => h) (fun _ _ => rfl) ⟨c2, p, vs, rfl, d2, k1⟩
  rw [set_back c1] at s1
  have pF : F.Perm F' := c3.trans s2.symm
  have s3 : Sta (Γ.set iu (some (pinO E k v xss))) σ W1 F' := ⟨sta1.ok, sta1.fp.perm pF, by rw [List.length_set]; exact sta1.len, s1⟩
  have hlt : ir < (Γ.set iu (some (pinO E k v xss))).length := by
    rw [List.length_set]
    cases h : Γ[ir]? with
    | none => rw [h] at hir; cases hir
    | some o => exact (List.getElem?_eq_some_iff.mp h).1
  obtain ⟨F3, s4, sub⟩ := s3.put (o := sh (valS v)) (v := v) (F1 := []) hlt ⟨rfl, rfl⟩ (by rw [List.append_nil]; exact s3.fp)
  refine hr k v (σ.set ir (some v)) W1 F3 s4 z m4 Ed (kk.before (Keep.set (ncon hp)) ?_)
  exact ext.stp0.perm fun b hb => pF.mem_iff.mpr (by have := sub b hb; simpa using this)
/-- the pin is forgotten -/
theorem jb_unpin {E : α → OP} {xss : List α} {m : Option ω} {D : ω → Kd} {k : Nat} {v : V} (iu : Nat) (hu : Γ[iu]? = some (some (pinO E k v xss))) (h : JB S sts (Γ.set iu (some (lstO E xss))) m D) : JB S sts Γ m D := fun σ W F sta z hz Ed kk => by
  obtain ⟨w', G1, G2, c1, c2, c3, c4⟩ := sta.hold.at hu
  obtain ⟨F3, t1, t2⟩ := c4 W (lstO E xss) w' G1 (fun _ _ h => h) (fun _ _ => rfl) c2.1
  rw [set_back c1] at t1
  have pF : F.Perm F3 := c3.trans t2.symm
  exact h σ W F3 ⟨sta.ok, sta.fp.perm pF, by rw [List.length_set]; exact sta.len, t1⟩ z hz Ed (kk.before Keep.refl ((Stp.refl sta.ok).perm fun b hb => pF.mem_iff.mpr hb))
/-- the pinned row, read where it stands -/
theorem jr_pin {x : Str} {E : α → OP} {xss : List α} {k : Nat} {v : V} (iu ir : Nat) (hu : Γ[iu]? = some (some (pinO E k v xss)) := by rfl) (hr : Γ[ir]? = some (some (sh (valS v))) := by rfl) (hN : S.N[ir]? = some x := by rfl) (hv : Vis S.sc x := by first | exact Or.inl rfl | exact Or.inr (Or.inl rfl) | exact Or.inr (Or.inr rfl))
    (hd : (x == ("__debug__" : Str)) = false := by decide) (hcd : (x == ("__classdict__" : Str)) = false := by decide) :
    JR S (.Name x pos) Γ xss[k]? E := fun σ W F sta y hy Q kq => by
  refine ⟨tVar ir, fun X hX => pe_var (by rw [hX.N]; exact hN) (visS hv hX) hd hcd, ?_⟩
  obtain ⟨w, F1, F2, a1, ⟨_, rfl⟩, _, _⟩ := sta.hold.at hr
  obtain ⟨w', G1, G2, c1, ⟨c2, p, vs, c5, c6, c7⟩, c3, c4⟩ := sta.hold.at hu
  refine ⟨w, a1, kq w W (Ext.refl sta.ok) ?_⟩
  obtain ⟨p', vs', F3, e1, e2, rfl, e4⟩ := c2
  rw [e1] at c5
  cases c5
  rw [e2] at c6
  cases c6
  obtain ⟨u, K1, K2, k1, k2, k3, _⟩ := e4.at hy
  rw [c7] at k1
  cases k1
  exact ⟨K1, k2, fun b hb => sta.fp.al b (c3.mem_iff.mpr (List.mem_append_left _ (List.mem_cons_of_mem _ (k3.mem_iff.mpr (List.mem_append_left _ hb)))))⟩
def setRow (xss : List (List α)) (k : Nat) (i : Int) (y : α) : Option (List (List α)) := (xss[k]?).bind fun xs => (setAt xs i y).bind fun ys => some (xss.set k ys)
/-- r[b] = e of a pinned row -/
theorem js_pinI {x : Str} {p0 tpos : Pos} {E : α → SP} {xss : List (List α)} {k : Nat} {v : V} {mv : Option α} {mi : Option Int} (iu ir : Nat) (h : JN S e Γ mv fun x => sh (E x)) (hb : JN S b Γ mi fun z => sh (intS z)) (hu : Γ[iu]? = some (some (pinO (lstO fun x => sh (E x)) k v xss)) := by rfl) (hr : Γ[ir]? = some (some (sh (valS v))) := by rfl) (hN : S.N[ir]? = some x := by rfl) (hv : Vis S.sc x := by first | exact Or.inl rfl | exact Or.inr (Or.inl rfl) | exact Or.inr (Or.inr rfl))
    (hd : (x == ("__debug__" : Str)) = false := by decide) (hcd : (x == ("__classdict__" : Str)) = false := by decide)
    (ha : ∀ env v, assign (.Subscript (.Name x p0) b tpos) env v = (do
      let ov ← holding [v] (eval (.Name x p0) env)
      let iv ← holding [v, ov] (eval b env)
      standAt tpos
      holding [v, ov, iv] (setItem ov iv v)
      release [v, ov, iv] []) := by intro _ _; rfl) (hs : ∀ env, swapsWithSole [.Subscript (.Name x p0) b tpos] e pos.line env = pure false := by intro _; rfl) (hw : ∀ env, swappedStores [.Subscript (.Name x p0) b tpos] e env = pure none := by intro _; rfl)
    (h1 : ∀ env, (assignEach [.Subscript (.Name x p0) b tpos] env).map (·.2) = [assign (.Subscript (.Name x p0) b tpos) env] := by intro _; rfl) :
    JS S (.Assign [.Subscript (.Name x p0) b tpos] e pos) Γ (mv.bind fun y => mi.bind fun i => setRow xss k i y) fun yss => .nx (Γ.set iu (some (pinO (lstO fun x => sh (E x)) k v yss))) := fun σ W F sta z hz Ed kk => by
  obtain ⟨y, l, m1, m2, m3⟩ := run2 hz
  unfold setRow at m3
  obtain ⟨xs, j1, m3⟩ := run1 (f := fun xs => (setAt xs l y).bind fun ys => some (xss.set k ys)) m3
  obtain ⟨ys, j2, j3⟩ := run1 (f := fun ys => some (xss.set k ys)) m3
  cases j3
  obtain ⟨j, j4, j5⟩ := run1 (f := fun j => some (xs.set j y)) j2
  cases j5
  refine ⟨tAsg (tOf S e) (gSub (tVar ir) (tOf S b) rSetL), fun X hX => ps_asg (peO hX) (pg_sub (pe_var (by rw [hX.N]; exact hN) (visS hv hX) hd hcd) (peO hX) set_list (ha _)) (hs _) (hw _) (h1 _), ?_⟩
  refine h σ W F sta y m1 _ fun u W1 Fv ext fr fp r => ?_
  obtain ⟨rfl, r⟩ := r
  have sta1 := sta.ext ext
  obtain ⟨w, _, _, a1, ⟨_, rfl⟩, _, _⟩ := sta1.hold.at hr
  refine ⟨w, a1, ?_⟩
  refine hb σ W1 F sta1 l m2 _ fun t W2 _ ext2 _ _ r2 => ?_
  obtain ⟨_, rfl⟩ := r2
  have sta2 := sta1.ext ext2
  obtain ⟨w', G1, G2, c1, ⟨c2, p, vs, c5, c6, c7⟩, c3, c4⟩ := sta2.hold.at hu
  obtain ⟨p', vs', F3, e1, e2, rfl, e4⟩ := c2
  rw [e1] at c5
  cases c5
  rw [e2] at c6
  cases c6
  obtain ⟨w2, K1, K2, k1, k2, k3, k4⟩ := e4.at j1
  rw [c7] at k1
  cases k1
  obtain ⟨q, us, K3, rfl, l2, rfl, l4⟩ := k2
  obtain ⟨rfl, l5⟩ := l4.each
  have fpA := (sta2.fp.perm c3).left
  have nd2 := List.nodup_cons.mp fpA.nd
  have ndK := k3.nodup_iff.mp nd2.2
  have inq : q ∈ F3 := k3.mem_iff.mpr (List.mem_append_left _ List.mem_cons_self)
  have hB : W2.B q = none := fpA.fr q (List.mem_cons_of_mem _ inq)
  have hpq : p ≠ q := fun z => nd2.1 (z ▸ inq)
  refine ⟨q, us, l, j, rfl, rfl, l2, by rw [l5.len]; exact j4, ?_⟩
  have hset : vs.set k (.ref q) = vs := by
    refine List.ext_getElem? fun n => ?_
    by_cases z : k = n
    · subst z
      rw [c7, List.getElem?_set_self (List.getElem?_eq_some_iff.mp c7).1]
    · rw [List.getElem?_set_ne z]
  obtain ⟨G', g1, g2⟩ := k4 ⟨upd W2.H q (.lst (us.set j u)), W2.B⟩ (xs.set j y) (.ref q) [q] (fun _ _ h => h) (fun b hb => upd_ne fun z => (List.nodup_cons.mp ndK).1 (z ▸ hb)) ⟨q, us.set j u, [], rfl, upd_same, rfl, Owns.of_each (l5.set (SP.mono _ r ext2.b) j)⟩
  rw [hset] at g1
  have pG : (p :: G').Perm (p :: F3) := .cons p (g2.trans k3.symm)
  have fpB := fpA.perm pG.symm
  obtain ⟨F', s', stp⟩ := sta_own (W' := ⟨upd W2.H q (.lst (us.set j u)), W2.B⟩) (F1' := p :: G') (o' := pinO (lstO fun x => sh (E x)) k (.ref q) (xss.set k (xs.set j y))) [] sta2 (by rw [List.append_nil]; exact sta2.fp) c1 c3 c4 (wr_ok ext2.ok hB) rfl (fun b hb _ => upd_ne fun z => hb (z ▸ List.mem_cons_of_mem _ inq)) wr_al ⟨fpB.nd, fun b hb => wr_al b (fpB.al b hb), fpB.fr⟩ (fun b hb => .inl (pG.mem_iff.mp hb)) (by rw [e1]; exact ⟨⟨p, vs, G', rfl, (upd_ne hpq).trans e2, rfl, g1⟩, p, vs, rfl, (upd_ne hpq).trans e2, c7⟩)
  rw [List.append_nil] at stp
  exact kk σ _ F' Keep.refl ((ext.trans ext2).stp0.trans stp) s'
end
/-! ### an owned last argument -/
def spU (O : τ → OP) (G : α → List SP) (U : α → OP) (fM : α → τ → Option (ρ × τ)) (R : ρ → OP) : Sp := fun vs H Q _ => ∃ x s W F Fl v0 vr vl r, vs = v0 :: (vr ++ [vl]) ∧ W.H = H ∧ Ex W.B W.H ∧ FpOk W (F ++ Fl) ∧ (O s).C W v0 F ∧ Hets W.B vr (G x) ∧ (U x).C W vl Fl ∧ fM x s = some r ∧
  ∀ v W' F' Fv, Stp W (F ++ Fl) W' (F' ++ Fv) → FpOk W' (F' ++ Fv) → (O r.2).C W' v0 F' → (R r.1).C W' v Fv → Q v W'.H
theorem holds_shT {W : Wd} {Γ : Ctx} {F : List Addr} : ∀ {vs : List V} {ps : List SP} {r : L2.St}, Hets W.B vs ps → Holds Γ r W F → Holds (shC ps ++ Γ) (vs.map some ++ r) W F
  | [], [], r, _, h => h
  | v :: vs, p :: ps, r, h, k => ⟨v, [], F, rfl, rfl, ⟨rfl, h.1⟩, holds_shT h.2 k⟩
  | [], _ :: _, _, h, _ => h.elim
  | _ :: _, [], _, h, _ => h.elim
theorem fnd_stateU {P : Program} {w : World} {K : PySem.W.Frag} {mg : Str → Option Value} {base : Heap} {x qual : Str} {st : Stmt} {f : Addr} {fd : FuncData} {dvs : List V} {kwd : List (Str × V)} {N ps : List Str} {k : Nat} {O : τ → OP} {G : α → List SP} {U : α → OP} {fM : α → τ → Option (ρ × τ)} {R : ρ → OP} (F : FunD K x qual (defArgs st) (defBody st) (defScope st) dvs kwd f fd) (Sc : FnScope N ps (defScope st)) (hG : ∀ a, (G a).length + 2 = ps.length) (hn : ps.length ≤ N.length)
    (body : ∀ a s, JB (stcOf P w K mg base N (defScope st) k [0]) (defBody st) (some (O s) :: (shC (G a) ++ (some (U a) :: nonC (N.length - ps.length)))) (fM a s) fun r => .rt (some (O r.2) :: nonC (N.length - 1)) (R r.1)) : FnOk P w K mg base CX0 (k + 1) f fd ps (spU O G U fM R) := by
  refine F.ok Sc (fun vs H Q E h => ?_) (fun cdv A outer s H vs Q E hr h => ?_)
  · obtain ⟨a, s, W, F, Fl, v0, vr, vl, r, rfl, _, _, _, _, h3, _⟩ := h
    rw [List.length_cons, List.length_append, h3.len, List.length_singleton, ← hG a]
  · obtain ⟨a, s0, W, Fp, Fl, v0, vr, vl, r, rfl, rfl, ok, fp0, h0, h3, hU, h4, kq⟩ := h
    refine ⟨tbOf (stcOf P w K mg base N (defScope st) k [0]) (defBody st), (pbO (in_cx hr)).nox, ?_⟩
    have hl : (v0 :: (vr ++ [vl])).length = ps.length := by
      rw [List.length_cons, List.length_append, h3.len, List.length_singleton, ← hG a]
    have sta : Sta (some (O s0) :: (shC (G a) ++ (some (U a) :: nonC (N.length - ps.length)))) (L2.start N (v0 :: (vr ++ [vl]))) W (Fp ++ Fl) := ⟨ok, fp0, by
      unfold L2.start shC nonC
      have := hG a
      simp [h3.len]
      omega, ⟨v0, Fp, Fl, rfl, rfl, h0, by
      unfold L2.start
      rw [hl]
      show Holds _ ((vr ++ [vl]).map some ++ _) W Fl
      rw [List.map_append, List.append_assoc]
      exact holds_shT h3 ⟨vl, Fl, [], rfl, (List.append_nil _).symm, hU, holds_non _ _⟩⟩⟩
    refine body a s0 _ W _ sta r h4 _ fun v σ' W' F' Fv kp stp sa fp rr => ?_
    obtain ⟨u, F1, F2, b1, b2, b3, b4⟩ := sa.hold
    have e0 : σ'[0]? = some (some v0) := (kp 0 (by simp)).trans rfl
    have eu : u = v0 := by
      rw [List.head?_eq_getElem?] at b1
      rw [e0] at b1
      exact (Option.some.inj (Option.some.inj b1)).symm
    subst eu
    have eF : F2 = [] := by
      have : ∀ (n : Nat) (σ : L2.St) (F : List Addr), Holds (nonC n) σ W' F → F = [] := by
        intro n
        induction n with
        | zero => intro σ F h; exact h
        | succ n ih => intro σ F h; exact ih σ.tail F h
      exact this _ _ _ b4
    subst eF
    rw [List.append_nil] at b2
    subst b2
    exact kq v W' F' Fv stp fp b3 rr
section
variable {S : Stc} {Γ : τ → Ctx} {s : τ} {a b c e : Expr} {es : List Expr} {pos : Pos}
def JEU (S : Stc) (es : List Expr) (Γ : τ → Ctx) (s : τ) (m : Option (α × τ)) (G : α → List SP) (U : α → OP) : Prop :=
  ∀ σ W F, Sta (Γ s) σ W F → ∀ x, m = some x → ∀ Q : List V → Hp → Prop, (∀ vs vl W' F' Fl, Stp W F W' (F' ++ Fl) → Sta (Γ x.2) σ W' F' → FpOk W' (F' ++ Fl) → Hets W'.B vs (G x.1) → (U x.1).C W' vl Fl → Q (vs ++ [vl]) W'.H) → taOf S es σ W.H Q
theorem jeu_last {m : Option (α × τ)} {U : α → OP} (h : JE S e Γ s m U) (hs : ∀ env, starEach [e] env = (false, eval e env) :: starEach [] env := by intro _; rfl) : JEU S [e] Γ s (m.bind fun p => some ((p.1, ()), p.2)) (fun _ : α × Unit => []) fun z => U z.1 := fun σ W F sta z hz Q k => by
  obtain ⟨p, h1, h2⟩ := run1 hz
  cases h2
  refine ⟨tCons (tOf S e) tNil, fun X hX => pa_cons (peO hX) pa_nil (hs _), ?_⟩
  exact h σ W F sta p h1 _ fun v W' F' Fv stp sa fp r => k [] v W' F' Fv stp sa fp trivial r
theorem jeu_cons {ma : Option (α × τ)} {mb : τ → Option (β × τ)} {E : α → SP} {G : β → List SP} {U : β → OP} (ha : JE S e Γ s ma fun x => sh (E x)) (hb : ∀ s1, JEU S es Γ s1 (mb s1) G U) (hs : ∀ env, starEach (e :: es) env = (false, eval e env) :: starEach es env := by intro _; rfl) :
    JEU S (e :: es) Γ s (ma.bind fun p => (mb p.2).bind fun q => some ((p.1, q.1), q.2)) (fun z => E z.1 :: G z.2) fun z => U z.2 := fun σ W F sta z hz Q k => by
  obtain ⟨p, h1, h2⟩ := run1 hz
  obtain ⟨q, h3, h4⟩ := run1 (f := fun q : β × τ => some ((p.1, q.1), q.2)) h2
  cases h4
  refine ⟨tCons (tOf S e) (taOf S es), fun X hX => pa_cons (peO hX) (paO hX) (hs _), ?_⟩
  refine ha.sh sta h1 fun v W1 F1 stp1 sa1 r1 => ?_
  exact hb p.2 σ W1 F1 sa1 q h3 _ fun vs vl W2 F2 Fl stp2 sa2 fp hh r => k (v :: vs) vl W2 F2 Fl (stp1.trans stp2) sa2 fp ⟨SP.mono _ r1 stp2.b, hh⟩ r
theorem je_callSU {x y : Str} {p p1 : Pos} {f : Addr} {fd : FuncData} {ps : List Str} {k : Nat} {O : υ → OP} {G : α → List SP} {U : α → OP} {fM : α → υ → Option (ρ × υ)} {R : ρ → OP} {m : Option (α × τ)} (i : Nat) (get : τ → υ) (put : τ → υ → τ) (Fn : FnOk S.P S.w S.K S.mg S.base CX0 k f fd ps (spU O G U fM R)) (hm : S.mg x = some (.ref f)) (kp : PySem.W.keepIn S.K (.ref f) = true) (hb : Binds S.K fd ps [])
    (hk : k ≤ S.k) (ha : JEU S es Γ s m G U) (hi : ∀ s, (Γ s)[i]? = some (some (O (get s))) := by intro _; rfl) (hp : ∀ s u, (Γ s).set i (some (O u)) = Γ (put s u) := by intro _ _; rfl) (hN : S.N[i]? = some y := by rfl) (hv : Vis S.sc y := by first | exact Or.inl rfl | exact Or.inr (Or.inl rfl) | exact Or.inr (Or.inr rfl))
    (hd : (y == ("__debug__" : Str)) = false := by decide) (hcd : (y == ("__classdict__" : Str)) = false := by decide) (hg : GlS S x := by rfl) (hdb : (x == ("__debug__" : Str)) = false := by decide)
    (he : ∀ env, starEach (Expr.Name y p1 :: es) env = (false, eval (.Name y p1) env) :: starEach es env := by intro _; rfl) (hpl : ∀ env, (backTo pos (starEach es env)).any (·.1) = false := by intro _; rfl) (hcm : S.calm = true := by rfl) :
    JE S (.Call (.Name x p) (.Name y p1 :: es) [] pos) Γ s (m.bind fun q => (fM q.1 (get q.2)).bind fun r => some (r.1, put q.2 r.2)) R := fun σ W F sta z hz Q kk => by
  obtain ⟨q, h1, h2⟩ := run1 hz
  obtain ⟨r, h3, h4⟩ := run1 (f := fun r : ρ × υ => some (r.1, put q.2 r.2)) h2
  cases h4
  refine ⟨tCall (spU O G U fM R) [] E0 (tCons (tVar i) (taOf S es)), fun X hX => pe_call (fnokS Fn hX) ((hX.room hcm).mono hk) (hg.gl hX) (mgS hm hX) (by rw [hX.K]; exact kp) (bindsS hX hb) .nil passE0 (pa_cons (pe_var (by rw [hX.N]; exact hN) (visS hv hX) hd hcd) (paO hX) (he _)) hdb (he _) (hpl _), ?_⟩
  obtain ⟨v0, F1, F2, a1, _, _, _⟩ := sta.hold.at (hi s)
  refine ⟨v0, a1, ha σ W F sta q h1 _ fun vs vl W1 Fa Fl stp1 sa1 fp1 hh hU => ?_⟩
  show spU O G U fM R ((v0 :: (vs ++ [vl])) ++ []) W1.H Q E0
  rw [List.append_nil]
  obtain ⟨v1, F1, F2, b1, b2, b3, b4⟩ := sa1.hold.at (hi q.2)
  have ev : v1 = v0 := by rw [a1] at b1; exact (Option.some.inj (Option.some.inj b1)).symm
  subst ev
  have pA : (Fa ++ Fl).Perm ((F1 ++ Fl) ++ F2) := by
    refine (List.Perm.append_right Fl b3).trans ?_
    rw [List.append_assoc, List.append_assoc]
    exact List.Perm.append_left _ List.perm_append_comm
  have fpP := fp1.perm pA
  refine ⟨q.1, get q.2, W1, F1, Fl, v1, vs, vl, r, rfl, rfl, sa1.ok, fpP.left, b2, hh, hU, h3, fun v W2 F1' Fv stp2 fp2 o2 r2 => ?_⟩
  have ne2 : ∀ a ∈ F2, a ∉ F1 ++ Fl := fun a ha h => fpP.disj a h ha
  have hH : ∀ a ∈ F2, W2.H a = W1.H a := fun a ha => by
    cases qa : W1.H a with
    | none => exact absurd qa (fpP.right.al a ha)
    | some o => exact stp2.h a o qa (ne2 a ha)
  obtain ⟨F', c1, c2⟩ := b4 W2 (O r.2) v1 F1' stp2.b hH o2
  rw [set_back b1, hp] at c1
  have fpN : FpOk W2 ((F1' ++ F2) ++ Fv) := by
    have fA : FpOk W2 ((F1' ++ Fv) ++ F2) := fp2.app ⟨fpP.right.nd, fun a ha => stp2.al a (fpP.right.al a ha), fun a ha => stp2.fr a (fpP.right.al a ha) (fpP.right.fr a ha) (ne2 a ha)⟩ fun a ha h => by
      rcases stp2.fp a ha with z | z
      · exact ne2 a h z
      · exact fpP.right.al a h z
    refine fA.perm ?_
    rw [List.append_assoc, List.append_assoc]
    exact List.Perm.append_left _ List.perm_append_comm
  have fpF : FpOk W2 (F' ++ Fv) := fpN.perm (List.Perm.append_right Fv c2.symm)
  have inA : ∀ b, b ∈ F1 ++ Fl → b ∈ Fa ++ Fl := fun b hb => pA.mem_iff.mpr (List.mem_append_left _ hb)
  refine kk v W2 F' Fv (stp1.trans ?_) ⟨stp2.ok, fpF.left, by rw [← hp, List.length_set]; exact sa1.len, c1⟩ fpF r2
  refine ⟨stp2.ok, stp2.b, fun a o h n => stp2.h a o h fun z => n (inA a z), stp2.al, fun a x1 x2 n => stp2.fr a x1 x2 fun z => n (inA a z), fun a ha => ?_⟩
  rcases List.mem_append.mp ha with z | z
  · rcases List.mem_append.mp (c2.mem_iff.mp z) with z | z
    · exact (stp2.fp a (List.mem_append_left _ z)).imp (inA a) id
    · exact .inl (pA.mem_iff.mpr (List.mem_append_right _ z))
  · exact (stp2.fp a (List.mem_append_right _ z)).imp (inA a) id
end
end CC
set_option maxHeartbeats 4000000
/-! A method that changes its object and may raise. -/
namespace CC
open PySem PySem.Spec L2
open PyProof.Rows hiding St
variable {α β γ δ τ υ ω ρ ε κ : Type}
def tMethXS (C : Addr) (m : Str) (sp : Sp) (E : L2.St → XK) (ta : TE) (t : TA) : TE := fun σ H Q => ta σ H fun x H1 => ∃ a dx fs, x = .ref a ∧ H1 a = some (.ins C dx fs) ∧ fs.lookup m = none ∧ t σ H1 fun vs H2 => sp (x :: vs) H2 Q (E σ)
theorem pe_methXS {X : Cx} {CX : CXT} {k : Nat} {f C : Addr} {fd : FuncData} {ps : List Str} {sp : Sp} {E : L2.St → XK} {m : Str} {pos apos : Pos} {e o : Expr} {es : List Expr} {ta : TE} {t : TA} {pl : Sem Bool} (he : PE X o ta) (c : Cls X.K C) (hm : Meth X.K C m f) (F : FnOk X.prog X.w X.K X.mg X.base CX k f fd ps sp) (hr : Room k X.A) (hb : Binds X.K fd ps []) (hx : ∀ σ, PassesAt CX X σ (E σ)) (ha : PA X (e :: es) t)
    (hst : starEach (e :: es) X.env = (false, eval e X.env) :: starEach es X.env) (hpl : (backTo pos (starEach es X.env)).any (·.1) = false)
    (ht : eval (.Call (.Attribute o m apos) (e :: es) [] pos) X.env = (do
      let ov ← eval o X.env
      standAt apos.atName
      let (f, first) ← holding [ov] (getMethod ov m pl)
      callWith pos f first (backTo pos (starEach (e :: es) X.env)) (backToKw pos (keywordEach [] X.env)))) :
    PE X (.Call (.Attribute o m apos) (e :: es) [] pos) (tMethXS C m sp E ta t) := by
  refine ⟨fun pins s σ H Q I h => ?_⟩
  refine PySem.W.methodCall_KW (pl := pl) (thn (he.run pins s σ H _ I h) fun u s1 ⟨x, H1, I1, rx, a, dx, fs, ex, ea, l, q⟩ => ?_) ht
  subst ex
  obtain rfl : u = Value.ref a := rx
  refine getmeth_ok I1 ea c hm l ?_
  refine PySem.W.callWith_K (first := [.ref a]) (h₀ := X.base) I.ok.mod.kin hm.kp (thn (ha.run pos pins s1 σ H1 _ I1 q) fun us s2 ⟨vs, H2, I2, r, q2⟩ => ⟨I2.kIn, ?_⟩) hst hpl
  exact run_fnS (us := .ref a :: us) (vs := .ref a :: vs) F hr hb (hx σ) I2 (.cons rfl r) q2
/-- the first argument is owned and changed; or an exception comes -/
def spXS (O : τ → OP) (G : α → List SP) (fM : α → τ → Option (Res ε (ρ × τ))) (R : ρ → OP) (Xp : ε → XP) : Sp := fun vs H Q E => ∃ x s W F v0 vr r, vs = v0 :: vr ∧ W.H = H ∧ Ex W.B W.H ∧ FpOk W F ∧ (O s).C W v0 F ∧ Hets W.B vr (G x) ∧ fM x s = some r ∧
  (match r with | .ok y => ∀ v W' F' Fv, Stp W F W' (F' ++ Fv) → FpOk W' (F' ++ Fv) → (O y.2).C W' v0 F' → (R y.1).C W' v Fv → Q v W'.H | .er e => ∀ c d W', Stp W F W' [] → (Xp e).P W'.B c d → E c d W'.H)
theorem fnd_stateXT {P : Program} {w : World} {K : PySem.W.Frag} {mg : Str → Option Value} {base : Heap} {x qual : Str} {st : Stmt} {f : Addr} {fd : FuncData} {dvs : List V} {kwd : List (Str × V)} {N ps : List Str} {k : Nat} {O : τ → OP} {G : α → List SP} {fM : α → τ → Option (Res ε (ρ × τ))} {R : ρ → OP} {Xp : ε → XP} {Δx : Ctx} (F : FunD K x qual (defArgs st) (defBody st) (defScope st) dvs kwd f fd) (Sc : FnScope N ps (defScope st)) (hG : ∀ a, (G a).length + 1 = ps.length) (hn : ps.length ≤ N.length)
    (body : ∀ a s (wx : WX), JB { stcOf P w K mg base N (defScope st) k [0] with W := wx } (defBody st) (some (O s) :: (shC (G a) ++ nonC (N.length - ps.length))) (fM a s) (TD (fun r => .rt (some (O r.2) :: nonC (N.length - 1)) (R r.1)) Δx Xp)) : FnOk P w K mg base (L2.CX P w) (k + 1) f fd ps (spXS O G fM R Xp) := by
  refine F.ok Sc (fun vs H Q E h => ?_) (fun cdv A outer s H vs Q E hr h => ?_)
  · obtain ⟨a, s, W, F, v0, vr, r, rfl, _, _, _, _, h3, _⟩ := h
    rw [List.length_cons, h3.len, hG]
  · obtain ⟨a, s0, W, Fp, v0, vr, r, rfl, rfl, ok, fp0, h0, h3, h4, kq⟩ := h
    refine ⟨tbOf { stcOf P w K mg base N (defScope st) k [0] with W := fun c d _ H => E c d H } (defBody st), pbO (in_cxX hr), ?_⟩
    have hl : (v0 :: vr).length = ps.length := by rw [List.length_cons, h3.len]; exact hG a
    have sta : Sta (some (O s0) :: (shC (G a) ++ nonC (N.length - ps.length))) (L2.start N (v0 :: vr)) W Fp := ⟨ok, fp0, by
      unfold L2.start shC nonC
      have := hG a
      simp [h3.len]
      omega, ⟨v0, Fp, [], rfl, (List.append_nil _).symm, h0, by
      unfold L2.start
      rw [hl]
      exact holds_sh h3⟩⟩
    refine body a s0 _ _ W Fp sta r h4 _ ?_
    cases r with
    | er u => exact fun c d σ' W' F' _ stp _ hp => kq c d W' (stp.perm fun _ h => (List.not_mem_nil h).elim) hp
    | ok y =>
      intro v σ' W' F' Fv kp stp sa fp rr
      obtain ⟨u, F1, F2, b1, b2, b3, b4⟩ := sa.hold
      have e0 : σ'[0]? = some (some v0) := (kp 0 (by simp)).trans rfl
      have eu : u = v0 := by
        rw [List.head?_eq_getElem?] at b1
        rw [e0] at b1
        exact (Option.some.inj (Option.some.inj b1)).symm
      subst eu
      have eF : F2 = [] := by
        have : ∀ (n : Nat) (σ : L2.St) (F : List Addr), Holds (nonC n) σ W' F → F = [] := by
          intro n
          induction n with
          | zero => intro σ F h; exact h
          | succ n ih => intro σ F h; exact ih σ.tail F h
        exact this _ _ _ b4
      subst eF
      rw [List.append_nil] at b2
      subst b2
      exact kq v W' F' Fv stp fp b3 rr
section
variable {S : Stc} {Γ : τ → Ctx} {s : τ} {a b c e : Expr} {es : List Expr} {pos apos : Pos} {m : Str} {rest : List Stmt}
/-- an expression that changes what is owned, or raises -/
def JEX (S : Stc) (e : Expr) (Γ : τ → Ctx) (s : τ) (m : Option (Res ε (α × τ))) (R : α → OP) (Xp : ε → XP) : Prop :=
  ∀ σ W F, Sta (Γ s) σ W F → ∀ r, m = some r → ∀ Q : VK, (match r with | .ok x => ∀ v W' F' Fv, Stp W F W' (F' ++ Fv) → Sta (Γ x.2) σ W' F' → FpOk W' (F' ++ Fv) → (R x.1).C W' v Fv → Q v W'.H | .er u => ∀ c d W', Stp W F W' [] → (Xp u).P W'.B c d → S.W c d σ W'.H) → tOf S e σ W.H Q
theorem jex_methS {y : Str} {p1 : Pos} {C f : Addr} {fd : FuncData} {ps : List Str} {k : Nat} {ns : List Str} {O : υ → OP} {os : υ → List OP} {G : α → List SP} {fM : α → υ → Option (Res ε (ρ × υ))} {R : ρ → OP} {Xp : ε → XP} {ma : Option (α × τ)} {pl : Env → Sem Bool} (i : Nat) (get : τ → υ) (put : τ → υ → τ) (c : Cls S.K C) (hm : Meth S.K C m f) (Fn : FnOk S.P S.w S.K S.mg S.base (L2.CX S.P S.w) k f fd ps (spXS O G fM R Xp)) (hb : Binds S.K fd ps [])
    (hk : k ≤ S.k) (ha : JEA S (e :: es) Γ s ma G) (hO : ∀ u, O u = insO C ns (os u) := by intro _; rfl) (hn : m ∉ ns := by decide) (hi : ∀ s, (Γ s)[i]? = some (some (O (get s))) := by intro _; rfl) (hp : ∀ s u, (Γ s).set i (some (O u)) = Γ (put s u) := by intro _ _; rfl) (hN : S.N[i]? = some y := by rfl) (hv : Vis S.sc y := by first | exact Or.inl rfl | exact Or.inr (Or.inl rfl) | exact Or.inr (Or.inr rfl))
    (hd : (y == ("__debug__" : Str)) = false := by decide) (hcd : (y == ("__classdict__" : Str)) = false := by decide)
    (he : ∀ env, starEach (e :: es) env = (false, eval e env) :: starEach es env := by intro _; rfl) (hpl : ∀ env, (backTo pos (starEach es env)).any (·.1) = false := by intro _; rfl)
    (ht : ∀ env, eval (.Call (.Attribute (.Name y p1) m apos) (e :: es) [] pos) env = (do
      let ov ← eval (.Name y p1) env
      standAt apos.atName
      let (f, first) ← holding [ov] (getMethod ov m (pl env))
      callWith pos f first (backTo pos (starEach (e :: es) env)) (backToKw pos (keywordEach [] env))) := by intro _; rfl) (hcm : S.calm = true := by rfl) :
    JEX S (.Call (.Attribute (.Name y p1) m apos) (e :: es) [] pos) Γ s (ma.bind fun q => (fM q.1 (get q.2)).bind fun r => some (mapX (fun z : ρ × υ => (z.1, put q.2 z.2)) r)) R Xp := fun σ W F sta z hz Q kk => by
  obtain ⟨q, h1, h2⟩ := run1 hz
  obtain ⟨r, h3, h4⟩ := run1 (f := fun r => some (mapX (fun z : ρ × υ => (z.1, put q.2 z.2)) r)) h2
  cases h4
  refine ⟨tMethXS C m (spXS O G fM R Xp) (WE S.W) (tVar i) (taOf S (e :: es)), fun X hX => pe_methXS (pe_var (by rw [hX.N]; exact hN) (visS hv hX) hd hcd) (hX.K ▸ c) (hX.K ▸ hm) (fnokS Fn hX) ((hX.room hcm).mono hk) (bindsS hX hb) (fun σ => by rw [← hX.prog, ← hX.w]; exact passAt hX.tk σ) (paO hX) (he _) (hpl _) (ht _), ?_⟩
  obtain ⟨v0, F1, F2, a1, a2, _, _⟩ := sta.hold.at (hi s)
  rw [hO] at a2
  obtain ⟨ad, dx, vs0, G0, rfl, a5, _, _, _, _⟩ := a2
  refine ⟨.ref ad, a1, ad, dx, _, rfl, a5, zno hn, ha σ W F sta q h1 _ fun vs W1 Fa stp1 sa1 hh => ?_⟩
  obtain ⟨v1, F1, F2, b1, b2, b3, b4⟩ := sa1.hold.at (hi q.2)
  have ev : v1 = .ref ad := by rw [a1] at b1; exact (Option.some.inj (Option.some.inj b1)).symm
  subst ev
  have fpP := sa1.fp.perm b3
  have inF : ∀ b, b ∈ F1 → b ∈ Fa := fun b hb => b3.mem_iff.mpr (List.mem_append_left _ hb)
  refine ⟨q.1, get q.2, W1, F1, .ref ad, vs, r, rfl, rfl, sa1.ok, fpP.left, b2, hh, h3, ?_⟩
  cases r with
  | er u => exact fun c d W2 stp2 hp2 => kk c d W2 (stp1.trans (stp2.permL inF)) hp2
  | ok y =>
    intro v W2 F1' Fv stp2 fp2 o2 r2
    have ne2 : ∀ a ∈ F2, a ∉ F1 := fun a ha h => fpP.disj a h ha
    have hH : ∀ a ∈ F2, W2.H a = W1.H a := fun a ha => by
      cases qa : W1.H a with
      | none => exact absurd qa (fpP.right.al a ha)
      | some o => exact stp2.h a o qa (ne2 a ha)
    obtain ⟨F', c1, c2⟩ := b4 W2 (O y.2) (.ref ad) F1' stp2.b hH o2
    rw [set_back b1, hp] at c1
    have fpN : FpOk W2 ((F1' ++ F2) ++ Fv) := by
      have fA : FpOk W2 ((F1' ++ Fv) ++ F2) := fp2.app ⟨fpP.right.nd, fun a ha => stp2.al a (fpP.right.al a ha), fun a ha => stp2.fr a (fpP.right.al a ha) (fpP.right.fr a ha) (ne2 a ha)⟩ fun a ha h => by
        rcases stp2.fp a ha with z | z
        · exact ne2 a h z
        · exact fpP.right.al a h z
      refine fA.perm ?_
      rw [List.append_assoc, List.append_assoc]
      exact List.Perm.append_left _ List.perm_append_comm
    have fpF : FpOk W2 (F' ++ Fv) := fpN.perm (List.Perm.append_right Fv c2.symm)
    refine kk v W2 F' Fv (stp1.trans ?_) ⟨stp2.ok, fpF.left, by rw [← hp, List.length_set]; exact sa1.len, c1⟩ fpF r2
    refine ⟨stp2.ok, stp2.b, fun a o h n => stp2.h a o h fun z => n (inF a z), stp2.al, fun a x1 x2 n => stp2.fr a x1 x2 fun z => n (inF a z), fun a ha => ?_⟩
    rcases List.mem_append.mp ha with z | z
    · rcases List.mem_append.mp (c2.mem_iff.mp z) with z | z
      · exact (stp2.fp a (List.mem_append_left _ z)).imp (inF a) id
      · exact .inl (b3.mem_iff.mpr (List.mem_append_right _ z))
    · exact (stp2.fp a (List.mem_append_right _ z)).imp (inF a) id
/-- its item at a place -/
theorem jex_ix {r : R2} {P : α → SP} {G : β → SP} {f : α → β → Option γ} {E : γ → SP} {Xp : ε → XP} {R0 : α → OP} {ma : Option (Res ε (α × τ))} {mb : τ → Option β} (ho : ∀ X, S.In X → IxR X r) (fz : ∀ x, FrzN (R0 x) (P x)) (hr : IxV r (fun x => sh (P x)) G f fun z => sh (E z))
    (ha : JEX S a Γ s ma R0 Xp) (hb : ∀ s1, JN S b (Γ s1) (mb s1) fun y => sh (G y)) (hs : PlainIx b := by exact fun _ _ => rfl) : JEX S (.Subscript a b pos) Γ s (ma.bind fun q => q.k (fun p => (mb p.2).bind fun y => (f p.1 y).bind fun z => some (Res.ok (z, p.2))) fun u => some (Res.er u)) (fun z => sh (E z)) Xp := fun σ W F sta z hz Q k => by
  refine ⟨tOp r (tOf S a) (tOf S b), fun X hX => pe_ix (ho X hX) (peO hX) (peO hX) hs, ?_⟩
  obtain ⟨q, h1, h2⟩ := run1 hz
  cases q with
  | er u =>
    cases h2
    exact ha σ W F sta (.er u) h1 _ k
  | ok p =>
    obtain ⟨y, h3, h4⟩ := run1 (f := fun y => (f p.1 y).bind fun z => some (Res.ok (ε := ε) (z, p.2))) h2
    obtain ⟨z', h5, h6⟩ := run1 (f := fun z => some (Res.ok (ε := ε) (z, p.2))) h4
    cases h6
    refine ha σ W F sta (.ok p) h1 _ fun v W1 F1 Fv stp1 sa1 fp1 r1 => ?_
    obtain ⟨B', b1, b2, b3, b4⟩ := (fz p.1).run r1 fp1.right.nd fp1.right.fr stp1.ok
    have fpB : FpOk ⟨W1.H, B'⟩ F1 := ⟨fp1.left.nd, fp1.left.al, fun a ha => b3 a (fp1.left.fr a ha) (fp1.disj a ha)⟩
    have saB : Sta (Γ p.2) σ ⟨W1.H, B'⟩ F1 := ⟨b2, fpB, sa1.len, sa1.hold.loc b1 fun _ _ => rfl⟩
    have stpB : Stp W F ⟨W1.H, B'⟩ F1 := ⟨b2, stp1.b.trans b1, stp1.h, stp1.al, fun a h1 h2 n => b3 a (stp1.fr a h1 h2 n) fun z => by
      rcases stp1.fp a (List.mem_append_right _ z) with q | q
      · exact n q
      · exact h1 q, fun a ha => stp1.fp a (List.mem_append_left _ ha)⟩
    refine hb p.2 σ ⟨W1.H, B'⟩ F1 saB y h3 _ fun u W2 Fu ext2 fr2 fp2 r2 => ?_
    obtain ⟨rfl, r2⟩ := r2
    refine hr W2 p.1 y v u z' [] ext2.ok ⟨rfl, SP.mono _ b4 ext2.b⟩ r2 h5 _ fun t ⟨F3, q1, _⟩ => ?_
    obtain ⟨rfl, q1⟩ := q1
    refine k t W2 F1 [] ?_ (saB.ext ext2) (by rw [List.append_nil]; exact fpB.ext ext2) ⟨rfl, q1⟩
    rw [List.append_nil]
    exact stpB.trans ext2.stp0
theorem sta_none {n : Nat} {σ : L2.St} {W : Wd} (ok : Ex W.B W.H) (h : σ.length = n) : Sta (nonC n) σ W [] := ⟨ok, FpOk.nil, by rw [h]; unfold nonC; rw [List.length_replicate], holds_non n σ⟩
/-- return of such an expression -/
theorem jb_retXS {m : Option (Res ε (α × τ))} {R : α → OP} {Xp : ε → XP} {Δ : Ctx} {n : Nat} (w : ∀ s, Weak (Γ s) Δ) (h : JEX S e Γ s m R Xp) (hl : (Γ s).length = n := by rfl) : JB S (.Return (some e) pos :: rest) (Γ s) (m.bind fun r => some (mapX (fun z : α × τ => z.1) r)) (TD (fun y => .rt Δ (R y)) (nonC n) Xp) := fun σ W F sta x hx E k => by
  obtain ⟨r, h1, h2⟩ := run1 hx
  cases h2
  refine ⟨tSeq (tRet (tOf S e)) tNever, fun X hX => pss_cons (ps_ret (peO hX)) pss_never, h σ W F sta r h1 _ ?_⟩
  cases r with
  | er u => exact fun c d W' stp hp => k c d σ W' [] Keep.refl stp (sta_none stp.ok (sta.len.trans hl)) hp
  | ok y =>
    intro v W' F' Fv stp sa fp r
    obtain ⟨F2, s', sub⟩ := sa.weak (w y.2)
    have fpB : FpOk W' (F2 ++ Fv) := s'.fp.app fp.right fun a ha => fp.disj a (sub a ha)
    refine k v σ W' F2 Fv Keep.refl (stp.perm fun a ha => ?_) s' fpB r
    rcases List.mem_append.mp ha with h | h
    · exact List.mem_append_left _ (sub a h)
    · exact List.mem_append_right _ h
end
end CC
set_option maxHeartbeats 4000000
/-! A try whose body does not raise, x[j].pop(), xs.reverse(), a table's row set anew while a row is pinned. -/
namespace CC
open PySem PySem.Spec L2
open PyProof.Rows hiding St
variable {α β γ δ τ υ ω ρ ε κ : Type}
section
variable {S : Stc} {Γ : Ctx} {a b c e : Expr} {A B : List Stmt} {pos : Pos}
/-- try: .. except C: .., where the body is claimed only as far as it does not raise -/
theorem js_try0 {x : Str} {c : Value} {np pos' : Pos} {b₀ : Stmt} {m : Option ω} {D : ω → Kd} (hb : ∀ wx : WX, JB { S with W := wx } B Γ m D) (hm : S.mg x = some c)
    (hx0 : ∀ o, ∀ Γ' R, D o ≠ .xc Γ' R) (hg : GlS S x := by rfl) (hdb : (x == ("__debug__" : Str)) = false := by decide) (htop : S.top = true := by rfl) (hex : S.ex = none := by rfl) : JS S (.Try B [.ExceptHandler (some (.Name x np)) none (b₀ :: A) pos'] [] [] pos) Γ m D := fun σ W F sta z hz E k => by
  refine ⟨fun D σ H => tbOf { S with W := wOnly S.K c (fun _ _ _ => tbOf S.sui (b₀ :: A)) S.W D } B D σ H, fun X hX => ?_, ?_⟩
  · obtain ⟨t1, t2⟩ := hX.top htop
    have := ps_try_only (pos := pos) (pos' := pos') (np := np) t1 t2 (c := c) (x := x) (b₀ := b₀) (suite := A) (body := B) (ts := fun _ _ _ => tbOf S.sui (b₀ :: A)) (tb := fun W => tbOf { S with W := W } B) ⟨hg.gl hX, hdb, .inl (mgS hm hX)⟩ hX.tk (fun W pn xe tk pass => pbO (hX.tr hex tk pass)) (fun a oe cls d pn _ _ => pbO (hX.sui a _))
    rw [hX.K] at this
    exact this
  · refine hb _ σ W F sta z hz E ?_
    show Post _ S.prot σ W F E (D z)
    generalize hq : D z = q at k
    cases q with
    | nx Γ => exact k
    | bk Γ => exact k
    | ct Γ => exact k
    | rt Γ R => exact k
    | xc Γ R => exact absurd hq (hx0 z Γ R)
theorem js_setIP {x : Str} {p0 tpos : Pos} {E : α → OP} {xs : List α} {kp : Nat} {vp : V} {mv : Option α} {mi : Option Int} (i : Nat) (h : JN S e Γ mv E) (hb : JN S b Γ mi fun z => sh (intS z)) (hi : Γ[i]? = some (some (pinO E kp vp xs)) := by rfl) (hN : S.N[i]? = some x := by rfl) (hv : Vis S.sc x := by first | exact Or.inl rfl | exact Or.inr (Or.inl rfl) | exact Or.inr (Or.inr rfl))
    (hd : (x == ("__debug__" : Str)) = false := by decide) (hcd : (x == ("__classdict__" : Str)) = false := by decide)
    (ha : ∀ env v, assign (.Subscript (.Name x p0) b tpos) env v = (do
      let ov ← holding [v] (eval (.Name x p0) env)
      let iv ← holding [v, ov] (eval b env)
      standAt tpos
      holding [v, ov, iv] (setItem ov iv v)
      release [v, ov, iv] []) := by intro _ _; rfl) (hs : ∀ env, swapsWithSole [.Subscript (.Name x p0) b tpos] e pos.line env = pure false := by intro _; rfl) (hw : ∀ env, swappedStores [.Subscript (.Name x p0) b tpos] e env = pure none := by intro _; rfl)
    (h1 : ∀ env, (assignEach [.Subscript (.Name x p0) b tpos] env).map (·.2) = [assign (.Subscript (.Name x p0) b tpos) env] := by intro _; rfl) :
    JS S (.Assign [.Subscript (.Name x p0) b tpos] e pos) Γ (mv.bind fun v => mi.bind fun k => setAt xs k v) fun ys => .nx (Γ.set i (some (lstO E ys))) := fun σ W F sta z hz Ed kk => by
  obtain ⟨y, k, m1, m2, m3⟩ := run2 hz
  obtain ⟨j, j1, j2⟩ := run1 (f := fun j => some (xs.set j y)) m3
  cases j2
  refine ⟨tAsg (tOf S e) (gSub (tVar i) (tOf S b) rSetL), fun X hX => ps_asg (peO hX) (pg_sub (pe_var (by rw [hX.N]; exact hN) (visS hv hX) hd hcd) (peO hX) set_list (ha _)) (hs _) (hw _) (h1 _), ?_⟩
  refine h σ W F sta y m1 _ fun u W1 Fv ext fr fp r => ?_
  have sta1 := sta.ext ext
  obtain ⟨v, F1, F2, a1, a2, a3, a4⟩ := sta1.hold.at hi
  obtain ⟨p, vs, G2, rfl, b2, rfl, b4⟩ := a2.1
  refine ⟨.ref p, a1, ?_⟩
  refine hb σ W1 F sta1 k m2 _ fun t W2 _ ext2 _ _ r2 => ?_
  obtain ⟨_, rfl⟩ := r2
  have sta2 := sta1.ext ext2
  obtain ⟨v', F1', F2', c1, c2, c3, c4⟩ := sta2.hold.at hi
  have ev : v' = .ref p := by rw [a1] at c1; exact (Option.some.inj (Option.some.inj c1)).symm
  subst ev
  obtain ⟨p', vs', G2', e1, d2, rfl, d4⟩ := c2.1
  cases e1
  have hB : W2.B p = none := (sta2.fp.perm c3).fr p (by simp)
  have hx : xs[j]? ≠ none := by
    have := (ixN_seq j1).2.1
    rw [List.getElem?_eq_getElem this]
    exact Option.some_ne_none _
  obtain ⟨y0, hy0⟩ := Option.ne_none_iff_exists'.mp hx
  obtain ⟨w0, K1, K2, k1, k2, k3, k4⟩ := d4.at hy0
  have q : FpOk W2 (F ++ Fv) := (sta.fp.fresh ext fp fr).ext ext2
  have q2 : FpOk W2 (((p :: G2') ++ F2') ++ Fv) := q.perm (List.Perm.append_right Fv c3)
  have fpA : FpOk W2 ((p :: G2') ++ Fv) := by
    refine FpOk.left (F' := F2') (q2.perm ?_)
    rw [List.append_assoc, List.append_assoc]
    exact List.Perm.append_left _ List.perm_append_comm
  have nP : ∀ a ∈ G2' ++ Fv, a ≠ p := fun a ha z => (List.nodup_cons.mp fpA.nd).1 (z ▸ ha)
  have r' : (E y).C ⟨upd W2.H p (.lst (vs'.set j u)), W2.B⟩ u Fv := by
    refine OP.loc _ (OP.ext _ r ext2 fp) (fun _ _ h => h) fun a ha => ?_
    show upd W2.H p _ a = W2.H a
    exact upd_ne (nP a (List.mem_append_right _ ha))
  obtain ⟨G', g1, g2⟩ := k4 ⟨upd W2.H p (.lst (vs'.set j u)), W2.B⟩ y u Fv (fun _ _ h => h) (fun a ha => by
    show upd W2.H p _ a = W2.H a
    exact upd_ne (nP a (List.mem_append_left _ (k3.mem_iff.mpr (List.mem_append_right _ ha))))) r'
  refine ⟨p, vs', k, j, rfl, rfl, d2, by rw [d4.len]; exact j1, ?_⟩
  have fpB : FpOk W2 (p :: G') := by
    refine FpOk.left (F' := K1) (fpA.perm ?_)
    refine List.Perm.cons p ?_
    refine (List.Perm.append_right Fv k3).trans ?_
    refine List.Perm.trans ?_ (List.Perm.append_right K1 g2.symm)
    rw [List.append_assoc]
    refine List.perm_append_comm.trans ?_
    refine List.Perm.append_right K1 ?_
    exact List.perm_append_comm
  obtain ⟨F', s', stp⟩ := sta_own (W' := ⟨upd W2.H p (.lst (vs'.set j u)), W2.B⟩) (F1' := p :: G') (o' := lstO E (xs.set j y)) Fv sta2 q c1 c3 c4 (wr_ok ext2.ok hB) rfl (fun a ha _ => upd_ne fun z => ha (z ▸ List.mem_cons_self)) wr_al
    ⟨fpB.nd, fun a ha => wr_al a (fpB.al a ha), fpB.fr⟩ (fun a ha => by
      rcases List.mem_cons.mp ha with z | z
      · exact .inl (z ▸ List.mem_cons_self)
      · rcases List.mem_append.mp (g2.mem_iff.mp z) with z | z
        · exact .inr (.inl z)
        · exact .inl (List.mem_cons_of_mem _ (k3.mem_iff.mpr (List.mem_append_right _ z)))) ⟨p, vs'.set j u, G', rfl, upd_same, rfl, g1⟩
  have ext02 := ext.trans ext2
  exact kk σ _ F' Keep.refl ((ext02.stp fr).trans stp) s'
end
def popL (xs : List α) : Option (α × List α) := (xs[xs.length - 1]?).bind fun x => some (x, xs.dropLast)
theorem each_drop {E : α → SP} {B : Hp} {vs : List V} {xs : List α} (h : Each E B vs xs) : Each E B vs.dropLast xs.dropLast := by
  rw [List.dropLast_eq_take, List.dropLast_eq_take, h.len]
  exact h.take _
section
variable {S : Stc} {Γ : Ctx} {pos : Pos}
/-- xs.reverse() -/
theorem js_rev {x : Str} {p0 apos cpos spos : Pos} {E : α → SP} {xs : List α} (i : Nat) (hi : Γ[i]? = some (some (lstO (fun y => sh (E y)) xs)) := by rfl) (hN : S.N[i]? = some x := by rfl) (hv : Vis S.sc x := by first | exact Or.inl rfl | exact Or.inr (Or.inl rfl) | exact Or.inr (Or.inr rfl))
    (hd : (x == ("__debug__" : Str)) = false := by decide) (hcd : (x == ("__classdict__" : Str)) = false := by decide)
    (hbase : ∀ env, attributeBase (.Name x p0) "reverse" env (eval (.Name x p0) env) = eval (.Name x p0) env := by intro _; rfl)
    (hline : (apos.endLine == cpos.line) = true := by rfl) (hsw : ∀ env, swapsWith (.Call (.Attribute (.Name x p0) "reverse" apos) [] [] cpos) none spos.line env = pure false := by intro _; rfl) :
    JS S (.Expr (.Call (.Attribute (.Name x p0) "reverse" apos) [] [] cpos) spos) Γ (some xs.reverse) fun ys => .nx (Γ.set i (some (lstO (fun y => sh (E y)) ys))) := fun σ W F sta z hz Ed k => by
  cases hz
  refine ⟨tDrop (tBM0 S.K "list" rReverse (tVar i)), fun X hX => ps_expr (hX.K ▸ pe_bm0 PySem.F.plainAttrs_list PySem.F.slot_list_reverse PySem.F.type_list_reverse mt_reverse (pe_var (by rw [hX.N]; exact hN) (visS hv hX) hd hcd) (hbase _) hline) (hsw _), ?_⟩
  obtain ⟨v, F1, F2, a1, a2, a3, a4⟩ := sta.hold.at hi
  obtain ⟨p, vs, G2, rfl, b2, rfl, b4⟩ := id a2
  obtain ⟨rfl, b5⟩ := b4.each
  refine ⟨.ref p, a1, .inl ⟨rfl, vs, .inl (.inl b2)⟩, p, vs, rfl, rfl, b2, ?_⟩
  have fpA := (sta.fp.perm a3).left
  have hB : W.B p = none := fpA.fr p List.mem_cons_self
  obtain ⟨F', s', stp⟩ := sta_own (W' := ⟨upd W.H p (.lst vs.reverse), W.B⟩) (F1' := [p]) (o' := lstO (fun y => sh (E y)) xs.reverse) [] sta (by rw [List.append_nil]; exact sta.fp) a1 a3 a4 (wr_ok sta.ok hB) rfl (fun b hb _ => upd_ne fun z => hb (z ▸ List.mem_cons_self)) wr_al ⟨fpA.nd, fun b hb => wr_al b (fpA.al b hb), fpA.fr⟩ (fun b hb => .inl hb) ⟨p, vs.reverse, [], rfl, upd_same, rfl, Owns.of_each b5.rev⟩
  rw [List.append_nil] at stp
  exact k σ _ F' Keep.refl stp s'
end
section
variable {S : Stc} {Γ : τ → Ctx} {s : τ} {a b c e : Expr} {pos : Pos}
theorem je_pop0H {x : Str} {p0 apos p2 : Pos} {kk p'} {ps : τ → List OP} {E : α → SP} {j : Int} (i k : Nat) (get : τ → List α) (put : τ → List α → τ) (hi : ∀ s, (Γ s)[i]? = some (some (hetO (ps s))) := by intro _; rfl) (hk : ∀ s, (ps s)[k]? = some (lstO (fun y => sh (E y)) (get s)) := by intro _; rfl)
    (hp : ∀ s u, (Γ s).set i (some (hetO ((ps s).set k (lstO (fun y => sh (E y)) u)))) = Γ (put s u) := by intro _ _; rfl) (hj : j = (k : Int) := by rfl)
    (hN : S.N[i]? = some x := by rfl) (hv : Vis S.sc x := by first | exact Or.inl rfl | exact Or.inr (Or.inl rfl) | exact Or.inr (Or.inr rfl)) (hd : (x == ("__debug__" : Str)) = false := by decide) (hcd : (x == ("__classdict__" : Str)) = false := by decide)
    (hbase : ∀ env, attributeBase (.Subscript (.Name x p0) (.Constant (.int j) kk p') p2) "pop" env (eval (.Subscript (.Name x p0) (.Constant (.int j) kk p') p2) env) = eval (.Subscript (.Name x p0) (.Constant (.int j) kk p') p2) env := by intro _; rfl)
    (hline : (apos.endLine == pos.line) = true := by rfl) :
    JE S (.Call (.Attribute (.Subscript (.Name x p0) (.Constant (.int j) kk p') p2) "pop" apos) [] [] pos) Γ s ((popL (get s)).bind fun r => some (r.1, put s r.2)) fun y => sh (E y) := fun σ W F sta z hz Q kq => by
  obtain ⟨r, h3, h4⟩ := run1 (f := fun r : α × List α => some (r.1, put s r.2)) hz
  cases h4
  unfold popL at h3
  · obtain ⟨y, h5, h6⟩ := run1 (f := fun y : α => some (y, (get s).dropLast)) h3
    cases h6
    refine ⟨tBM0 S.K "list" rPop (tOp (rIxL S.K) (tVar i) (tC (.int j))), fun X hX => hX.K ▸ pe_bm0 PySem.F.plainAttrs_list PySem.F.slot_list_pop PySem.F.type_list_pop mt_pop (pe_ix (hX.K ▸ oIxL X hX) (pe_var (by rw [hX.N]; exact hN) (visS hv hX) hd hcd) pe_int (fun _ _ => rfl)) (hbase _) hline, ?_⟩
    obtain ⟨v, F1, F2, a1, a2, a3, a4⟩ := sta.hold.at (hi s)
    obtain ⟨a, vs, G2, rfl, b2, rfl, b4⟩ := id a2
    obtain ⟨w, K1, K2, k1, k2, k3, k4⟩ := b4.at (hk s)
    obtain ⟨p, us, L2', rfl, l2, rfl, l4⟩ := k2
    refine ⟨.ref a, a1, a, vs, j, .ref p, rfl, rfl, .inl (.inl b2), by rw [hj]; exact atI_k k1, ?_⟩
    refine ⟨.inl ⟨rfl, us, .inl (.inl l2)⟩, ?_⟩
    obtain ⟨rfl, o5⟩ := l4.each
    have b4' := b4
    have n3 := k3
    have n4 := k4
    have fpA := (sta.fp.perm a3).left
    have hB : W.B p = none := fpA.fr p (List.mem_cons_of_mem _ (n3.mem_iff.mpr (by simp)))
    have hne : a ≠ p := fun z => (List.nodup_cons.mp fpA.nd).1 (z ▸ n3.mem_iff.mpr (by simp))
    have hK : ∀ b ∈ K2, b ≠ p := fun b hb z => by
      have nd := (n3.nodup_iff.mp (List.nodup_cons.mp fpA.nd).2)
      exact (List.nodup_cons.mp nd).1 (z ▸ hb)
    obtain ⟨t, t1, t2⟩ := o5.get h5
    have hlen := o5.len
    refine ⟨p, us, t, rfl, rfl, l2, by rw [hlen]; exact t1, ?_⟩
    have rN : (lstO (fun x => sh (E x)) ((get s).dropLast)).C ⟨upd W.H p (.lst (us.dropLast)), W.B⟩ (.ref p) [p] :=
      ⟨p, _, [], rfl, upd_same, rfl, Owns.of_each (each_drop o5)⟩
    obtain ⟨G', g1, g2⟩ := n4 ⟨upd W.H p (.lst (us.dropLast)), W.B⟩ (lstO (fun x => sh (E x)) ((get s).dropLast)) (.ref p) [p] (fun _ _ h => h) (fun b hb => upd_ne (hK b hb)) rN
    have hset : vs.set k (.ref p) = vs := by
      refine List.ext_getElem? fun n => ?_
      by_cases z : k = n
      · subst z
        rw [k1, List.getElem?_set_self (List.getElem?_eq_some_iff.mp k1).1]
      · rw [List.getElem?_set_ne z]
    rw [hset] at g1
    have pG : (a :: G').Perm (a :: G2) := List.Perm.cons a (g2.trans n3.symm)
    have fpB := fpA.perm pG.symm
    obtain ⟨F', s', stp⟩ := sta_own (W' := ⟨upd W.H p (.lst (us.dropLast)), W.B⟩) (F1' := a :: G') (o' := hetO ((ps s).set k (lstO (fun x => sh (E x)) ((get s).dropLast)))) [] sta (by rw [List.append_nil]; exact sta.fp) a1 a3 a4 (wr_ok sta.ok hB) rfl
      (fun b hb _ => upd_ne fun z => hb (z ▸ List.mem_cons_of_mem _ (n3.mem_iff.mpr (by simp)))) wr_al ⟨fpB.nd, fun b hb => wr_al b (fpB.al b hb), fpB.fr⟩ (fun b hb => .inl (pG.mem_iff.mp hb)) ⟨a, vs, G', rfl, (upd_ne hne).trans b2, rfl, g1⟩
    rw [List.append_nil] at stp
    rw [hp] at s'
    refine kq t _ F' [] (by rw [List.append_nil]; exact stp) s' (by rw [List.append_nil]; exact s'.fp) ⟨rfl, t2⟩
end
end CC
set_option maxHeartbeats 4000000
/-! len of a tuple of several kinds, `is` of truths, a list handed back that takes over a local list. -/
namespace CC
open PySem PySem.Spec L2
open PyProof.Rows hiding St
variable {α β γ δ τ υ ω ρ ε κ : Type}
section
variable {S : Stc} {Γ Δ : Ctx} {a b c e : Expr} {es : List Expr} {rest : List Stmt} {pos : Pos}
theorem len_ht {P : α → SP} {ps : α → List SP} {n : Nat} {m : Option α} {p : Pos} (hm : S.mg "len" = none) (h : JN S a Γ m fun x => sh (P x)) (hP : ∀ x, P x = htupS (ps x) := by intro _; rfl) (hn : ∀ x, (ps x).length = n := by intro _; rfl) (hg : GlS S "len" := by rfl) (hs : ∀ env, starEach [a] env = [(false, eval a env)] := by intro _; rfl) : JN S (.Call (.Name "len" p) [a] [] pos) Γ (m.bind fun _ => some (n : Int)) fun z => sh (intS z) :=
  jn_b1 (r := fun xs H Q => ∃ p ys, xs = [.ref p] ∧ (SqL S.K H p ys ∨ SqT S.K H p ys) ∧ Q (.int ys.length) H) (f := fun _ : α => some (n : Int)) (fun X hX => hX.K ▸ call_len_seq) (fun W x v z ok hh e Q k => by
    cases e
    rw [hP] at hh
    obtain ⟨p, vs, rfl, q2, q3⟩ := hh
    exact ⟨p, vs, rfl, .inr (.inl (.inl (ok p _ q2))), k.val ok (by rw [q3.len, hn]; rfl)⟩) hm h hg PySem.boot_len (by decide) (by decide) hs
theorem oIsB : ∀ X, S.In X → OpR X (compareOp .Is) rIsB := fun _ _ => op_isBl
theorem ov_isB : OpV rIsB boolS boolS (fun x y => some (decide (x = y))) fun z => sh (boolS z) := fun W x y v u z ok hx hy e Q k => by
  cases e
  cases hx
  cases hy
  exact ⟨x, y, rfl, rfl, k.val ok rfl⟩
/-- the items of a list, one of them what the slot i owned -/
def JAM (S : Stc) (es : List Expr) (Γ : Ctx) (i : Nat) (m : Option α) (O : α → List OP) : Prop :=
  ∀ σ W F, Sta Γ σ W F → ∀ x, m = some x → ∀ Q : List V → Hp → Prop, (∀ vs W' F' Fv, Stp W F W' (F' ++ Fv) → Sta (Γ.set i none) σ W' F' → FpOk W' (F' ++ Fv) → HetO W' vs (O x) Fv → vs.length = (O x).length → Q vs W'.H) → taOf S es σ W.H Q
theorem jam_here {x : Str} {p0 : Pos} {R : γ → OP} {r : γ} {m : Option α} {G : α → List SP} (i : Nat) (ha : JA S es Γ m G) (hi : Γ[i]? = some (some (R r)) := by rfl) (hN : S.N[i]? = some x := by rfl) (hv : Vis S.sc x := by first | exact Or.inl rfl | exact Or.inr (Or.inl rfl) | exact Or.inr (Or.inr rfl))
    (hd : (x == ("__debug__" : Str)) = false := by decide) (hcd : (x == ("__classdict__" : Str)) = false := by decide) (hs : ∀ env, starEach (.Name x p0 :: es) env = (false, eval (.Name x p0) env) :: starEach es env := by intro _; rfl) : JAM S (.Name x p0 :: es) Γ i m fun y => R r :: (G y).map sh := fun σ W F sta y hy Q k => by
  obtain ⟨v, F1, F2, h1, h2, h3, h4⟩ := sta_take sta hi
  have fp := sta.fp.perm h3
  refine ⟨tCons (tVar i) (taOf S es), fun X hX => pa_cons (pe_var (by rw [hX.N]; exact hN) (visS hv hX) hd hcd) (paO hX) (hs _), v, h1, ?_⟩
  refine ha σ W F sta y hy _ fun vs W' ext hh => ?_
  refine k (v :: vs) W' F2 F1 (ext.stp0.perm fun b hb => h3.mem_iff.mpr hb) (h4.ext ext) (fp.ext ext) ⟨F1, [], (List.append_nil _).symm, (R r).ext h2 ext fp.right, HetO.of_hts hh⟩ (by rw [List.length_cons, List.length_cons, List.length_map, hh.len])
theorem jam_cons {ma : Option α} {mb : Option β} {E : α → SP} {O : β → List OP} {i : Nat} (h : JN S e Γ ma fun x => sh (E x)) (hb : JAM S es Γ i mb O) (hs : ∀ env, starEach (e :: es) env = (false, eval e env) :: starEach es env := by intro _; rfl) : JAM S (e :: es) Γ i (ma.bind fun x => mb.bind fun y => some (x, y)) fun z => sh (E z.1) :: O z.2 := fun σ W F sta z hz Q k => by
  obtain ⟨x, y, h1, h2, h3⟩ := run2 hz
  cases h3
  refine ⟨tCons (tOf S e) (taOf S es), fun X hX => pa_cons (peO hX) (paO hX) (hs _), h σ W F sta x h1 _ fun v W1 Fv ext _ _ r => ?_⟩
  obtain ⟨rfl, r⟩ := r
  refine hb σ W1 F (sta.ext ext) y h2 _ fun vs W2 F2 Fv stp sa fp hh hl => ?_
  exact k (v :: vs) W2 F2 Fv (ext.stp0.trans stp) sa fp ⟨[], Fv, rfl, ⟨rfl, SP.mono _ r stp.b⟩, hh⟩ (by rw [List.length_cons, List.length_cons, hl])
/-- return [.., x, ..], what x owned goes along -/
theorem jb_retL {lpos : Pos} {m : Option α} {O : α → List OP} {T : γ → OP} {g : α → γ} {i : Nat} (w : Weak (Γ.set i none) Δ) (h : JAM S es Γ i m O) (hT : ∀ x, hetO (O x) = T (g x) := by intro _; rfl) (hl : ∀ x, (O x).length ≤ 1000 := by intro _; exact Nat.le_of_ble_eq_true rfl) : JB S (.Return (some (.List es lpos)) pos :: rest) Γ (m.bind fun x => some (g x)) fun y => .rt Δ (T y) := fun σ W F sta z hz E k => by
  obtain ⟨x, h1, h2⟩ := run1 hz
  cases h2
  refine ⟨tSeq (tRet (tLst (taOf S es))) tNever, fun X hX => pss_cons (ps_ret (pe_lst (paO hX))) pss_never, ?_⟩
  refine h σ W F sta x h1 _ fun vs W1 F1 Fv stp sa fp hh hlen => ?_
  refine ⟨Nat.le_trans (by rw [hlen]; exact hl x) (by decide), fun q hq => ?_⟩
  have e3 : Ext W1 ⟨upd W1.H q (.lst vs), W1.B⟩ := Ext.new stp.ok hq
  have nq : ∀ b ∈ F1 ++ Fv, b ≠ q := fun b hb z => fp.al b hb (z ▸ hq)
  have hh3 : HetO ⟨upd W1.H q (.lst vs), W1.B⟩ vs (O x) Fv := HetO.loc (W := W1) (W' := ⟨upd W1.H q (.lst vs), W1.B⟩) (fun _ _ h => h) hh fun b hb => upd_ne (nq b (List.mem_append_right _ hb))
  obtain ⟨F', s', sub⟩ := (sa.ext e3).weak w
  have fp3 := fp.ext e3
  have fq : FpOk ⟨upd W1.H q (.lst vs), W1.B⟩ (F' ++ (q :: Fv)) := by
    have f1 : FpOk ⟨upd W1.H q (.lst vs), W1.B⟩ (q :: Fv) := ⟨List.nodup_cons.mpr ⟨fun z => nq q (List.mem_append_right _ z) rfl, fp3.right.nd⟩, fun b hb => by
      rcases List.mem_cons.mp hb with z | z
      · rw [z]
        show upd W1.H q _ q ≠ none
        rw [upd_same]
        exact fun z => nomatch z
      · exact fp3.right.al b z, fun b hb => by
      rcases List.mem_cons.mp hb with z | z
      · rw [z]
        exact stp.ok.back hq
      · exact fp3.right.fr b z⟩
    refine s'.fp.app f1 fun b hb hb2 => ?_
    rcases List.mem_cons.mp hb2 with z | z
    · exact nq b (List.mem_append_left _ (sub b hb)) z
    · exact fp.disj b (sub b hb) z
  refine k (.ref q) σ ⟨upd W1.H q (.lst vs), W1.B⟩ F' (q :: Fv) Keep.refl ⟨stp.ok.trans e3.h, stp.b, fun b o h1 h2 => e3.h b o (stp.h b o h1 h2), fun b hb => e3.h.ne (stp.al b hb), stp.fr, fun b hb => ?_⟩ s' fq (by rw [← hT]; exact ⟨q, vs, Fv, rfl, upd_same, rfl, hh3⟩)
  rcases List.mem_append.mp hb with z | z
  · exact stp.fp b (List.mem_append_left _ (sub b z))
  · rcases List.mem_cons.mp z with z | z
    · right
      rw [z]
      cases h5 : W.H q with
      | none => rfl
      | some o => exact absurd hq (stp.al q (by rw [h5]; exact fun z => nomatch z))
    · exact stp.fp b (List.mem_append_right _ z)
end
section
variable {S : Stc} {Γ : τ → Ctx} {s : τ} {a : Expr} {pos : Pos}
/-- the item at a written place, behind a change of state -/
theorem je_ixH {ps : α → List SP} {E : β → SP} {g : α → β} {m : Option (α × τ)} {j : Int} {kk p'} (k : Nat) (h : JE S a Γ s m fun x => sh (hlstS (ps x))) (hk : ∀ x, (ps x)[k]? = some (E (g x)) := by intro _; rfl) (hj : j = (k : Int) := by rfl) :
    JE S (.Subscript a (.Constant (.int j) kk p') pos) Γ s (m.bind fun q => some (g q.1, q.2)) fun z => sh (E z) := JE.of_sh fun σ W F sta z hz Q kq => by
  obtain ⟨x, h1, h2⟩ := run1 hz
  cases h2
  refine ⟨tOp (rIxL S.K) (tOf S a) (tC (.int j)), fun X hX => pe_ix (oIxL X hX) (peO hX) pe_int (fun _ _ => rfl), h.sh sta h1 fun v W' F' stp sa r => ?_⟩
  obtain ⟨p, vs, rfl, q2, q3⟩ := r
  obtain ⟨u, u1, u2⟩ := q3.get (hk x.1)
  exact ⟨p, vs, j, u, rfl, rfl, .inl (.inl (sa.ok p _ q2)), by rw [hj]; exact atI_k u1, kq u W' F' stp sa u2⟩
theorem je_ixT {ps : α → List SP} {E : β → SP} {g : α → β} {m : Option (α × τ)} {j : Int} {kk p'} (k : Nat) (h : JE S a Γ s m fun x => sh (htupS (ps x))) (hk : ∀ x, (ps x)[k]? = some (E (g x)) := by intro _; rfl) (hj : j = (k : Int) := by rfl) :
    JE S (.Subscript a (.Constant (.int j) kk p') pos) Γ s (m.bind fun q => some (g q.1, q.2)) fun z => sh (E z) := JE.of_sh fun σ W F sta z hz Q kq => by
  obtain ⟨x, h1, h2⟩ := run1 hz
  cases h2
  refine ⟨tOp (rIxT S.K) (tOf S a) (tC (.int j)), fun X hX => pe_ix (oIxT X hX) (peO hX) pe_int (fun _ _ => rfl), h.sh sta h1 fun v W' F' stp sa r => ?_⟩
  obtain ⟨p, vs, rfl, q2, q3⟩ := r
  obtain ⟨u, u1, u2⟩ := q3.get (hk x.1)
  exact ⟨p, vs, j, u, rfl, rfl, .inl (.inl (sa.ok p _ q2)), by rw [hj]; exact atI_k u1, kq u W' F' stp sa u2⟩
end
end CC
set_option maxHeartbeats 400000
/-! zip of a tuple and a list; tuple * int in the judgements. -/
namespace CC
open PySem PySem.Spec L2
open PyProof.Rows hiding St
open PySem (Draws Begins begins_tuple begins_list ZipSep2 IsZip IsPair ZipApart)
section
variable {prog : Program} {w : World} {A : Around}
/-- an iterator where it stands now, ended or not -/
theorem drawT (hh : A.handled = none) {it t : Addr} (hne : t ≠ it) {its : Array Value} {h : Heap} {i : Nat} (a1 : h.IsTupleIter it t i) (a2 : h.IsTuple t its) : ∃ n P St, Draws prog w A it [it, t] n P St ∧ St i h ∧ i ≤ n ∧ (its[i]? = none → i = n) := by
  have D := Draws.tuple (prog := prog) (w := w) hh it t hne its
  by_cases e : i < its.size
  · exact ⟨_, _, _, D, ⟨a1, a2⟩, Nat.le_of_lt e, fun z => by rw [Array.getElem?_eq_getElem e] at z; cases z⟩
  · refine ⟨i, fun _ _ => False, fun j g => j = i ∧ (g.IsTupleIter it t j ∧ g.IsTuple t its), ⟨fun j g st => D.live j g st.2, fun j g g' st k => ⟨st.1, D.frame j g g' st.2 k⟩, fun j s Q E hj st _ => absurd st.1 (by omega), fun s Q E st hE => ?_⟩, ⟨rfl, a1, a2⟩, Nat.le_refl _, fun _ => rfl⟩
    exact wpAny_nextOf_tuple_end hh st.2.1 st.2.2 (Array.getElem?_eq_none (by omega)) hE
theorem drawL (hh : A.handled = none) {it t : Addr} (hne : t ≠ it) {its : Array Value} {h : Heap} {i : Nat} (a1 : h.IsListIter it t i) (a2 : h.IsList t its) : ∃ n P St, Draws prog w A it [it, t] n P St ∧ St i h ∧ i ≤ n ∧ (its[i]? = none → i = n) := by
  have D := Draws.list (prog := prog) (w := w) hh it t hne its
  by_cases e : i < its.size
  · exact ⟨_, _, _, D, ⟨a1, a2⟩, Nat.le_of_lt e, fun z => by rw [Array.getElem?_eq_getElem e] at z; cases z⟩
  · refine ⟨i, fun _ _ => False, fun j g => j = i ∧ (g.IsListIter it t j ∧ g.IsList t its), ⟨fun j g st => D.live j g st.2, fun j g g' st k => ⟨st.1, D.frame j g g' st.2 k⟩, fun j s Q E hj st _ => absurd st.1 (by omega), fun s Q E st hE => ?_⟩, ⟨rfl, a1, a2⟩, Nat.le_refl _, fun _ => rfl⟩
    exact wpAny_nextOf_list_end hh st.2.1 st.2.2 (Array.getElem?_eq_none (by omega)) hE
end
/-- the tuple at a and the list at b, the items in new pairs -/
def ItzM (K : PySem.W.Frag) (a b : Addr) : It :=
  ⟨fun i H => ∃ (xs ys : List V) (x y : V), (SqT K H a xs ∧ xs[i]? = some x) ∧ SqL K H b ys ∧ ys[i]? = some y,
    fun i H v H' => ∃ T x y, (v = .ref T ∧ H T = none ∧ H' = upd H T (.tup [x, y])) ∧ (∀ xs, SqT K H a xs → xs[i]? = some x) ∧ ∀ ys, SqL K H b ys → ys[i]? = some y,
    fun i H => ∃ xs ys : List V, (SqT K H a xs ∧ SqL K H b ys) ∧ (xs.length ≤ i ∨ ys.length ≤ i)⟩
theorem mem5 {c z TI TO i1 i2 : Addr} (h : c ∈ [z, TI, TO, i1, i2]) : c = z ∨ c = TI ∨ c = TO ∨ c = i1 ∨ c = i2 := by simpa using h
theorem sep_of {a b z TI TO i1 i2 : Addr} (D : ZipApart z TI TO i1 i2 a b) : ZipSep2 z TI TO i1 i2 [i1, a] [i2, b] where
  TIz := D.TIz
  TOz := D.TOz
  TITO := D.TITO
  TIi1 := D.TIi1
  mem1 := List.mem_cons_self
  zf1 := fun h => by
    rcases List.mem_cons.mp h with e | e
    · exact D.i1z e.symm
    · exact D.l1z (List.mem_singleton.mp e).symm
  Tf1 := fun h => by
    rcases List.mem_cons.mp h with e | e
    · exact D.TOi1 e
    · exact D.l1TO (List.mem_singleton.mp e).symm
  TIi2 := D.TIi2
  mem2 := List.mem_cons_self
  zf2 := fun h => by
    rcases List.mem_cons.mp h with e | e
    · exact D.i2z e.symm
    · exact D.l2z (List.mem_singleton.mp e).symm
  Tf2 := fun h => by
    rcases List.mem_cons.mp h with e | e
    · exact D.TOi2 e
    · exact D.l2TO (List.mem_singleton.mp e).symm
  sep1_2 := fun h => by
    rcases List.mem_cons.mp h with e | e
    · exact D.i12 e
    · exact D.l2i1 (List.mem_singleton.mp e).symm
  sep2_1 := fun h => by
    rcases List.mem_cons.mp h with e | e
    · exact D.i12 e.symm
    · exact D.l1i2 (List.mem_singleton.mp e).symm
def StM (z TI TO i1 i2 a b : Addr) (i : Nat) (h : Heap) : Prop := (IsZip h z TI TO .none ∧ IsPair h TI (.ref i1) (.ref i2)) ∧ (∃ x y, IsPair h TO x y) ∧ h.IsTupleIter i1 a i ∧ h.IsListIter i2 b i
theorem turn_zipM {P : Program} {w : World} {K : PySem.W.Frag} {elts : List Expr} {kk : Nat} {tpos : Pos} {a b z TI TO i1 i2 : Addr} (D : ZipApart z TI TO i1 i2 a b) : Turn P w K (.Tuple elts kk tpos) (ItzM K a b) [z, TI, TO, i1, i2] z (StM z TI TO i1 i2 a b) where
  mem := List.mem_cons_self
  obj := fun i h st c hc => by
    obtain ⟨⟨q1, q2⟩, ⟨x, y, q3⟩, ⟨o1, e1, _, d1⟩, ⟨o2, e2, _, d2⟩⟩ := st
    rcases mem5 hc with rfl | rfl | rfl | rfl | rfl
    · exact ⟨_, q1, fun v q => nomatch q⟩
    · exact ⟨_, q2, fun v q => nomatch q⟩
    · exact ⟨_, q3, fun v q => nomatch q⟩
    · exact ⟨o1, e1, fun v q => by rw [d1] at q; cases q⟩
    · exact ⟨o2, e2, fun v q => by rw [d2] at q; cases q⟩
  keep := fun i h h' st k => by
    obtain ⟨⟨q1, q2⟩, ⟨x, y, q3⟩, q4, q5⟩ := st
    refine ⟨⟨k z (by simp) _ q1, k TI (by simp) _ q2⟩, ⟨x, y, k TO (by simp) _ q3⟩, q4.at ?_, q5.at ?_⟩
    · exact fun o q => k i1 (by simp) o q
    · exact fun o q => k i2 (by simp) o q
  item := by
    intro X hP hw hK hc i pins s σ H E I hf st hg
    subst hP hw hK
    obtain ⟨⟨q1, q2⟩, ⟨x0, y0, q3⟩, q4, q5⟩ := st
    obtain ⟨xs, ys, x, y, ⟨sx, hx⟩, sy, hy⟩ := hg
    obtain ⟨its, rv, p, _⟩ := I.tuple sx
    obtain ⟨jts, rw', p', _⟩ := I.list sy
    obtain ⟨u, hu, ru⟩ := rv.get hx
    obtain ⟨v, hv, rv2⟩ := rw'.get hy
    have zl : z < s.heap.objs.size := Heap.lt_size q1
    have hh : X.A.in1.handled = none := I.ok.hd hc
    have pT : s.heap.IsTuple a its.toArray := p
    have lu : i < its.toArray.size := by have := (List.getElem?_eq_some_iff.mp hu).1; simpa using this
    have lv : i < jts.toArray.size := by have := (List.getElem?_eq_some_iff.mp hv).1; simpa using this
    refine wpAny_pyNext_zipD2_item (sep_of D) (Draws.tuple hh i1 a D.l1i1 its.toArray) (Draws.list hh i2 b D.l2i2 jts.toArray) q1 q2 q3 ⟨q4, pT⟩ ⟨q5, p'.isList⟩ lu lv fun x1 x2 h' tk g1 g2 z' TO' s1 s2 hT hsz hk => ?_
    have e1 : x1 = u := by
      have g1 : its.toArray[i]? = some x1 := g1
      simp only [List.getElem?_toArray] at g1
      rw [hu] at g1
      exact (Option.some.inj g1).symm
    have e2 : x2 = v := by
      have g2 : jts.toArray[i]? = some x2 := g2
      simp only [List.getElem?_toArray] at g2
      rw [hv] at g2
      exact (Option.some.inj g2).symm
    subst e1 e2
    refine ⟨_, rfl, wpAny_letOwnedTupleGo_zip (s := { s with heap := h', toks := tk }) z' fun h2 z2 sb => ?_⟩
    have hT2 := (sb.2 _ (Nat.ne_of_gt zl)).trans hT
    have new : ObjOk X.prog X.w (upd H s.heap.objs.size (.tup [x, y])) h2 s.heap.objs.size (.tup [x, y]) := ⟨by show 2 ≤ sizeLine; decide, [x1, x2], .cons ru (.cons rv2 .nil), ⟨_, hT2, rfl, _, rfl⟩⟩
    have out : ∀ c o, c ∉ [z, TI, TO, i1, i2] → s.heap.get? c = some o → h2.get? c = some o := fun c o hb q => (sb.2 c (fun e => hb (by simp [e]))).trans (hk c o (fun e => hb (by simp [e])) (fun e => hb (by simp [e])) (fun e => hb (by simp [e])) (fun e => hb (by simp [e])) q)
    have I1 : Inv X pins σ (upd H s.heap.objs.size (.tup [x, y])) { s with heap := h2, toks := tk } := I.turnedNew (ch := [z, TI, TO, i1, i2]) out hf (Nat.le_refl _) new
    refine ⟨.ref s.heap.objs.size, _, I1, rfl, ⟨_, x, y, ⟨rfl, I.hok.fresh (Nat.le_refl _), rfl⟩, fun l hl => I.tuple_inj hl sx ▸ hx, fun l hl => I.list_inj hl sy ▸ hy⟩, ⟨⟨z2, ?_⟩, ⟨x1, x2, ?_⟩, ?_, ?_⟩, fun c hcm => ?_⟩
    · exact (sb.2 _ D.TIz).trans (hk _ _ D.TIz D.TITO D.TIi1 D.TIi2 q2)
    · exact (sb.2 _ D.TOz).trans TO'
    · exact s1.1.at fun o q => (sb.2 _ D.i1z).trans q
    · exact s2.1.at fun o q => (sb.2 _ D.i2z).trans q
    · have lt : c < s.heap.objs.size := by
        rcases mem5 hcm with rfl | rfl | rfl | rfl | rfl
        · exact zl
        · exact Heap.lt_size q2
        · exact Heap.lt_size q3
        · exact Heap.lt_size q4.choose_spec.1
        · exact Heap.lt_size q5.choose_spec.1
      rw [upd_ne (Nat.ne_of_lt lt)]
      exact (hf c hcm).1
  done := by
    intro X hP hw hK hc i pins s σ H E I hf st hg
    subst hP hw hK
    obtain ⟨⟨q1, q2⟩, ⟨x0, y0, q3⟩, q4, q5⟩ := st
    obtain ⟨xs, ys, ⟨sx, sy⟩, hend⟩ := hg
    obtain ⟨its, rv, p, _⟩ := I.tuple sx
    obtain ⟨jts, rw', p', _⟩ := I.list sy
    have l1 := rv.length
    have l2 := rw'.length
    have hh : X.A.in1.handled = none := I.ok.hd hc
    have pT : s.heap.IsTuple a its.toArray := p
    obtain ⟨n1, P1, S1, d1, t1, u1, v1⟩ := drawT (prog := X.prog) (w := X.w) hh D.l1i1 q4 pT
    obtain ⟨n2, P2, S2, d2, t2, u2, v2⟩ := drawL (prog := X.prog) (w := X.w) hh D.l2i2 q5 p'.isList
    have fin : i = n1 ∨ i = n2 := hend.imp (fun e => v1 (by simp; omega)) fun e => v2 (by simp; omega)
    refine wpAny_pyNext_zipD2_end (sep_of D) d1 d2 q1 q2 q3 t1 t2 u1 u2 fin fun h' tk hk => ⟨rfl, ?_⟩
    exact I.turnedL (ch := [z, TI, TO, i1, i2]) (fun c o hb q => hk c o (fun e => hb (by simp [e])) (fun e => hb (by simp [e])) (fun e => hb (by simp [e])) (fun e => hb (by simp [e])) q) hf
  self := fun A i s Q E st h => wpAny_pyIter_zip st.1.1 h
def iZipM (K : PySem.W.Frag) (ta : TA) : TI := fun σ H R => ta σ H fun vs H1 => ∃ a b xs ys, (vs = [.ref a, .ref b] ∧ SqT K H1 a xs ∧ SqL K H1 b ys) ∧ R (ItzM K a b) H1
theorem pi_zipM {X : Cx} {e e2 : Expr} {ta : TA} {p pos tpos : Pos} {elts : List Expr} {kk : Nat} (hg : Gl X "zip") (hm : X.mg "zip" = none) (ha : PA X [e, e2] ta) (hs : starEach [e, e2] X.env = (false, eval e X.env) :: starEach [e2] X.env) (hpl : (backTo pos (starEach [e2] X.env)).any (·.1) = false) : PI X (.Tuple elts kk tpos) (.Call (.Name "zip" p) [e, e2] [] pos) (iZipM X.K ta) := by
  refine ⟨fun pins s σ H R I h => ?_⟩
  refine Call_ (ld_blt I hg hm boot_zip (PyProof.Rows.callWith_type1 (thn (ha.run pos pins s σ H _ I h) fun us s1 ⟨vs, H1, I1, r1, q1⟩ => ?_) hs hpl))
  obtain ⟨a, b, xs, ys, ⟨ev, sx, sy⟩, q⟩ := q1
  subst ev
  cases r1 with
  | cons r rr => cases rr with
    | cons r' rr =>
      cases rr
      cases r
      cases r'
      obtain ⟨its, rv, pp, _⟩ := I1.tuple sx
      obtain ⟨jts, rw', p', _⟩ := I1.list sy
      have pT : s1.heap.IsTuple a its.toArray := pp
      have al : a < s1.heap.objs.size := Heap.lt_size pT.choose_spec.1
      refine zip_begins2 (begins_tuple a its.toArray) (begins_list b jts.toArray) pT p'.isList fun h' g1 g2 g3 g4 g5 _ hk => wpAny_pyIter_zip g1 ?_
      have I2 : Inv X pins σ H1 { s1 with heap := h' } := I1.kept (t' := s1.toks) hk
      have st0 : StM (s1.heap.objs.size + 4) (s1.heap.objs.size + 2) (s1.heap.objs.size + 3) s1.heap.objs.size (s1.heap.objs.size + 1) a b 0 h' := ⟨⟨g1, g2⟩, ⟨_, _, g3⟩, ⟨_, g4, rfl, rfl⟩, ⟨_, g5, rfl, rfl⟩⟩
      have fr : ∀ c, c ∈ [s1.heap.objs.size + 4, s1.heap.objs.size + 2, s1.heap.objs.size + 3, s1.heap.objs.size, s1.heap.objs.size + 1] → L2.FpOk X pins H1 c := fun c hcm => by
        have le : s1.heap.objs.size ≤ c := by
          rcases mem5 hcm with z | z | z | z | z
          · rw [z]; exact Nat.le_add_right _ _
          · rw [z]; exact Nat.le_add_right _ _
          · rw [z]; exact Nat.le_add_right _ _
          · exact Nat.le_of_eq z.symm
          · rw [z]; exact Nat.le_add_right _ _
        exact I1.fpOk le (I1.hok.fresh le)
      exact ⟨s1.heap.objs.size + 4, [s1.heap.objs.size + 4, s1.heap.objs.size + 2, s1.heap.objs.size + 3, s1.heap.objs.size, s1.heap.objs.size + 1], StM (s1.heap.objs.size + 4) (s1.heap.objs.size + 2) (s1.heap.objs.size + 3) s1.heap.objs.size (s1.heap.objs.size + 1) a b, ItzM X.K a b, H1, rfl, I2, turn_zipM (PySem.W.ktu_apart s1.heap.objs.size a b al p'.lt), st0, fr, q⟩
variable {α β γ δ τ υ ω ρ ε : Type}
theorem ok_zipM {K : PySem.W.Frag} {C : Wd → Prop} {p q : Addr} {xs : List α} {ys : List β} {E : α → SP} {G : β → SP} (h : ∀ W1, C W1 → Ex W1.B W1.H ∧ ∃ vs us, (W1.H p = some (.tup vs) ∧ Each E W1.B vs xs) ∧ W1.H q = some (.lst us) ∧ Each G W1.B us ys) : ItOk (ItzM K p q) C (xs.zip ys) (prS E G) := fun W1 c => by
  obtain ⟨ok, vs, us, ⟨h1, h2⟩, h3, h4⟩ := h W1 c
  have sx : SqT K W1.H p vs := .inl (.inl h1)
  have sy : SqL K W1.H q us := .inl (.inl h3)
  refine ⟨fun i x hx => ?_, fun i hi => ⟨vs, us, ⟨sx, sy⟩, ?_⟩⟩
  · obtain ⟨x1, x2⟩ := x
    obtain ⟨g1, g2⟩ := List.getElem?_zip_eq_some.mp hx
    obtain ⟨v, hv, pv⟩ := h2.get g1
    obtain ⟨u, hu, pu⟩ := h4.get g2
    refine ⟨⟨vs, us, v, u, ⟨sx, hv⟩, sy, hu⟩, fun t H' ⟨T, x', y', ⟨e1, e2, e3⟩, e4, e5⟩ => ?_⟩
    have k1 := e4 vs sx
    have k2 := e5 us sy
    rw [hv] at k1
    rw [hu] at k2
    cases k1
    cases k2
    subst e1 e3
    have e2' := Ext.newB ok (o := .tup [v, u]) e2
    exact ⟨⟨upd W1.H T (.tup [v, u]), upd W1.B T (.tup [v, u])⟩, rfl, e2', T, [v, u], rfl, upd_same, SP.mono _ pv e2'.b, SP.mono _ pu e2'.b, trivial⟩
  · rw [List.length_zip, h2.len.symm, h4.len.symm] at hi
    omega
section
variable {S : Stc} {Γ Δ : Ctx} {a b c e tg iter elt : Expr} {es ifs : List Expr} {pos : Pos}
/-- zip of a tuple and a list -/
theorem ji_zipTL {p tpos : Pos} {elts : List Expr} {kk : Nat} {ma : Option (List α)} {mb : Option (List β)} {E : α → SP} {G : β → SP} (hm : S.mg "zip" = none) (h : JN S a Γ ma fun xs => sh (tupS E xs)) (h2 : JN S b Γ mb fun ys => sh (lstS G ys)) (hg : GlS S "zip" := by rfl)
    (hs : ∀ env, starEach [a, b] env = (false, eval a env) :: starEach [b] env := by intro _; rfl) (hs2 : ∀ env, starEach [b] env = [(false, eval b env)] := by intro _; rfl) :
    JI S (.Tuple elts kk tpos) (.Call (.Name "zip" p) [a, b] [] pos) Γ (ma.bind fun xs => mb.bind fun ys => some (xs.zip ys)) (prS E G) := fun σ W F st z hz R k => by
  obtain ⟨xs, ys, m1, m2, m3⟩ := run2 hz
  cases m3
  refine ⟨iZipM S.K (tCons (tOf S a) (tCons (tOf S b) tNil)), fun X hX => hX.K ▸ pi_zipM (hg.gl hX) (mgS hm hX) (pa_cons (peO hX) (pa_cons (peO hX) pa_nil (hs2 _)) (hs _)) (hs _) (by rw [hs2]; rfl), h σ W F st xs m1 _ fun v W1 Fv ext _ _ r => ?_⟩
  obtain ⟨_, p1, vs, rfl, r2, r3⟩ := r
  refine h2 σ W1 F (st.ext ext) ys m2 _ fun u W2 Fu ext2 _ _ r' => ?_
  obtain ⟨_, p2, us, rfl, s2, s3⟩ := r'
  have b1 := ext2.b p1 _ r2
  refine ⟨p1, p2, vs, us, ⟨rfl, .inl (.inl (ext2.ok p1 _ b1)), .inl (.inl (ext2.ok p2 _ s2))⟩, k _ W2 (ext.trans ext2) (ok_zipM fun V1 c => ⟨c.1, vs, us, ⟨c.1 p1 _ (c.2 p1 _ b1), (r3.mono ext2.b).mono c.2⟩, c.1 p2 _ (c.2 p2 _ s2), s3.mono c.2⟩)⟩
end
end CC
set_option maxHeartbeats 1000000
/-! list of a tuple with state; tuple * int (2 ≤ int). -/
namespace CC
open PySem PySem.Spec L2
open PyProof.Rows hiding St
variable {α β γ δ τ υ ω ρ ε : Type}
def repT (xs : List α) (k : Int) : Option (List α) := if (2 ≤ k ∧ k ≤ 1000) ∧ xs ≠ [] ∧ xs.length ≤ 1000 then some (List.replicate k.toNat xs).flatten else none
theorem oRepT {S : Stc} : ∀ X, S.In X → OpR X (binaryOp .Mult) (rRepT S.K) := fun X hX => hX.K ▸ op_repT
theorem ov_repT {K : PySem.W.Frag} {E : α → SP} : OpV (rRepT K) (tupS E) intS repT (fun x => sh (tupS E x)) := fun W x y v u z ok hx hy e Q k => by
  unfold repT at e
  split at e
  · rename_i hl
    cases e
    cases hy
    obtain ⟨a, vs, rfl, a2, a3⟩ := hx
    refine ⟨a, y, vs, rfl, rfl, .inl (.inl (ok a _ a2)), fun z => hl.2.1 ?_, hl.1.1, hl.1.2, by rw [a3.len]; exact hl.2.2, k.newT ok (each_rep a3 _)⟩
    exact List.eq_nil_of_length_eq_zero (by rw [← a3.len, z]; rfl)
  · cases e
section
variable {S : Stc} {Γ : τ → Ctx} {s : τ} {a b e : Expr} {es : List Expr} {pos : Pos}
theorem je_listT {E : α → SP} {m : Option (List α × τ)} {p : Pos} (hm : S.mg "list" = none) (h : JE S a Γ s m fun x => sh (tupS E x)) (hg : GlS S "list" := by rfl) (hs : ∀ env, starEach [a] env = [(false, eval a env)] := by intro _; rfl) : JE S (.Call (.Name "list" p) [a] [] pos) Γ s (m.bind fun q => some (q.1, q.2)) (lstO fun x => sh (E x)) :=
  je_t1 (f := fun x : List α => some x) (fun X hX => hX.K ▸ call_list_of) (fun W x v z ok hh e Q k => by
    cases e
    obtain ⟨a, vs, rfl, h2, h3⟩ := hh
    exact ⟨a, _, rfl, .inr (.inl (.inl (ok a _ h2))), k.newL ok h3⟩) hm h hg (by decide +kernel) (by decide) (by decide) hs
theorem je_dispT {E : β → SP} {m : Option (α × τ)} {R : α → List SP} {g : α → List β} {k : Nat} (h : JEA S es Γ s m R) (hR : ∀ x, R x = (g x).map E := by intro _; rfl) (hl : ∀ x, (R x).length ≤ 1000 := by intro _; exact Nat.le_of_ble_eq_true rfl) : JE S (.Tuple es k pos) Γ s (m.bind fun q => some (g q.1, q.2)) fun y => sh (tupS E y) := JE.of_sh fun σ W F sta z hz Q kk => by
  obtain ⟨q, h1, h2⟩ := run1 hz
  cases h2
  refine ⟨tTup (taOf S es), fun X hX => pe_tup (paO hX), h σ W F sta q h1 _ fun vs W' F' stp sa hh => ?_⟩
  refine ⟨Nat.le_trans (by rw [hh.len]; exact hl q.1) (by decide), fun l hq => ?_⟩
  have e2 := Ext.newB sa.ok (o := .tup vs) hq
  rw [hR] at hh
  exact kk (.ref l) ⟨upd W'.H l (.tup vs), upd W'.B l (.tup vs)⟩ F' (stp.trans e2.stp0) (sa.ext e2) ⟨l, vs, rfl, upd_same, hh.each.mono e2.b⟩
end
section
variable {S : Stc} {e : Expr} {es : List Expr} {pos : Pos}
theorem jg_lstN {P : γ → SP} {G : α → List SP} {up : α → Ctx → Ctx} {ws : List Nat} {n k : Nat} (g : γ → α) (h : JGs S es G up ws) (hP : ∀ y, P y = hlstS (G (g y)) := by intro _; rfl) (hn : ∀ y, (G (g y)).length = n := by intro _; rfl)
    (hl : ∀ env, (assignEach es env).length = n := by intro _; rfl) (hst : ∀ env, (assignEach es env).findIdx? (·.1) = none := by intro _; rfl) (hcm : S.calm = true := by rfl) : JG S (.Tuple es k pos) P (fun y Γ => up (g y) Γ) ws := fun Γ σ W F q v st hi hh Q kk => by
  rw [hP] at hh
  obtain ⟨a, vs, rfl, h2, h3⟩ := hh
  have hlen : vs.length = n := by rw [← hn q]; exact h3.len
  refine ⟨gLst S.K n (tgsOf S es), fun X hX => hX.K ▸ pg_lst (hX.calm.trans hcm) (pgsO hX) (hl _) (hst _), a, vs, rfl, .inl (.inl (st.ok a _ h2)), hlen, ?_⟩
  exact h Γ σ W F (g q) vs st hi h3 Q kk
end
section
variable {S : Stc} {Γ : Ctx} {e : Expr}
/-- claimed only where it is not None -/
theorem jn_some {E : α → SP} {m : Option (Option α)} (h : JN S e Γ m fun o => sh (optS E o)) : JN S e Γ (m.bind fun o => o) fun x => sh (E x) := fun σ W F sta z hz Q k => by
  obtain ⟨o, h1, h2⟩ := run1 (f := fun o : Option α => o) hz
  subst h2
  exact h σ W F sta (some z) h1 Q k
end
end CC
set_option maxHeartbeats 400000
/-! tuple * int, of any int and any tuple. -/
namespace CC
open PySem PySem.Spec L2
open PyProof.Rows hiding St
open AutoSeq1 (wpAny_loadPart')
theorem mulSame (l : Addr) (its : Array Value) (n : Nat) (dd : Option Addr) (sl : Array (Option Value)) (x : Int) (u : Tok) (c0 : (decide (x < -(2 ^ 63)) || decide (x ≥ 2 ^ 63)) = false) (c1 : (its.isEmpty || x == 1) = true) :
    Meets (Builtin.«tuple.__mul__» ⟨[.ref l, .int x u], []⟩) (fun _ R s => s.heap.get? l = some { cls := .type "tuple", dict := dd, data := .seq its n, slots := sl } ∧ R (.ok (.ret (.ref l))) s) :=
  .of_wp fun prog w A R s h => by
    obtain ⟨hp, g, d, tk, os⟩ := s
    obtain ⟨hl, h⟩ := h
    have f1 := AutoSeq1.idx_int
    have hT : (Shared.mk hp g d tk os).TypeIs (.ref l) "tuple" := ⟨_, hl, rfl⟩
    wp_walk using wpAny_loadPart' hl
    repeat (first
      | (refine wpAny_ite_false (decide_eq_false (by rw [c0]; exact Bool.false_ne_true)) ?_; wp_walk using wpAny_loadPart' hl)
      | (refine wpAny_ite_true (decide_eq_true (by rw [c1])) ?_; wp_walk using wpAny_loadPart' hl))
    exact ⟨_, rfl, h⟩
theorem mulNone (l : Addr) (its : Array Value) (n : Nat) (dd : Option Addr) (sl : Array (Option Value)) (x : Int) (u : Tok) (c0 : (decide (x < -(2 ^ 63)) || decide (x ≥ 2 ^ 63)) = false) (c1 : (its.isEmpty || x == 1) = false) (c2 : (decide (x ≤ 0) || its.isEmpty) = true) :
    Meets (Builtin.«tuple.__mul__» ⟨[.ref l, .int x u], []⟩) (fun _ R s => s.heap.get? l = some { cls := .type "tuple", dict := dd, data := .seq its n, slots := sl } ∧
      R (.ok (.ret (Value.ref s.heap.objs.size))) { s with heap := s.heap.push { cls := Value.type "tuple", data := Data.seq #[] } }) :=
  .of_wp fun prog w A R s h => by
    obtain ⟨hp, g, d, tk, os⟩ := s
    obtain ⟨hl, h⟩ := h
    have f1 := AutoSeq1.idx_int
    wp_walk using wpAny_loadPart' hl
    repeat (first
      | (refine wpAny_ite_false (decide_eq_false (by rw [c0]; exact Bool.false_ne_true)) ?_; wp_walk using wpAny_loadPart' hl)
      | (refine wpAny_ite_false (decide_eq_false (by rw [c1]; exact Bool.false_ne_true)) ?_; wp_walk using wpAny_loadPart' hl)
      | (refine wpAny_ite_true (decide_eq_true (by rw [c2])) ?_; wp_walk using wpAny_loadPart' hl))
    exact ⟨_, rfl, h⟩
def rRepG (K : PySem.W.Frag) : R2 := fun x y H Q => ∃ l k xs, (x = .ref l ∧ y = .int k ∧ SqT K H l xs) ∧ (-1000000 ≤ k ∧ k ≤ 1000000 ∧ xs.length * k.toNat ≤ 1000000) ∧ ((xs = [] ∨ k = 1) → Q (.ref l) H) ∧ (xs ≠ [] → k ≠ 1 → ∀ p, H p = none → Q (.ref p) (upd H p (.tup (List.replicate k.toNat xs).flatten)))
section
variable {X : Cx}
theorem op_repG : OpR X (binaryOp .Mult) (rRepG X.K) := by
  intro pins s σ H x y v u Q I rx ry h
  obtain ⟨l, k, xs, ⟨ex, ey, hT⟩, ⟨b1, b2, hz⟩, q1, q2⟩ := h
  subst ex ey
  cases rx
  obtain ⟨t, rfl⟩ := ry
  obtain ⟨its, r, ⟨⟨cls, dd, data, sl⟩, ho, hc, n, hd⟩, hs⟩ := I.tuple hT
  simp only at hc hd
  subst hc hd
  have hle : its.length = xs.length := r.length.symm
  have z0 : its.toArray.size = xs.length := by rw [List.size_toArray, hle]
  have c0 : (decide (k < -(2 ^ 63)) || decide (k ≥ 2 ^ 63)) = false := by
    rw [decide_eq_false (by omega), decide_eq_false (by omega)] <;> rfl
  have nil_iff : its.toArray.isEmpty = true ↔ xs = [] := by
    constructor
    · intro e
      have : its = [] := by simpa using e
      rw [this] at hle
      exact List.eq_nil_of_length_eq_zero hle.symm
    · intro e
      rw [e] at hle
      have : its = [] := List.eq_nil_of_length_eq_zero hle
      rw [this]
      rfl
  refine wpAny_binaryOp_repeat_ref (T := "tuple") (U := "int") (by decide) ⟨_, ho, rfl⟩ (fun s' => typeIs_int s' k t) noFill_tuple_mul F.fills_int_mul F.slot_int_rmul repeat_tuple F.slot_int_index.lookup
    (call_meets F.slot_int_rmul (typeIs_int s k t) F.entry_int_rmul (F.args_int_rmul_2 _ _) (int_rmul_tuple k t l its.toArray n dd sl) ⟨ho, rfl, ⟨_, ho, rfl⟩, ?_⟩)
  by_cases e1 : xs = [] ∨ k = 1
  · have c1 : (its.toArray.isEmpty || k == 1) = true := by
      rcases e1 with e | e
      · rw [nil_iff.mpr e]
        rfl
      · subst e
        rw [Bool.or_comm]
        rfl
    refine call_meets F.slot_tuple_mul ⟨_, ho, rfl⟩ F.entry_tuple_mul (F.args_tuple_mul_2 _ _) (mulSame l its.toArray n dd sl k t c0 c1) ⟨ho, ?_⟩
    exact ⟨.ref l, _, I, rfl, q1 e1⟩
  · have ne : xs ≠ [] := fun e => e1 (.inl e)
    have nk : k ≠ 1 := fun e => e1 (.inr e)
    have c1 : (its.toArray.isEmpty || k == 1) = false := by
      rw [Bool.or_eq_false_iff]
      exact ⟨by cases e : its.toArray.isEmpty with | false => rfl | true => exact (ne (nil_iff.mp e)).elim, beq_eq_false_iff_ne.mpr nk⟩
    have flen : (List.replicate k.toNat its).flatten.length ≤ sizeLine := by
      rw [PyProof.Rows.lm_len_rep_flat, hle, sizeLine_eq]
      have : k.toNat * xs.length = xs.length * k.toNat := Nat.mul_comm _ _
      omega
    have fin : ∀ its2, its2 = (List.replicate k.toNat its).flatten.toArray → ∃ v s2, Inv X pins σ (upd H s.heap.objs.size (.tup (List.replicate k.toNat xs).flatten)) s2 ∧ s2 = { s with heap := s.heap.push { cls := Value.type "tuple", data := Data.seq its2 }, toks := s.toks } ∧ v = V.ref s.heap.objs.size ∧ Q v (upd H s.heap.objs.size (.tup (List.replicate k.toNat xs).flatten)) := fun its2 e => by
      subst e
      refine ⟨_, _, I.laid (t' := s.toks) (o := .tup (List.replicate k.toNat xs).flatten) (fun b ob q => Heap.get?_push_of_some _ q) (Nat.le_refl _) ?_, rfl, rfl, q2 ne nk _ (I.hok.fresh (Nat.le_refl _))⟩
      exact ⟨by rw [PyProof.Rows.lm_len_rep_flat, ← hle, ← PyProof.Rows.lm_len_rep_flat]; exact flen, _, r.rep k.toNat, IsTup.new _ _⟩
    by_cases e2 : k ≤ 0
    · have c2 : (decide (k ≤ 0) || its.toArray.isEmpty) = true := by rw [decide_eq_true e2]; rfl
      refine call_meets F.slot_tuple_mul ⟨_, ho, rfl⟩ F.entry_tuple_mul (F.args_tuple_mul_2 _ _) (mulNone l its.toArray n dd sl k t c0 c1 c2) ⟨ho, ?_⟩
      obtain ⟨v, s2, g1, g2, g3, g4⟩ := fin #[] (by
        have : k.toNat = 0 := by omega
        rw [this]
        rfl)
      subst g2 g3
      exact ⟨V.ref s.heap.objs.size, _, g1, rfl, g4⟩
    · have c2 : (decide (k ≤ 0) || its.toArray.isEmpty) = false := by
        rw [Bool.or_eq_false_iff]
        exact ⟨decide_eq_false e2, (Bool.or_eq_false_iff.mp c1).1⟩
      have hm : ((its.toArray.size : Nat) : Int) * k ≤ 1000000 := by
        rw [z0]
        have e : k = (k.toNat : Int) := by omega
        rw [e, ← Int.natCast_mul]
        omega
      have c4 : Builtin.Tuple.tupleTooMany (((its.toArray.size : Nat) : Int) * k) = false := by
        unfold Builtin.Tuple.tupleTooMany
        rw [sizeLine_eq]
        exact decide_eq_false (by omega)
      refine call_meets F.slot_tuple_mul ⟨_, ho, rfl⟩ F.entry_tuple_mul (F.args_tuple_mul_2 _ _) (tuple_mulW l its.toArray n dd sl k t c0 c1 c2 (by omega) c4 (by rw [size_rep, List.size_toArray]; exact flen)) ⟨ho, ?_⟩
      obtain ⟨v, s2, g1, g2, g3, g4⟩ := fin _ (size_rep its k.toNat)
      subst g2 g3
      exact ⟨V.ref s.heap.objs.size, _, g1, rfl, g4⟩
end
variable {α : Type}
theorem oRepG {S : Stc} : ∀ X, S.In X → OpR X (binaryOp .Mult) (rRepG S.K) := fun X hX => hX.K ▸ op_repG
theorem ov_repG {K : PySem.W.Frag} {E : α → SP} : OpV (rRepG K) (tupS E) intS repM (fun x => sh (tupS E x)) := fun W x y v u z ok hx hy e Q k => by
  unfold repM at e
  split at e
  · rename_i hl
    cases e
    cases hy
    obtain ⟨a, vs, rfl, a2, a3⟩ := hx
    refine ⟨a, y, vs, ⟨rfl, rfl, .inl (.inl (ok a _ a2))⟩, ⟨hl.2.1, hl.2.2, by rw [a3.len]; exact hl.1⟩, fun c => ?_, fun _ _ => k.newT ok (each_rep a3 _)⟩
    have e : (List.replicate y.toNat x).flatten = x := by
      rcases c with c | c
      · have : x = [] := List.eq_nil_of_length_eq_zero (by rw [← a3.len, c]; rfl)
        subst this
        induction y.toNat with
        | zero => rfl
        | succ n ih => rw [List.replicate_succ, List.flatten_cons, ih]; rfl
      · subst c
        show (List.replicate 1 x).flatten = x
        simp
    rw [e] at k
    exact k.val ok ⟨a, vs, rfl, a2, a3⟩
  · cases e
end CC
set_option maxHeartbeats 400000
/-! Values of any kind taken as ints, tuples, tuples of ints; str of an int. -/
namespace CC
open PySem PySem.Spec L2
open PyProof.Rows hiding St
variable {α β γ : Type}
def asI : PV → Option Int
  | .int i => some i
  | _ => none
def asT : PV → Option (List PV)
  | .tup xs => some xs
  | _ => none
def asIs : List PV → Option (List Int)
  | [] => some []
  | x :: xs => (asI x).bind fun i => (asIs xs).bind fun is => some (i :: is)
def asTI (x : PV) : Option (List Int) := (asT x).bind asIs
theorem asI_eq {x : PV} {i : Int} (h : asI x = some i) : x = .int i := by
  cases x with
  | int j => cases h; rfl
  | _ => cases h
theorem asT_eq {x : PV} {xs : List PV} (h : asT x = some xs) : x = .tup xs := by
  cases x with
  | tup ys => cases h; rfl
  | _ => cases h
theorem asIs_eq : ∀ {xs : List PV} {is : List Int}, asIs xs = some is → xs = is.map PV.int
  | [], is, h => by cases h; rfl
  | x :: xs, is, h => by
    obtain ⟨i, h1, h2⟩ := run1 (f := fun i => (asIs xs).bind fun is => some (i :: is)) h
    obtain ⟨js, h3, h4⟩ := run1 (f := fun js => some (i :: js)) h2
    cases h4
    rw [asI_eq h1, asIs_eq h3]
    rfl
theorem asTI_eq {x : PV} {is : List Int} (h : asTI x = some is) : x = .tup (is.map PV.int) := by
  obtain ⟨xs, h1, h2⟩ := run1 h
  rw [asT_eq h1, asIs_eq h2]
theorem asIs_map : ∀ is : List Int, asIs (is.map PV.int) = some is
  | [] => rfl
  | i :: is => by
    show (asIs (is.map PV.int)).bind _ = _
    rw [asIs_map is]
    rfl
theorem any_int {B : Hp} {i : Int} {v : V} (h : (anyS (.int i)).P B v) : (intS i).P B v := by
  have h' : anyP B (.int i) v := h
  unfold anyP at h'
  exact h'
theorem each_asI {B : Hp} : ∀ {is : List Int} {vs : List V}, Each anyS B vs (is.map PV.int) → Each intS B vs is
  | [], [], h => trivial
  | i :: is, v :: vs, h => ⟨any_int h.1, each_asI h.2⟩
  | [], _ :: _, h => h.elim
  | _ :: _, [], h => h.elim
section
variable {S : Stc} {Γ : Ctx} {a e : Expr} {pos : Pos}
/-- taken as .., claimed only where it is so -/
theorem jn_as {E : α → SP} {G : β → SP} {f : α → Option β} {m : Option α} (hf : ∀ x y, f x = some y → ∀ B v, (E x).P B v → (G y).P B v) (h : JN S e Γ m fun x => sh (E x)) : JN S e Γ (m.bind f) fun y => sh (G y) := fun σ W F sta z hz Q k => by
  obtain ⟨x, h1, h2⟩ := run1 hz
  exact h σ W F sta x h1 Q fun v W' Fv ext fr fp r => k v W' Fv ext fr fp ⟨r.1, hf x z h2 W'.B v r.2⟩
theorem as_int : ∀ x y, asI x = some y → ∀ B v, (anyS x).P B v → (intS y).P B v := fun x y h B v r => any_int (asI_eq h ▸ r)
theorem as_tup : ∀ x y, asT x = some y → ∀ B v, (anyS x).P B v → (tupS anyS y).P B v := fun x y h B v r => pv_tup (asT_eq h ▸ r)
theorem as_tupI : ∀ x y, asTI x = some y → ∀ B v, (anyS x).P B v → (tupS intS y).P B v := fun x y h B v r => by
  obtain ⟨a, vs, h1, h2, h3⟩ := pv_tup (asTI_eq h ▸ r)
  exact ⟨a, vs, h1, h2, each_asI h3⟩
theorem as_tupA {E : α → SP} {f : α → PV} (ao : AnyOf E f) : ∀ x y, (some (List.map f x) : Option (List PV)) = some y → ∀ B v, (tupS E x).P B v → (tupS anyS y).P B v := fun x y h B v r => by
  cases h
  exact pv_tup ((ao_tup ao).go B x v r)
def strI (i : Int) : Option Str := if i.natAbs.log2 < 1920 then some (toString i : String) else none
theorem str_int {m : Option Int} {p : Pos} (hm : S.mg "str" = none) (h : JN S a Γ m fun x => sh (intS x)) (hg : GlS S "str" := by rfl) (hs : ∀ env, starEach [a] env = [(false, eval a env)] := by intro _; rfl) : JN S (.Call (.Name "str" p) [a] [] pos) Γ (m.bind fun x => strI x) fun z => sh (strS z) :=
  jn_t1 (f := strI) (fun X hX => call_str_int) (fun W x v z ok hh e Q k => by
    unfold strI at e
    split at e
    · rename_i hl
      cases e
      cases hh
      exact ⟨x, rfl, hl, k.val ok rfl⟩
    · cases e) hm h hg (by decide +kernel) (by decide) (by decide) hs
end
end CC
set_option maxHeartbeats 400000
/-! sorted of a tuple of ints. -/
namespace CC
open PySem PySem.Spec L2
open PyProof.Rows hiding St
open SrtO
section
variable {prog : Program} {w : World} {A : Around} {E : Value → Shared → Prop} {s : Shared}
theorem collectT {t : Addr} {us : List Value} {R : List Value → Shared → Prop} (pt : s.heap.IsTuple t us.toArray) (k : R us { s with heap := (s.heap.push (PyProof.Rows.seqObj "list" #[] 0)).update s.heap.objs.size (Obj.mapSeq (· ++ us.toArray)) }) (few : us.length ≤ sizeLine) : wpAny (model prog w) A (collect (.ref t)) R E s := by
  obtain ⟨ob, g1, g2, n, g3⟩ := id pt
  unfold collect
  refine wpAny_bind (wpAny_runValue (codeAny_builtin PyProof.Rows.entry_proto_collect' ?_))
  show wpAny _ _ (do again (.builtin "list.__iadd__" ⟨[← newList [], .ref t], []⟩)) _ _ s
  refine wpAny_bind (wpAny_newList (wpAny_pure ⟨Code.quiet_builtin _ (by decide +kernel), codeAny_builtin PyProof.Rows.entry_list_iadd' ?_⟩))
  show wpAny _ _ (Builtin.List.listExtendWith (.ref s.heap.objs.size) (.ref t) (.ref s.heap.objs.size)) _ _ { s with heap := s.heap.push (PyProof.Rows.seqObj "list" #[] 0) }
  unfold Builtin.List.listExtendWith
  have g4 : (s.heap.push (PyProof.Rows.seqObj "list" #[] 0)).get? t = some ob := Heap.get?_push_of_some _ g1
  refine wpAny_bind (wpAny_typeOf (T := "tuple") ⟨ob, g4, g2⟩ ?_)
  have g5 : (Value.type "tuple" == Value.type "tuple") = true := by rfl
  rw [if_pos (by rw [g5]; simp)]
  refine wpAny_bind (PyProof.Rows.listItems_at g4 g3 ?_)
  refine wpAny_bind (PyProof.Rows.listItems_at (n := 0) (xs := #[]) (Heap.get?_push_size _ rfl) rfl ?_)
  rw [if_neg (by simp)]
  refine wpAny_bind (PyProof.Rows.listUpdate_at (n := 0) (xs := #[]) (Heap.get?_push_size _ rfl) rfl ?_ (Nat.zero_le _) (by show (#[] ++ us.toArray).size ≤ sizeLine + 1; rw [Array.size_append, List.size_toArray]; show 0 + us.length ≤ _; omega))
  refine wpAny_pure ?_
  show wpAny (model prog w) A (do
      let ob ← load s.heap.objs.size
      match ob.data with
      | .seq xs _ => pure xs.toList
      | _ => unsupported "internal:collect") R E { s with heap := (s.heap.push (PyProof.Rows.seqObj "list" #[] 0)).update s.heap.objs.size (Obj.mapSeq (· ++ us.toArray)) }
  refine wpAny_bind (wpAny_load (PyProof.Rows.get?_update_seq (Heap.get?_push_size _ rfl) _) ?_)
  show wpAny _ _ (pure ((#[] : Array Value) ++ us.toArray).toList) R E _
  rw [show ((#[] : Array Value) ++ us.toArray).toList = us by simp]
  exact wpAny_pure k
theorem sortedT_ord {t : Addr} {us : List Value} {ltv : Value → Value → Bool} {R : Value → Shared → Prop} (O : Swo ltv) (pt : s.heap.IsTuple t us.toArray) (few : us.length ≤ sizeLine)
    (so : 2 ≤ us.length → ∀ (g : Heap) (a : Addr), g.get? a = some (PyProof.Rows.seqObj "list" us.toArray 0) → (∀ b o, s.heap.get? b = some o → b ≠ a ∧ g.get? b = some o) → SortableO prog w A.in1.in1 { s with heap := g } a us ltv)
    (k : ∀ out : List Value, Srtd ltv out → Stb ltv out us → R (.ref (s.heap.objs.size + 1)) { s with heap := PyProof.Rows.sortedAll s.heap us out.toArray }) : wpAny (model prog w) A (call (.builtin "sorted") [.ref t]) R E s := by
  refine Calls.call_function_entry PyProof.Rows.kind_sorted PyProof.Rows.plain_sorted PyProof.Rows.entry_sorted (PyProof.Rows.args_sorted1 _) ?_
  unfold Builtin.«sorted»
  refine wpAny_bind (m := checkCount "sorted" 1 1 _) (wpAny_pure ?_)
  refine wpAny_bind (collectT pt ?_ few)
  refine wpAny_bind (wpAny_newList ?_ few)
  have z1 : ((s.heap.push (PyProof.Rows.seqObj "list" #[] 0)).update s.heap.objs.size (Obj.mapSeq (· ++ us.toArray))).objs.size = s.heap.objs.size + 1 := by rw [Heap.size_update, PyProof.Rows.size_push']
  have z2 : (((s.heap.push (PyProof.Rows.seqObj "list" #[] 0)).update s.heap.objs.size (Obj.mapSeq (· ++ us.toArray))).push (PyProof.Rows.seqObj "list" us.toArray 0)).get? (s.heap.objs.size + 1) = some (PyProof.Rows.seqObj "list" us.toArray 0) := by
    rw [← z1]
    exact Heap.get?_push_size _ rfl
  have z3 : ∀ b o, s.heap.get? b = some o → b ≠ s.heap.objs.size + 1 ∧ (((s.heap.push (PyProof.Rows.seqObj "list" #[] 0)).update s.heap.objs.size (Obj.mapSeq (· ++ us.toArray))).push (PyProof.Rows.seqObj "list" us.toArray 0)).get? b = some o := fun b o e => by
    have lt : b < s.heap.objs.size := Heap.lt_size e
    refine ⟨Nat.ne_of_lt (Nat.lt_succ_of_lt lt), Heap.get?_push_of_some _ ?_⟩
    rw [Heap.get?_update_ne _ _ _ _ (Nat.ne_of_lt lt)]
    exact Heap.get?_push_of_some _ e
  show wpAny _ _ _ _ _ { s with heap := ((s.heap.push (PyProof.Rows.seqObj "list" #[] 0)).update s.heap.objs.size (Obj.mapSeq (· ++ us.toArray))).push (PyProof.Rows.seqObj "list" us.toArray 0) }
  rw [z1]
  refine wpAny_bind (wpAny_holding (wpAny_call_entry PyProof.Rows.slot_list_sort ⟨_, z2, rfl⟩ PyProof.Rows.entry_list_sort (list_sort_ord O z2 few (fun h2 => so h2 _ _ z2 z3) fun out a1 a2 => ⟨_, rfl, ?_⟩) (PyProof.Rows.args_list_sort _)))
  exact wpAny_pure ⟨_, rfl, k out a1 a2⟩
end
def rSortIT (K : PySem.W.Frag) : List V → Hp → VK → Prop := fun vs H Q => ∃ (a : Addr) (ns : List Int), (vs = [V.ref a] ∧ SqT K H a (ns.map V.int)) ∧ ∀ (ys : List Int) (p : Addr), ys.Perm ns → ys.Pairwise (· ≤ ·) → H p = none → Q (.ref p) (upd H p (.lst (ys.map V.int)))
theorem cr_sortIT {X : Cx} : CallR X (.builtin "sorted") (rSortIT X.K) := by
  intro pins s σ H vs us Q I r h
  obtain ⟨a, ns, ⟨ev, st⟩, q⟩ := h
  subst ev
  obtain ⟨its, rv, pt, hz⟩ := I.tuple st
  rw [Vals.ref1 r]
  have hi := rv.ints
  have few : its.length ≤ sizeLine := by rw [← rv.length]; exact hz
  refine sortedT_ord swo_int (show s.heap.IsTuple a its.toArray from pt) few (fun h2 g a' _ _ => ints_sortable hi h2) fun out h1 h2 => ?_
  obtain ⟨k1, k2, k3⟩ := ints_out hi h1 h2
  obtain ⟨ep, he'⟩ := PyProof.Rows.sortedAll_at s.heap its out.toArray
  have hlen : ((out.map SrtO.iv).map V.int).length ≤ sizeLine := by
    have e1 := k2.length_eq
    have e2 := rv.length
    rw [List.length_map] at e1 e2 ⊢
    rw [List.length_map, e1, e2]
    exact few
  exact ⟨.ref _, upd H (s.heap.objs.size + 1) (.lst ((out.map SrtO.iv).map V.int)), I.laid (t' := s.toks) (fun _ _ => PyProof.Rows.sortedAll_old) (Nat.le_succ _) ⟨hlen, out, ep, vals_of_ints k1, he'⟩, rfl, q _ _ k2 k3 (I.hok.fresh (Nat.le_succ _))⟩
section
variable {S : Stc} {Γ : Ctx} {a : Expr} {pos : Pos}
theorem sorted_intsT {m : Option (List Int)} {p : Pos} (hm : S.mg "sorted" = none) (h : JN S a Γ m fun x => sh (tupS intS x)) (hg : GlS S "sorted" := by rfl) (hs : ∀ env, starEach [a] env = [(false, eval a env)] := by intro _; rfl) : JN S (.Call (.Name "sorted" p) [a] [] pos) Γ (m.bind fun xs => some (sortI xs)) (lstO fun x => sh (intS x)) :=
  jn_b1 (f := fun xs : List Int => some (sortI xs)) (fun X hX => hX.K ▸ cr_sortIT) (fun W x v z ok hh e Q k => by
    cases e
    obtain ⟨a, vs, rfl, h2, h3⟩ := hh
    have e1 := each_flat fl_int h3
    subst e1
    refine ⟨a, x, ⟨rfl, .inl (.inl (ok a _ h2))⟩, fun ys p perm srt np => ?_⟩
    have e : ys = sortI x := srt_uniq leI_an (List.Pairwise.imp (fun {u w} hn => by unfold leI; simpa using hn) srt) (isort_srt leI_tot leI_tr x) (perm.trans (isort_perm leI x).symm)
    subst e
    exact k.newL ok each_ints p np) hm h hg (by decide +kernel) (by decide) (by decide) hs
end
end CC
set_option maxHeartbeats 1000000
/-! Plain laws of the mirrors' words: when they give something, and what. -/
namespace CC
open PySem PySem.Spec L2
open PyProof.Rows hiding St
variable {α β γ δ τ υ ω ρ : Type}
def Ok (m : Option α) (P : α → Prop) : Prop := ∃ x, m = some x ∧ P x
theorem Ok.one {P : α → Prop} {x : α} (h : P x) : Ok (some x) P := ⟨x, rfl, h⟩
theorem Ok.bind {m : Option α} {f : α → Option β} {P : α → Prop} {Q : β → Prop} (h : Ok m P) (k : ∀ x, P x → Ok (f x) Q) : Ok (m.bind f) Q := by
  obtain ⟨x, rfl, hx⟩ := h
  exact k x hx
theorem Ok.mono {m : Option α} {P Q : α → Prop} (h : Ok m P) (k : ∀ x, P x → Q x) : Ok m Q := by
  obtain ⟨x, rfl, hx⟩ := h
  exact ⟨x, rfl, k x hx⟩
theorem Ok.eq {m : Option α} {x : α} (h : m = some x) : Ok m (· = x) := ⟨x, h, rfl⟩
theorem Ok.of_eq {m : Option α} {x : α} {P : α → Prop} (h : m = some x) (p : P x) : Ok m P := ⟨x, h, p⟩
theorem Ok.eq_some {m : Option α} {x : α} (h : Ok m (· = x)) : m = some x := by
  obtain ⟨y, e, rfl⟩ := h
  exact e
theorem Ok.bif {b : Bool} {m n : Option α} {P : α → Prop} (h : b = true → Ok m P) (k : b = false → Ok n P) : Ok (bif b then m else n) P := by
  cases b with
  | true => exact h rfl
  | false => exact k rfl
theorem bind_eta (m : Option (α × β)) : (m.bind fun r => some (r.1, r.2)) = m := by cases m <;> rfl
theorem bind_id (m : Option α) : (m.bind fun r => some r) = m := by cases m <;> rfl
theorem bassoc (m : Option α) (f : α → Option β) (g : β → Option γ) : (m.bind f).bind g = m.bind fun x => (f x).bind g := by cases m <;> rfl
theorem bif_bind (b : Bool) (m n : Option α) (f : α → Option β) : (bif b then m else n).bind f = bif b then m.bind f else n.bind f := by cases b <;> rfl
theorem run_eq {m : Option α} {f : α → Option β} {x : α} (h : m = some x) : m.bind f = f x := by rw [h]; rfl
/-! ### numbers -/
theorem mulO_l {x y : Int} (h1 : -(2 ^ 64) < x) (h2 : x < 2 ^ 64) : mulO x y = some (x * y) := by
  unfold mulO
  rw [if_pos (.inl ⟨h1, h2⟩)]
theorem mulO_r {x y : Int} (h1 : -(2 ^ 64) < y) (h2 : y < 2 ^ 64) : mulO x y = some (x * y) := by
  unfold mulO
  rw [if_pos (.inr ⟨h1, h2⟩)]
theorem divO_eq {x y : Int} (h1 : 0 < y) (h2 : y < 1073741824) : divO x y = some (x / y) := by
  unfold divO
  rw [if_pos ⟨h1, h2⟩]
theorem modO_eq {x y : Int} (h1 : 0 < y) : modO x y = some (x % y) := by
  unfold modO
  rw [if_pos h1]
theorem mod_lo (x : Int) {y : Int} (h : 0 < y) : 0 ≤ x % y := Int.emod_nonneg x (by omega)
theorem mod_hi (x : Int) {y : Int} (h : 0 < y) : x % y < y := Int.emod_lt_of_pos x h
/-! ### ranges -/
def rl (n : Nat) : List Int := (List.range n).map fun i : Nat => (i : Int)
theorem rl_len (n : Nat) : (rl n).length = n := by unfold rl; rw [List.length_map, List.length_range]
theorem rl_get {n k : Nat} (h : k < n) : (rl n)[k]? = some (k : Int) := by
  unfold rl
  rw [List.getElem?_map, List.getElem?_range h]
  rfl
theorem rl_mem {n : Nat} {x : Int} : x ∈ rl n ↔ ∃ k : Nat, k < n ∧ x = (k : Int) := by
  unfold rl
  rw [List.mem_map]
  constructor
  · rintro ⟨k, h, rfl⟩
    exact ⟨k, List.mem_range.mp h, rfl⟩
  · rintro ⟨k, h, rfl⟩
    exact ⟨k, List.mem_range.mpr h, rfl⟩
theorem rl_succ (n : Nat) : rl (n + 1) = rl n ++ [(n : Int)] := by
  unfold rl
  rw [List.range_succ, List.map_append]
  rfl
theorem rl_nodup (n : Nat) : (rl n).Nodup := by
  unfold rl
  refine (List.pairwise_map).mpr ?_
  exact List.Pairwise.imp (fun h e => h (by omega)) (List.nodup_range (n := n))
theorem rng_nat {n : Nat} (h : n ≤ LIM) : rng 0 (n : Int) = some (rl n) := by
  have hl : (LIM : Int) = 1000000 := rfl
  have h' : n ≤ 1000000 := h
  unfold rng rl
  rw [if_pos (by rw [hl]; omega)]
  rw [show ((n : Int) - 0).toNat = n by omega]
  congr 1
  exact List.map_congr_left fun i _ => by omega
theorem rng_int {z : Int} (h0 : 0 ≤ z) (h : z ≤ 1000000) : rng 0 z = some (rl z.toNat) := by
  have : rng 0 ((z.toNat : Nat) : Int) = some (rl z.toNat) := rng_nat (by show z.toNat ≤ 1000000; omega)
  rw [← this]
  congr 1
  omega
/-! ### looks and stores -/
theorem ixN_nat {n k : Nat} (h : k < n) : ixN n (k : Int) = some k := by
  unfold ixN
  rw [if_pos (by omega), if_pos (by omega), Int.toNat_natCast]
theorem ixN_int {n : Nat} {z : Int} (h0 : 0 ≤ z) (h : z < n) : ixN n z = some z.toNat := by
  unfold ixN
  rw [if_pos h0, if_pos h]
theorem atI_nat {xs : List α} {k : Nat} (h : k < xs.length) : atI xs (k : Int) = some xs[k] := by
  unfold atI
  rw [ixN_nat h]
  exact List.getElem?_eq_getElem h
theorem atI_nat? {xs : List α} {k : Nat} {x : α} (h : xs[k]? = some x) : atI xs (k : Int) = some x := by
  obtain ⟨h1, rfl⟩ := List.getElem?_eq_some_iff.mp h
  exact atI_nat h1
theorem atI_ok {xs : List α} {z : Int} {P : α → Prop} (h0 : 0 ≤ z) (h : z < xs.length) (hP : ∀ (k : Nat) x, xs[k]? = some x → (k : Int) = z → P x) : Ok (atI xs z) P := by
  obtain ⟨k, rfl⟩ := Int.eq_ofNat_of_zero_le h0
  have hk : k < xs.length := by omega
  exact ⟨xs[k], atI_nat hk, hP k _ (List.getElem?_eq_getElem hk) rfl⟩
theorem atI_mem {xs : List α} {z : Int} (h0 : 0 ≤ z) (h : z < xs.length) : Ok (atI xs z) fun x => x ∈ xs := atI_ok h0 h fun k x e _ => List.mem_of_getElem? e
theorem setAt_nat {xs : List α} {k : Nat} {x : α} (h : k < xs.length) : setAt xs (k : Int) x = some (xs.set k x) := by
  unfold setAt
  rw [ixN_nat h]
  rfl
theorem appM_eq {xs : List α} {x : α} (h : xs.length < 1000000) : appM xs x = some (xs ++ [x]) := by
  unfold appM
  rw [if_pos (show xs.length < LIM from h)]
theorem catM_eq {xs ys : List α} (h : xs.length + ys.length ≤ 1000000) : catM xs ys = some (xs ++ ys) := by
  unfold catM
  rw [if_pos (show xs.length + ys.length ≤ LIM from h)]
theorem popAt_ok {xs : List α} {z : Int} (h0 : 0 ≤ z) (h : z < xs.length) (hl : xs.length ≤ 1000000) : Ok (popAt xs z) fun r => xs.Perm (r.1 :: r.2) ∧ r.2.length + 1 = xs.length := by
  obtain ⟨k, rfl⟩ := Int.eq_ofNat_of_zero_le h0
  have hk : k < xs.length := by omega
  have e : popAt xs (k : Int) = some (xs[k], xs.eraseIdx k) := by
    unfold popAt
    rw [if_pos ⟨h0, hl⟩, Int.toNat_natCast, List.getElem?_eq_getElem hk]
    rfl
  refine ⟨_, e, ?_, ?_⟩
  · show xs.Perm (xs[k] :: xs.eraseIdx k)
    rw [List.eraseIdx_eq_take_drop_succ]
    have e : xs = xs.take k ++ xs[k] :: xs.drop (k + 1) := by rw [← List.drop_eq_getElem_cons hk, List.take_append_drop]
    exact (List.Perm.of_eq e).trans List.perm_middle
  · show (xs.eraseIdx k).length + 1 = _
    rw [List.length_eraseIdx_of_lt hk]
    omega
/-! ### walks -/
inductive F2 {α β : Type} (P : α → β → Prop) : List α → List β → Prop
  | nil : F2 P [] []
  | cons {x y xs ys} : P x y → F2 P xs ys → F2 P (x :: xs) (y :: ys)
theorem mapGo_eq {f : α → Option β} {g : α → β} : ∀ {xs : List α}, (∀ x ∈ xs, f x = some (g x)) → mapGo f xs = some (xs.map g)
  | [], _ => rfl
  | x :: xs, h => by
    show (f x).bind _ = _
    rw [h x List.mem_cons_self, sb, mapGo_eq fun y hy => h y (List.mem_cons_of_mem _ hy)]
    rfl
theorem mapM_is {f : α → Option β} {g : α → β} {xs : List α} (hl : xs.length ≤ 1000000) (h : ∀ x ∈ xs, f x = some (g x)) : mapM f xs = some (xs.map g) := by
  unfold mapM
  rw [if_pos (show xs.length ≤ LIM from hl), mapGo_eq h]
theorem mapGo_ok {f : α → Option β} {P : α → β → Prop} : ∀ {xs : List α}, (∀ x ∈ xs, Ok (f x) (P x)) → Ok (mapGo f xs) fun ys => F2 P xs ys
  | [], _ => .one .nil
  | x :: xs, h => .bind (h x List.mem_cons_self) fun y hy => .bind (mapGo_ok fun z hz => h z (List.mem_cons_of_mem _ hz)) fun ys hys => .one (.cons hy hys)
theorem mapM_ok {f : α → Option β} {P : α → β → Prop} {xs : List α} (hl : xs.length ≤ 1000000) (h : ∀ x ∈ xs, Ok (f x) (P x)) : Ok (mapM f xs) fun ys => F2 P xs ys := by
  unfold mapM
  rw [if_pos (show xs.length ≤ LIM from hl)]
  exact mapGo_ok h
theorem f2_len {P : α → β → Prop} {xs : List α} {ys : List β} (h : F2 P xs ys) : ys.length = xs.length := by
  induction h with
  | nil => rfl
  | cons _ _ ih => rw [List.length_cons, List.length_cons, ih]
theorem f2_get {P : α → β → Prop} {xs : List α} {ys : List β} (h : F2 P xs ys) : ∀ {k : Nat} {y : β}, ys[k]? = some y → ∃ x, xs[k]? = some x ∧ P x y := by
  induction h with
  | nil => intro k y e; simp at e
  | @cons a b as bs hab _ ih =>
    intro k y e
    cases k with
    | zero =>
      have : b = y := by simpa using e
      subst this
      exact ⟨a, rfl, hab⟩
    | succ k =>
      obtain ⟨x, h1, h2⟩ := ih (k := k) (by simpa using e)
      exact ⟨x, by simpa using h1, h2⟩
theorem f2_mem {P : α → β → Prop} {xs : List α} {ys : List β} (h : F2 P xs ys) {y : β} (hy : y ∈ ys) : ∃ x, x ∈ xs ∧ P x y := by
  obtain ⟨k, hk⟩ := List.mem_iff_getElem?.mp hy
  obtain ⟨x, h1, h2⟩ := f2_get h hk
  exact ⟨x, List.mem_of_getElem? h1, h2⟩
/-- over a range -/
theorem mapR_ok {f : Int → Option β} {P : Nat → β → Prop} {n : Nat} (hl : n ≤ 1000000) (h : ∀ k < n, Ok (f (k : Int)) (P k)) : Ok (mapM f (rl n)) fun ys => ys.length = n ∧ ∀ k y, ys[k]? = some y → P k y := by
  refine (mapM_ok (P := fun x y => ∀ k : Nat, x = (k : Int) → P k y) (by rw [rl_len]; exact hl) fun x hx => ?_).mono fun ys hy => ⟨by rw [f2_len hy, rl_len], fun k y e => ?_⟩
  · obtain ⟨k, hk, rfl⟩ := rl_mem.mp hx
    refine (h k hk).mono fun y hy j e => ?_
    have : k = j := by omega
    exact this ▸ hy
  · obtain ⟨x, h1, h2⟩ := f2_get hy e
    have hk : k < n := by
      have := (List.getElem?_eq_some_iff.mp h1).1
      rwa [rl_len] at this
    rw [rl_get hk] at h1
    exact h2 k (Option.some.inj h1).symm
theorem compGo_eq {t : α → Option Bool} {f : α → Option β} {p : α → Bool} {g : α → β} : ∀ {xs : List α}, (∀ x ∈ xs, t x = some (p x)) → (∀ x ∈ xs, p x = true → f x = some (g x)) → compGo t f xs = some ((xs.filter p).map g)
  | [], _, _ => rfl
  | x :: xs, h, k => by
    have ih := compGo_eq (xs := xs) (fun y hy => h y (List.mem_cons_of_mem _ hy)) fun y hy => k y (List.mem_cons_of_mem _ hy)
    show (t x).bind _ = _
    rw [h x List.mem_cons_self, sb]
    cases hp : p x with
    | true =>
      show (f x).bind _ = _
      rw [k x List.mem_cons_self hp, sb, ih, List.filter_cons_of_pos hp]
      rfl
    | false =>
      show compGo t f xs = _
      rw [ih, List.filter_cons_of_neg (by rw [hp]; exact fun z => nomatch z)]
theorem compM_eq {t : α → Option Bool} {f : α → Option β} {p : α → Bool} {g : α → β} {xs : List α} (hl : xs.length ≤ 1000000) (h : ∀ x ∈ xs, t x = some (p x)) (k : ∀ x ∈ xs, p x = true → f x = some (g x)) : compM t f xs = some ((xs.filter p).map g) := by
  unfold compM
  rw [if_pos (show xs.length ≤ LIM from hl), compGo_eq h k]
theorem foldGo_ok {f : α → τ → Option τ} {Inv : List α → τ → Prop} : ∀ (xs : List α) (pre : List α) {s : τ}, Inv pre s → (∀ pre x post s, pre ++ x :: post = pre ++ x :: post → x ∈ xs → Inv pre s → Ok (f x s) (Inv (pre ++ [x]))) → Ok (foldGo f xs s) (Inv (pre ++ xs))
  | [], pre, s, h, _ => by
    rw [List.append_nil]
    exact .one h
  | x :: xs, pre, s, h, hs => by
    refine .bind (hs pre x xs s rfl List.mem_cons_self h) fun s' h' => ?_
    have := foldGo_ok xs (pre ++ [x]) h' fun pre y post s e hy => hs pre y post s rfl (List.mem_cons_of_mem _ hy)
    rwa [List.append_assoc] at this
/-- a walk with an invariant by what was seen -/
theorem fold_ok {f : α → τ → Option τ} (Inv : List α → τ → Prop) {xs : List α} {s : τ} (h0 : Inv [] s) (hs : ∀ pre x s, x ∈ xs → Inv pre s → Ok (f x s) (Inv (pre ++ [x]))) : Ok (foldGo f xs s) (Inv xs) := by
  have := foldGo_ok (Inv := Inv) xs [] h0 fun pre x post s _ hx h => hs pre x s hx h
  simpa using this
theorem foldG_ok {f : α → τ → Option τ} {Inv : Nat → τ → Prop} : ∀ (xs : List α) (j : Nat) {s : τ}, Inv j s → (∀ k x s, xs[k]? = some x → Inv (j + k) s → Ok (f x s) (Inv (j + k + 1))) → Ok (foldGo f xs s) (Inv (j + xs.length))
  | [], j, s, h, _ => .one h
  | x :: xs, j, s, h, hs => by
    refine .bind (hs 0 x s rfl h) fun s' h' => ?_
    have := foldG_ok xs (j + 1) h' fun k y s e hy => by
      have := hs (k + 1) y s (by simpa using e) (by rwa [show j + (k + 1) = j + 1 + k by omega])
      rwa [show j + (k + 1) = j + 1 + k by omega] at this
    rwa [show j + 1 + xs.length = j + (x :: xs).length by rw [List.length_cons]; omega] at this
/-- over a range: by the turn -/
theorem foldR_ok {f : Int → τ → Option τ} (Inv : Nat → τ → Prop) {n : Nat} {s : τ} (h0 : Inv 0 s) (hs : ∀ k s, k < n → Inv k s → Ok (f (k : Int) s) (Inv (k + 1))) : Ok (foldGo f (rl n) s) (Inv n) := by
  have := foldG_ok (Inv := Inv) (f := f) (rl n) 0 h0 fun k x s e h => by
    have hk : k < n := by
      have := (List.getElem?_eq_some_iff.mp e).1
      rwa [rl_len] at this
    rw [rl_get hk] at e
    rw [← Option.some.inj e]
    rw [Nat.zero_add] at h ⊢
    exact hs k s hk h
  rwa [Nat.zero_add, rl_len] at this
theorem mapGoE_ok {f : α → τ → Option (β × τ)} {Inv : Nat → τ → Prop} {P : Nat → β → Prop} : ∀ (xs : List α) (j : Nat) {s : τ}, Inv j s → (∀ k x s, xs[k]? = some x → Inv (j + k) s → Ok (f x s) fun r => P (j + k) r.1 ∧ Inv (j + k + 1) r.2) →
    Ok (mapGoE f xs s) fun r => r.1.length = xs.length ∧ (∀ k y, r.1[k]? = some y → P (j + k) y) ∧ Inv (j + xs.length) r.2
  | [], j, s, h, _ => .one ⟨rfl, fun k y e => by simp at e, h⟩
  | x :: xs, j, s, h, hs => by
    refine .bind (hs 0 x s rfl h) fun y hy => ?_
    refine .bind (mapGoE_ok (P := P) xs (j + 1) hy.2 fun k y s e hy => by
      have := hs (k + 1) y s (by simpa using e) (by rwa [show j + (k + 1) = j + 1 + k by omega])
      rwa [show j + (k + 1) = j + 1 + k by omega] at this) fun r hr => .one ⟨by rw [List.length_cons, List.length_cons, hr.1], fun k z e => ?_, ?_⟩
    · cases k with
      | zero =>
        have : y.1 = z := by simpa using e
        exact this ▸ hy.1
      | succ k =>
        have := hr.2.1 k z (by simpa using e)
        rwa [show j + 1 + k = j + (k + 1) by omega] at this
    · have := hr.2.2
      rwa [show j + 1 + xs.length = j + (x :: xs).length by rw [List.length_cons]; omega] at this
theorem mapRE_ok {f : Int → τ → Option (β × τ)} (Inv : Nat → τ → Prop) (P : Nat → β → Prop) {n : Nat} {s : τ} (hl : n ≤ 1000000) (h0 : Inv 0 s) (hs : ∀ k s, k < n → Inv k s → Ok (f (k : Int) s) fun r => P k r.1 ∧ Inv (k + 1) r.2) :
    Ok (mapME f (rl n) s) fun r => r.1.length = n ∧ (∀ k y, r.1[k]? = some y → P k y) ∧ Inv n r.2 := by
  unfold mapME
  rw [if_pos (show (rl n).length ≤ LIM by rw [rl_len]; exact hl)]
  have := mapGoE_ok (Inv := Inv) (P := P) (f := f) (rl n) 0 h0 fun k x s e h => by
    have hk : k < n := by
      have := (List.getElem?_eq_some_iff.mp e).1
      rwa [rl_len] at this
    rw [rl_get hk] at e
    rw [← Option.some.inj e]
    rw [Nat.zero_add] at h ⊢
    exact hs k s hk h
  simpa [rl_len] using this
/-- a loop that goes through -/
theorem loopGo_ok {f : α → τ → Option (Out τ ρ)} {Inv : Nat → τ → Prop} : ∀ (xs : List α) (j : Nat) {s : τ}, Inv j s → (∀ k x s, xs[k]? = some x → Inv (j + k) s → Ok (f x s) fun o => ∃ s', (o = .nx s' ∨ o = .ct s') ∧ Inv (j + k + 1) s') → Ok (loopGo f xs s) fun o => ∃ s', o = .nx s' ∧ Inv (j + xs.length) s'
  | [], j, s, h, _ => .one ⟨s, rfl, h⟩
  | x :: xs, j, s, h, hs => by
    refine .bind (hs 0 x s rfl h) fun o ho => ?_
    obtain ⟨s', ho, h'⟩ := ho
    have := loopGo_ok xs (j + 1) h' fun k y s e hy => by
      have := hs (k + 1) y s (by simpa using e) (by rwa [show j + (k + 1) = j + 1 + k by omega])
      rwa [show j + (k + 1) = j + 1 + k by omega] at this
    rw [show j + 1 + xs.length = j + (x :: xs).length by rw [List.length_cons]; omega] at this
    rcases ho with rfl | rfl
    · exact this
    · exact this
theorem loop_unit {f : α → Unit → Option (Out Unit ρ)} {xs : List α} (hs : ∀ x ∈ xs, f x () = some (.nx ())) : loopGo f xs () = some (.nx ()) := by
  induction xs with
  | nil => rfl
  | cons x xs ih =>
    show (f x ()).bind _ = _
    rw [hs x List.mem_cons_self]
    exact ih fun y hy => hs y (List.mem_cons_of_mem _ hy)
/-! ### tables -/
structure Sq (n : Nat) (t : List (List α)) : Prop where
  len : t.length = n
  row : ∀ r ∈ t, r.length = n
def gt (t : List (List Bool)) (x y : Nat) : Bool := ((t[x]?.getD [])[y]?).getD false
theorem Sq.rowk {n : Nat} {t : List (List α)} (h : Sq n t) {x : Nat} (hx : x < n) : ∃ r, t[x]? = some r ∧ r.length = n := by
  have hx' : x < t.length := by rw [h.len]; exact hx
  exact ⟨t[x], List.getElem?_eq_getElem hx', h.row _ (List.getElem_mem hx')⟩
theorem Sq.at2 {n : Nat} {t : List (List Bool)} (h : Sq n t) {x y : Nat} (hx : x < n) (hy : y < n) : ∃ r, atI t (x : Int) = some r ∧ atI r (y : Int) = some (gt t x y) := by
  obtain ⟨r, h1, h2⟩ := h.rowk hx
  refine ⟨r, atI_nat? h1, ?_⟩
  have hy' : y < r.length := by rw [h2]; exact hy
  rw [atI_nat hy']
  unfold gt
  rw [h1]
  show some r[y] = some ((r[y]?).getD false)
  rw [List.getElem?_eq_getElem hy']
  rfl
theorem Sq.set2 {n : Nat} {t : List (List Bool)} (h : Sq n t) {x y : Nat} (b : Bool) (hx : x < n) (hy : y < n) : ∃ t', setAt2 t (x : Int) (y : Int) b = some t' ∧ Sq n t' ∧ ∀ i j, gt t' i j = if i = x ∧ j = y then b else gt t i j := by
  obtain ⟨r, h1, h2⟩ := h.rowk hx
  have hx' : x < t.length := by rw [h.len]; exact hx
  have hy' : y < r.length := by rw [h2]; exact hy
  refine ⟨t.set x (r.set y b), ?_, ⟨by rw [List.length_set]; exact h.len, fun q hq => ?_⟩, fun i j => ?_⟩
  · unfold setAt2
    rw [atI_nat? h1, sb, setAt_nat hy', sb, setAt_nat hx']
  · rcases List.mem_or_eq_of_mem_set hq with z | rfl
    · exact h.row q z
    · rw [List.length_set]; exact h2
  · unfold gt
    by_cases e : i = x
    · subst e
      rw [List.getElem?_set_self hx', h1]
      show ((r.set y b)[j]?).getD false = _
      by_cases e2 : j = y
      · subst e2
        rw [List.getElem?_set_self hy', if_pos ⟨rfl, rfl⟩]
        rfl
      · rw [List.getElem?_set_ne (fun q => e2 q.symm), if_neg (fun q => e2 q.2)]
        rfl
    · rw [List.getElem?_set_ne (fun q => e q.symm), if_neg (fun q => e q.1)]
/-- a table made by its places -/
theorem tab_mk {n : Nat} (hn : n ≤ 1000000) {f : Int → Int → Option Bool} {g : Nat → Nat → Bool} (hf : ∀ x y : Nat, x < n → y < n → f (x : Int) (y : Int) = some (g x y)) :
    Ok (mapM (fun x => mapM (fun y => f x y) (rl n)) (rl n)) fun t => Sq n t ∧ ∀ x y, x < n → y < n → gt t x y = g x y := by
  refine (mapR_ok (P := fun x r => r.length = n ∧ ∀ (y : Nat) b, r[y]? = some b → b = g x y) hn fun x hx => mapR_ok (P := fun y b => b = g x y) hn fun y hy => .of_eq (hf x y hx hy) rfl).mono fun t ht => ?_
  refine ⟨⟨ht.1, fun r hr => ?_⟩, fun x y hx hy => ?_⟩
  · obtain ⟨k, hk⟩ := List.mem_iff_getElem?.mp hr
    exact (ht.2 k r hk).1
  · have hx' : x < t.length := by rw [ht.1]; exact hx
    have h1 := List.getElem?_eq_getElem hx'
    obtain ⟨h2, h3⟩ := ht.2 x _ h1
    have hy' : y < t[x].length := by rw [h2]; exact hy
    unfold gt
    rw [h1]
    show ((t[x])[y]?).getD false = _
    rw [List.getElem?_eq_getElem hy']
    exact h3 y _ (List.getElem?_eq_getElem hy')
theorem Sq.setRow {n : Nat} {t : List (List α)} (h : Sq n t) {x : Nat} {r : List α} (hx : x < n) (hr : r.length = n) : setAt t (x : Int) r = some (t.set x r) ∧ Sq n (t.set x r) :=
  ⟨setAt_nat (by rw [h.len]; exact hx), by rw [List.length_set]; exact h.len, fun q hq => by
    rcases List.mem_or_eq_of_mem_set hq with z | rfl
    · exact h.row q z
    · exact hr⟩
/-- a row of places below m -/
structure Rw (n m : Nat) (r : List Int) : Prop where
  len : r.length = n
  lo : ∀ x ∈ r, 0 ≤ x ∧ x < (m : Int)
def rwv (r : List Int) (x : Nat) : Nat := ((r[x]?).getD 0).toNat
theorem Rw.at {n m : Nat} {r : List Int} (h : Rw n m r) {x : Nat} (hx : x < n) : atI r (x : Int) = some (rwv r x : Int) ∧ rwv r x < m := by
  have hx' : x < r.length := by rw [h.len]; exact hx
  have h1 := List.getElem?_eq_getElem hx'
  have h2 := h.lo _ (List.getElem_mem hx')
  have e : (rwv r x : Int) = r[x] := by
    unfold rwv
    rw [h1]
    show ((r[x]).toNat : Int) = _
    omega
  refine ⟨by rw [atI_nat hx', e], by omega⟩
theorem Rw.of_get {n m : Nat} {r : List Int} (hl : r.length = n) (h : ∀ (k : Nat) (y : Int), r[k]? = some y → 0 ≤ y ∧ y < (m : Int)) : Rw n m r := ⟨hl, fun x hx => by
  obtain ⟨k, hk⟩ := List.mem_iff_getElem?.mp hx
  exact h k x hk⟩
theorem Rw.perm {n : Nat} {r : List Int} (h : r.Perm (rl n)) : Rw n n r := ⟨by rw [h.length_eq, rl_len], fun x hx => by
  obtain ⟨k, hk, rfl⟩ := rl_mem.mp (h.mem_iff.mp hx)
  omega⟩
theorem Sq.look {n : Nat} {t : List (List Bool)} (h : Sq n t) {x : Nat} (hx : x < n) : ∃ r, atI t (x : Int) = some r ∧ r.length = n ∧ ∀ y : Nat, y < n → atI r (y : Int) = some (gt t x y) := by
  obtain ⟨r, h1, h2⟩ := h.rowk hx
  refine ⟨r, atI_nat? h1, h2, fun y hy => ?_⟩
  obtain ⟨u, u1, u2⟩ := h.at2 hx hy
  rw [atI_nat? h1] at u1
  cases u1
  exact u2
end CC
set_option maxHeartbeats 1000000
/-! Plain laws, more. -/
namespace CC
open PySem PySem.Spec L2
open PyProof.Rows hiding St
variable {α β γ δ τ υ ω ρ : Type}
theorem nodup_perm : ∀ {l m : List α}, l.Nodup → (∀ x ∈ l, x ∈ m) → m.length ≤ l.length → l.Perm m
  | [], m, _, _, hl => by rw [List.eq_nil_of_length_eq_zero (Nat.le_zero.mp hl)]
  | a :: l, m, h, s, hl => by
    obtain ⟨u, v, rfl⟩ := List.append_of_mem (s a List.mem_cons_self)
    have h' := List.nodup_cons.mp h
    refine (List.Perm.cons a (nodup_perm (m := u ++ v) h'.2 (fun x hx => ?_) ?_)).trans List.perm_middle.symm
    · have := s x (List.mem_cons_of_mem _ hx)
      have ne : x ≠ a := fun e => h'.1 (e ▸ hx)
      simp only [List.mem_append, List.mem_cons] at this ⊢
      rcases this with q | q | q
      · exact .inl q
      · exact absurd q ne
      · exact .inr q
    · simp only [List.length_append, List.length_cons] at hl ⊢
      omega
theorem comp2Go_eq {t : α → Option Bool} {itM : α → Option (List β)} {t1 : α → β → Option Bool} {f : α → β → Option γ} {it : α → List β} {p : α → β → Bool} {g : α → β → γ} : ∀ {xs : List α}, (∀ x ∈ xs, t x = some true) → (∀ x ∈ xs, itM x = some (it x)) → (∀ x ∈ xs, ∀ y ∈ it x, t1 x y = some (p x y)) → (∀ x ∈ xs, ∀ y ∈ it x, p x y = true → f x y = some (g x y)) →
    comp2Go t itM t1 f xs = some (xs.flatMap fun x => ((it x).filter (p x)).map (g x))
  | [], _, _, _, _ => rfl
  | x :: xs, h0, h1, h2, h3 => by
    show (t x).bind _ = _
    rw [h0 x List.mem_cons_self]
    show (itM x).bind _ = _
    rw [h1 x List.mem_cons_self]
    show (compGo (t1 x) (f x) (it x)).bind _ = _
    rw [compGo_eq (h2 x List.mem_cons_self) (h3 x List.mem_cons_self)]
    show (comp2Go t itM t1 f xs).bind _ = _
    rw [comp2Go_eq (fun y hy => h0 y (List.mem_cons_of_mem _ hy)) (fun y hy => h1 y (List.mem_cons_of_mem _ hy)) (fun y hy => h2 y (List.mem_cons_of_mem _ hy)) fun y hy => h3 y (List.mem_cons_of_mem _ hy)]
    rfl
theorem comp2M_eq {t : α → Option Bool} {itM : α → Option (List β)} {t1 : α → β → Option Bool} {f : α → β → Option γ} {it : α → List β} {p : α → β → Bool} {g : α → β → γ} {xs : List α} (h0 : ∀ x ∈ xs, t x = some true) (h1 : ∀ x ∈ xs, itM x = some (it x)) (h2 : ∀ x ∈ xs, ∀ y ∈ it x, t1 x y = some (p x y)) (h3 : ∀ x ∈ xs, ∀ y ∈ it x, p x y = true → f x y = some (g x y))
    (hl : (xs.flatMap fun x => ((it x).filter (p x)).map (g x)).length ≤ 1000000) : comp2M t itM t1 f xs = some (xs.flatMap fun x => ((it x).filter (p x)).map (g x)) := by
  unfold comp2M
  rw [comp2Go_eq h0 h1 h2 h3]
  show (if _ then _ else _) = _
  rw [if_pos (show _ ≤ LIM from hl)]
theorem eqP_prs (a b c d : Int) : eqP (.tup [.int a, .int b]) (.tup [.int c, .int d]) = some (decide (a = c) && decide (b = d)) := by
  have sh : ∀ a b : Int, SeqAt.shaped (toD (.tup [.int a, .int b])) = true := fun a b => rfl
  unfold eqP
  rw [if_pos ⟨sh a b, sh c d⟩]
  simp only [toD, toDs, PyData.eqv, PyData.eqvAll, Bool.and_true]
  rfl
/-- a loop that only goes through, by what was seen -/
theorem loopR_ok {f : Int → τ → Option (Out τ ρ)} (Inv : Nat → τ → Prop) {n : Nat} {s : τ} (h0 : Inv 0 s) (hs : ∀ k s, k < n → Inv k s → Ok (f (k : Int) s) fun o => ∃ s', (o = .nx s' ∨ o = .ct s') ∧ Inv (k + 1) s') : Ok (loopGo f (rl n) s) fun o => ∃ s', o = .nx s' ∧ Inv n s' := by
  have := loopGo_ok (Inv := Inv) (f := f) (rl n) 0 h0 fun k x s e h => by
    have hk : k < n := by
      have := (List.getElem?_eq_some_iff.mp e).1
      rwa [rl_len] at this
    rw [rl_get hk] at e
    rw [← Option.some.inj e]
    rw [Nat.zero_add] at h ⊢
    exact hs k s hk h
  rwa [Nat.zero_add, rl_len] at this
/-- .. an equation -/
theorem loopGo_eq {f : α → τ → Option (Out τ ρ)} (g : τ → α → τ) (I : τ → Prop) : ∀ {xs : List α} {s : τ}, I s → (∀ x ∈ xs, ∀ s, I s → (f x s = some (.nx (g s x)) ∨ f x s = some (.ct (g s x))) ∧ I (g s x)) → loopGo f xs s = some (.nx (xs.foldl g s)) ∧ I (xs.foldl g s)
  | [], s, h, _ => ⟨rfl, h⟩
  | x :: xs, s, h, hs => by
    obtain ⟨h1, h2⟩ := hs x List.mem_cons_self s h
    have := loopGo_eq g I (xs := xs) h2 fun y hy => hs y (List.mem_cons_of_mem _ hy)
    show (f x s).bind _ = _ ∧ _
    rcases h1 with h1 | h1 <;> rw [h1] <;> exact this
theorem foldGo_eq {f : α → τ → Option τ} (g : τ → α → τ) (I : τ → Prop) : ∀ {xs : List α} {s : τ}, I s → (∀ x ∈ xs, ∀ s, I s → f x s = some (g s x) ∧ I (g s x)) → foldGo f xs s = some (xs.foldl g s) ∧ I (xs.foldl g s)
  | [], s, h, _ => ⟨rfl, h⟩
  | x :: xs, s, h, hs => by
    obtain ⟨h1, h2⟩ := hs x List.mem_cons_self s h
    have := foldGo_eq g I (xs := xs) h2 fun y hy => hs y (List.mem_cons_of_mem _ hy)
    show (f x s).bind _ = _ ∧ _
    rw [h1]
    exact this
theorem nodup_len : ∀ {l m : List α}, l.Nodup → (∀ x ∈ l, x ∈ m) → l.length ≤ m.length
  | [], m, _, _ => Nat.zero_le _
  | a :: l, m, h, s => by
    obtain ⟨u, v, rfl⟩ := List.append_of_mem (s a List.mem_cons_self)
    have h' := List.nodup_cons.mp h
    have := nodup_len (m := u ++ v) h'.2 (fun x hx => by
      have := s x (List.mem_cons_of_mem _ hx)
      have ne : x ≠ a := fun e => h'.1 (e ▸ hx)
      simp only [List.mem_append, List.mem_cons] at this ⊢
      rcases this with q | q | q
      · exact .inl q
      · exact absurd q ne
      · exact .inr q)
    simp only [List.length_append, List.length_cons] at this ⊢
    omega
/-- a range from lo on -/
def rlo (lo n : Nat) : List Int := (List.range n).map fun i : Nat => ((lo + i : Nat) : Int)
theorem rlo_len (lo n : Nat) : (rlo lo n).length = n := by unfold rlo; rw [List.length_map, List.length_range]
theorem rlo_get {lo n k : Nat} (h : k < n) : (rlo lo n)[k]? = some ((lo + k : Nat) : Int) := by
  unfold rlo
  rw [List.getElem?_map, List.getElem?_range h]
  rfl
theorem rlo_mem {lo n : Nat} {x : Int} : x ∈ rlo lo n ↔ ∃ k : Nat, k < n ∧ x = ((lo + k : Nat) : Int) := by
  unfold rlo
  rw [List.mem_map]
  constructor
  · rintro ⟨k, h, rfl⟩
    exact ⟨k, List.mem_range.mp h, rfl⟩
  · rintro ⟨k, h, rfl⟩
    exact ⟨k, List.mem_range.mpr h, rfl⟩
theorem rng_lo {lo hi : Nat} (h1 : lo ≤ 1000000) (h2 : hi ≤ 1000000) : rng (lo : Int) (hi : Int) = some (rlo lo (hi - lo)) := by
  have hl : (LIM : Int) = 1000000 := rfl
  unfold rng rlo
  rw [if_pos (by rw [hl]; omega)]
  rw [show ((hi : Int) - (lo : Int)).toNat = hi - lo by omega]
  congr 1
theorem foldRL_ok {f : Int → τ → Option τ} (Inv : Nat → τ → Prop) {lo n : Nat} {s : τ} (h0 : Inv lo s) (hs : ∀ k s, lo ≤ k → k < lo + n → Inv k s → Ok (f (k : Int) s) (Inv (k + 1))) : Ok (foldGo f (rlo lo n) s) (Inv (lo + n)) := by
  have := foldG_ok (Inv := fun j => Inv (lo + j)) (f := f) (rlo lo n) 0 h0 fun k x s e h => by
    have hk : k < n := by
      have := (List.getElem?_eq_some_iff.mp e).1
      rwa [rlo_len] at this
    rw [rlo_get hk] at e
    rw [← Option.some.inj e]
    rw [Nat.zero_add] at h ⊢
    exact hs (lo + k) s (by omega) (by omega) h
  rwa [Nat.zero_add, rlo_len] at this
end CC
set_option maxHeartbeats 1000000
/-! Plain laws: while, masks, rows by place. -/
namespace CC
open PySem PySem.Spec L2
open PyProof.Rows hiding St
variable {α β γ δ τ υ ω ρ : Type}
theorem whileF_ok {c : τ → Option Bool} {f : τ → Option τ} {P : τ → Prop} (Inv : τ → Prop) (μ : τ → Nat) (hs : ∀ s, Inv s → Ok (c s) fun b => (b = true → Ok (f s) fun s' => Inv s' ∧ μ s' < μ s) ∧ (b = false → P s)) : ∀ {n : Nat} {s : τ}, Inv s → μ s < n → Ok (whileF c f n s) P
  | 0, s, _, h => absurd h (Nat.not_lt_zero _)
  | n + 1, s, hi, h => by
    obtain ⟨b, e, h1, h2⟩ := hs s hi
    show Ok ((c s).bind _) P
    rw [e]
    cases b with
    | false => exact .one (h2 rfl)
    | true =>
      obtain ⟨s', e', h3, h4⟩ := h1 rfl
      show Ok ((f s).bind _) P
      rw [e']
      exact whileF_ok Inv μ hs h3 (by omega)
/-- one turn -/
theorem whileF_turn {c : τ → Option Bool} {f : τ → Option τ} {n : Nat} {s s' : τ} (h : c s = some true) (k : f s = some s') : whileF c f (n + 1) s = whileF c f n s' := by
  show (c s).bind _ = _
  rw [h]
  show (f s).bind _ = _
  rw [k]
  rfl
theorem whileF_end {c : τ → Option Bool} {f : τ → Option τ} {n : Nat} {s : τ} (h : c s = some false) : whileF c f (n + 1) s = some s := by
  show (c s).bind _ = _
  rw [h]
  rfl
/-! ### bits -/
theorem bOr_nat (a b : Nat) : bOr (a : Int) (b : Int) = ((a ||| b : Nat) : Int) := by
  have := L2.bitOr_nn (x := (a : Int)) (y := (b : Int)) (by omega) (by omega)
  rw [Int.toNat_natCast, Int.toNat_natCast] at this
  exact this
theorem bAnd_nat (a b : Nat) : bAnd (a : Int) (b : Int) = ((a &&& b : Nat) : Int) := by
  unfold bAnd Builtin.bitAnd
  simp
theorem shl_one {y : Nat} (h : y ≤ 1000000) : shlO 1 (y : Int) = some ((2 ^ y : Nat) : Int) := by
  unfold shlO
  rw [if_pos ⟨by omega, by omega, by decide⟩, Int.toNat_natCast, Int.one_mul, PySem.W.kbt_cast]
theorem shr_nat (a y : Nat) : shrO (a : Int) (y : Int) = some ((a / 2 ^ y : Nat) : Int) := by
  unfold shrO
  rw [if_pos (by omega), Int.toNat_natCast, ← PySem.W.kbt_cast]
  rfl
/-- the least bit -/
theorem low_form : ∀ (m : Nat), 0 < m → ∃ k a, m = 2 ^ k * (2 * a + 1) := by
  intro m
  induction m using Nat.strongRecOn with
  | _ m ih =>
    intro h
    by_cases e : m % 2 = 1
    · exact ⟨0, m / 2, by omega⟩
    · obtain ⟨k, a, q⟩ := ih (m / 2) (by omega) (by omega)
      refine ⟨k + 1, a, ?_⟩
      have : m = 2 * (m / 2) := by omega
      rw [Nat.pow_succ, Nat.mul_comm (2 ^ k) 2, Nat.mul_assoc, ← q]
      exact this
theorem low_bit (k a j : Nat) : (2 ^ k * (2 * a + 1)).testBit j = (decide (k ≤ j) && (decide (j = k) || a.testBit (j - k - 1))) := by
  rw [Nat.testBit_two_pow_mul]
  by_cases h : k ≤ j
  · simp only [h, decide_true, Bool.true_and]
    by_cases e : j = k
    · subst e
      simp
    · obtain ⟨d, hd⟩ : ∃ d, j - k = d + 1 := ⟨j - k - 1, by omega⟩
      rw [hd, Nat.testBit_succ, show (2 * a + 1) / 2 = a by omega]
      simp [e]
  · simp [h]
theorem low_rest (k a j : Nat) : (2 ^ k * (2 * a + 1) - 2 ^ k).testBit j = (decide (k < j) && a.testBit (j - k - 1)) := by
  have e : 2 ^ k * (2 * a + 1) - 2 ^ k = 2 ^ (k + 1) * a := by
    rw [Nat.mul_add, Nat.mul_one, Nat.add_sub_cancel, Nat.pow_succ, Nat.mul_assoc]
  rw [e, Nat.testBit_two_pow_mul]
  by_cases h : k < j
  · simp [h, show k + 1 ≤ j by omega, show j - (k + 1) = j - k - 1 by omega]
  · simp [h, show ¬ k + 1 ≤ j by omega]
theorem bAnd_low (k a : Nat) : bAnd ((2 ^ k * (2 * a + 1) : Nat) : Int) (-((2 ^ k * (2 * a + 1) : Nat) : Int)) = ((2 ^ k : Nat) : Int) := by
  have := PySem.W.kbt_low k (a : Int)
  have c : ((2 ^ k * (2 * a + 1) : Nat) : Int) = 2 ^ k * (2 * (a : Int) + 1) := by
    rw [Int.natCast_mul, PySem.W.kbt_cast]
    rfl
  rw [c, PySem.W.kbt_cast]
  exact this
theorem bitLen_pow (k : Nat) : bitLen ((2 ^ k : Nat) : Int) = (k : Int) + 1 := by
  unfold bitLen Builtin.Int.intBits
  have h : (((2 ^ k : Nat) : Int) == 0) = false := by
    rw [beq_eq_false_iff_ne]
    have := Nat.two_pow_pos k
    omega
  rw [h]
  simp only [Bool.false_eq_true, if_false, Int.natAbs_natCast, Nat.log2_two_pow]
  rfl
/-- the points of a mask, ascending -/
def bitsL (n : Nat) (m : Nat) : List Int := (rl n).filter fun x => m.testBit x.toNat
theorem bitsL_mem {n m : Nat} {x : Int} : x ∈ bitsL n m ↔ ∃ k : Nat, k < n ∧ m.testBit k = true ∧ x = (k : Int) := by
  unfold bitsL
  rw [List.mem_filter, rl_mem]
  constructor
  · rintro ⟨⟨k, h, rfl⟩, h2⟩
    rw [Int.toNat_natCast] at h2
    exact ⟨k, h, h2, rfl⟩
  · rintro ⟨k, h, h2, rfl⟩
    exact ⟨⟨k, h, rfl⟩, by rw [Int.toNat_natCast]; exact h2⟩
theorem bitsL_len (n m : Nat) : (bitsL n m).length ≤ n := by
  unfold bitsL
  refine Nat.le_trans (List.length_filter_le _ _) ?_
  rw [rl_len]
  exact Nat.le_refl _
theorem rl_split {n k : Nat} (h : k < n) : ∃ r, rl n = rl k ++ (k : Int) :: r ∧ ∀ x ∈ r, ∃ j : Nat, k < j ∧ j < n ∧ x = (j : Int) := by
  refine ⟨(List.range (n - k - 1)).map fun i : Nat => ((k + 1 + i : Nat) : Int), ?_, fun x hx => ?_⟩
  · refine List.ext_getElem? fun i => ?_
    by_cases h1 : i < k
    · rw [rl_get (by omega), List.getElem?_append_left (by rw [rl_len]; exact h1), rl_get h1]
    · rw [List.getElem?_append_right (by rw [rl_len]; omega), rl_len]
      by_cases h2 : i = k
      · subst h2
        rw [rl_get h, Nat.sub_self]
        rfl
      · obtain ⟨d, hd⟩ : ∃ d, i - k = d + 1 := ⟨i - k - 1, by omega⟩
        rw [hd, List.getElem?_cons_succ, List.getElem?_map]
        by_cases h3 : i < n
        · rw [rl_get h3, List.getElem?_range (by omega)]
          show some (i : Int) = some _
          congr 2
          omega
        · rw [List.getElem?_eq_none (by rw [rl_len]; omega), List.getElem?_eq_none (by rw [List.length_range]; omega)]
          rfl
  · obtain ⟨i, hi, rfl⟩ := List.mem_map.mp hx
    have := List.mem_range.mp hi
    exact ⟨k + 1 + i, by omega, by omega, rfl⟩
theorem bitsL_low {n k a : Nat} (h : k < n) : bitsL n (2 ^ k * (2 * a + 1)) = (k : Int) :: bitsL n (2 ^ k * (2 * a + 1) - 2 ^ k) := by
  obtain ⟨r, e, hr⟩ := rl_split h
  unfold bitsL
  rw [e, List.filter_append, List.filter_append, List.filter_cons, List.filter_cons]
  have z1 : (rl k).filter (fun x => (2 ^ k * (2 * a + 1)).testBit x.toNat) = [] := List.filter_eq_nil_iff.mpr fun x hx => by
    obtain ⟨j, hj, rfl⟩ := rl_mem.mp hx
    rw [Int.toNat_natCast, low_bit]
    simp [show ¬ k ≤ j by omega]
  have z2 : (rl k).filter (fun x => (2 ^ k * (2 * a + 1) - 2 ^ k).testBit x.toNat) = [] := List.filter_eq_nil_iff.mpr fun x hx => by
    obtain ⟨j, hj, rfl⟩ := rl_mem.mp hx
    rw [Int.toNat_natCast, low_rest]
    simp [show ¬ k < j by omega]
  have c1 : (2 ^ k * (2 * a + 1)).testBit ((k : Int)).toNat = true := by
    rw [Int.toNat_natCast, low_bit]
    simp
  have c2 : (2 ^ k * (2 * a + 1) - 2 ^ k).testBit ((k : Int)).toNat = false := by
    rw [Int.toNat_natCast, low_rest]
    simp
  rw [z1, z2, if_pos c1, if_neg (by rw [c2]; exact fun z => nomatch z)]
  simp only [List.nil_append]
  congr 1
  refine List.filter_congr fun x hx => ?_
  obtain ⟨j, h1, h2, rfl⟩ := hr x hx
  rw [Int.toNat_natCast, low_bit, low_rest]
  simp [show k ≤ j by omega, show j ≠ k by omega, h1]
theorem bitsL_zero (n : Nat) : bitsL n 0 = [] := List.filter_eq_nil_iff.mpr fun x _ => by simp
theorem bit_pos {m k : Nat} (h : m.testBit k = true) : 0 < m := by
  cases m with
  | zero => simp at h
  | succ m => exact Nat.succ_pos m
theorem and_zero_iff {a b : Nat} : a &&& b = 0 ↔ ∀ y, ¬ (a.testBit y = true ∧ b.testBit y = true) := by
  constructor
  · intro h y ⟨h1, h2⟩
    have : (a &&& b).testBit y = true := by rw [Nat.testBit_and, h1, h2]; rfl
    rw [h, Nat.zero_testBit] at this
    cases this
  · intro h
    refine Nat.eq_of_testBit_eq fun y => ?_
    rw [Nat.zero_testBit, Nat.testBit_and]
    cases h1 : a.testBit y with
    | false => rfl
    | true =>
      cases h2 : b.testBit y with
      | false => rfl
      | true => exact absurd ⟨h1, h2⟩ (h y)
/-- masks by place -/
structure Msk (n : Nat) (L : List Int) (f : Nat → Nat → Bool) : Prop where
  len : L.length = n
  look : ∀ x, x < n → ∃ m : Nat, atI L (x : Int) = some (m : Int) ∧ ∀ y, m.testBit y = f x y
theorem Msk.zero (n : Nat) : Msk n (List.replicate n (0 : Int)) fun _ _ => false := ⟨List.length_replicate, fun x hx => ⟨0, by
  rw [atI_nat (by rw [List.length_replicate]; exact hx), List.getElem_replicate]
  rfl, fun y => Nat.zero_testBit y⟩⟩
theorem Msk.set {n : Nat} {L : List Int} {f : Nat → Nat → Bool} (h : Msk n L f) {x m : Nat} (hx : x < n) : setAt L (x : Int) (m : Int) = some (L.set x (m : Int)) ∧ Msk n (L.set x (m : Int)) fun i y => if i = x then m.testBit y else f i y := by
  refine ⟨setAt_nat (by rw [h.len]; exact hx), by rw [List.length_set]; exact h.len, fun i hi => ?_⟩
  have hi' : i < (L.set x (m : Int)).length := by rw [List.length_set, h.len]; exact hi
  rw [atI_nat hi']
  by_cases e : i = x
  · subst e
    exact ⟨m, by rw [List.getElem_set_self], fun y => by rw [if_pos rfl]⟩
  · obtain ⟨k, h1, h2⟩ := h.look i hi
    rw [atI_nat (by rw [h.len]; exact hi)] at h1
    exact ⟨k, by rw [List.getElem_set_ne (fun q => e q.symm)]; exact h1, fun y => by rw [if_neg e]; exact h2 y⟩
theorem Msk.congr {n : Nat} {L : List Int} {f g : Nat → Nat → Bool} (h : Msk n L f) (e : ∀ x y, x < n → f x y = g x y) : Msk n L g := ⟨h.len, fun x hx => by
  obtain ⟨m, h1, h2⟩ := h.look x hx
  exact ⟨m, h1, fun y => (h2 y).trans (e x y hx)⟩⟩
theorem repM_one {x : α} {n : Nat} (h : n ≤ 1000000) : repM [x] (n : Int) = some (List.replicate n x) := by
  unfold repM
  rw [if_pos ⟨by rw [List.length_singleton, Nat.one_mul, Int.toNat_natCast]; exact h, by omega, by omega⟩, Int.toNat_natCast]
  congr 1
  induction n with
  | zero => rfl
  | succ n ih =>
    rw [List.replicate_succ, List.flatten_cons, ih (by omega), List.replicate_succ]
    rfl
/-! ### pairs in order -/
theorem ltPI_irr (x : Int × Int) : ltPI x x = false := by unfold ltPI; simp
theorem ltPI_trans {x y z : Int × Int} (h : ltPI x y = true) (k : ltPI y z = true) : ltPI x z = true := by
  unfold ltPI at *
  split at h <;> split at k <;> split <;> simp only [decide_eq_true_eq] at * <;> omega
theorem ltPI_tri {x y : Int × Int} (h : ltPI x y = false) (k : x ≠ y) : ltPI y x = true := by
  unfold ltPI at *
  obtain ⟨a, b⟩ := x
  obtain ⟨c, d⟩ := y
  simp only [ne_eq, Prod.mk.injEq] at *
  split at h <;> split <;> simp only [decide_eq_true_eq, decide_eq_false_iff_not] at * <;> omega
/-- pairs that ascend -/
def Asc (ps : List (Int × Int)) : Prop := ps.Pairwise fun x y => ltPI x y = true
theorem Asc.get {ps : List (Int × Int)} (h : Asc ps) {i j : Nat} (hij : i < j) (hj : j < ps.length) : ltPI (ps[i]'(by omega)) ps[j] = true := List.pairwise_iff_getElem.mp h i j (by omega) hj hij
/-! ### tuples of ints, alike -/
theorem ints_lay : ∀ xs : List Int, PyData.canLayAll0 (toDs (xs.map PV.int)) = true ∧ PyData.depthAll (toDs (xs.map PV.int)) = 0
  | [] => ⟨rfl, rfl⟩
  | x :: xs => by
    obtain ⟨h1, h2⟩ := ints_lay xs
    constructor
    · simp [toDs, toD, PyData.canLayAll0, PyData.canLay0, h1]
    · simp [toDs, toD, PyData.depthAll, PyData.depth, h2]
theorem ints_eqv : ∀ xs ys : List Int, PyData.eqvAll (toDs (xs.map PV.int)) (toDs (ys.map PV.int)) = decide (xs = ys)
  | [], [] => rfl
  | [], y :: ys => by simp [toDs, PyData.eqvAll]
  | x :: xs, [] => by simp [toDs, PyData.eqvAll]
  | x :: xs, y :: ys => by
    simp only [List.map_cons, toDs, toD, PyData.eqvAll, PyData.eqv, ints_eqv xs ys]
    by_cases e : x = y
    · subst e; simp
    · simp [e]
theorem eqP_ints (xs ys : List Int) : eqP (.tup (xs.map PV.int)) (.tup (ys.map PV.int)) = some (decide (xs = ys)) := by
  have sh : ∀ xs : List Int, SeqAt.shaped (toD (.tup (xs.map PV.int))) = true := fun xs => by
    obtain ⟨h1, h2⟩ := ints_lay xs
    unfold SeqAt.shaped
    simp [toD, PyData.canLay0, PyData.depth, h1, h2]
  unfold eqP
  rw [if_pos ⟨sh xs, sh ys⟩]
  congr 1
  simp only [toD, PyData.eqv]
  exact ints_eqv xs ys
end CC
set_option maxHeartbeats 1000000
/-! Lists over 0 .. n - 1 as functions; the pairs of a table. -/
namespace CC
open PySem PySem.Spec L2
open PyProof.Rows hiding St
variable {α β γ τ ρ : Type}
theorem vat {n : Nat} {f : Int → α} {x : Int} (h : x ∈ rl n) : atI ((rl n).map f) x = some (f x) := by
  obtain ⟨k, hk, rfl⟩ := rl_mem.mp h
  rw [CC.atI_nat? (x := f (k : Int)) (by rw [List.getElem?_map, rl_get hk]; rfl)]
theorem vset_list {n : Nat} {f : Int → α} {k : Nat} {v : α} (hk : k < n) : ((rl n).map f).set k v = (rl n).map fun y => if y = (k : Int) then v else f y := by
  refine List.ext_getElem? fun j => ?_
  by_cases hj : j < n
  · rw [List.getElem?_map, rl_get hj]
    show _ = some (if (j : Int) = (k : Int) then v else f (j : Int))
    by_cases e : k = j
    · subst e
      rw [List.getElem?_set_self (by rw [List.length_map, rl_len]; exact hk), if_pos rfl]
    · rw [List.getElem?_set_ne e, List.getElem?_map, rl_get hj, if_neg (by omega)]
      rfl
  · rw [List.getElem?_eq_none (by rw [List.length_set, List.length_map, rl_len]; omega), List.getElem?_eq_none (by rw [List.length_map, rl_len]; omega)]
theorem vset {n : Nat} {f : Int → α} {x : Int} {v : α} (h : x ∈ rl n) : setAt ((rl n).map f) x v = some ((rl n).map fun y => if y = x then v else f y) := by
  obtain ⟨k, hk, rfl⟩ := rl_mem.mp h
  rw [setAt_nat (by rw [List.length_map, rl_len]; exact hk), vset_list hk]
theorem vix {n : Nat} {f : Int → α} {x : Int} (h : x ∈ rl n) : ∃ k, ixN ((rl n).map f).length x = some k ∧ k < n ∧ x = (k : Int) ∧ ((rl n).map f)[k]? = some (f x) := by
  obtain ⟨k, hk, rfl⟩ := rl_mem.mp h
  exact ⟨k, by rw [List.length_map, rl_len]; exact ixN_nat hk, hk, rfl, by rw [List.getElem?_map, rl_get hk]; rfl⟩
theorem vaug {n : Nat} {g : Int → Int → Int} {f : Int → Int} {x c : Int} (h : x ∈ rl n) : augAt g ((rl n).map f) x c = some ((rl n).map fun y => if y = x then g (f x) c else f y) := by
  obtain ⟨k, h1, h2, h3, h4⟩ := vix (f := f) h
  unfold augAt
  rw [h1]
  show (((rl n).map f)[k]?).bind _ = _
  rw [h4]
  show some _ = some _
  rw [vset_list h2, h3]
theorem vapp {n : Nat} {f : Int → List α} {x : Int} {v : α} (h : x ∈ rl n) (hl : (f x).length < 1000000) : appAt ((rl n).map f) x v = some ((rl n).map fun y => if y = x then f x ++ [v] else f y) := by
  obtain ⟨k, h1, h2, h3, h4⟩ := vix (f := f) h
  unfold appAt
  rw [h1]
  show (((rl n).map f)[k]?).bind _ = _
  rw [h4]
  show (appM (f x) v).bind _ = _
  rw [appM_eq hl]
  show some _ = some _
  rw [vset_list h2, h3]
theorem rep_map (n : Nat) (v : α) : List.replicate n v = (rl n).map fun _ => v := by
  refine (List.eq_replicate_iff.mpr ⟨by rw [List.length_map, rl_len], fun b hb => ?_⟩).symm
  obtain ⟨_, _, rfl⟩ := List.mem_map.mp hb
  rfl
theorem vcongr {n : Nat} {f g : Int → α} (h : ∀ x ∈ rl n, f x = g x) : (rl n).map f = (rl n).map g := List.map_congr_left h
theorem fold_set {n : Nat} {v : α} : ∀ {ps : List Int} {f : Int → α}, (∀ x ∈ ps, x ∈ rl n) → foldGo (fun x s => (setAt s x v).bind fun a => some a) ps ((rl n).map f) = some ((rl n).map fun y => if y ∈ ps then v else f y)
  | [], f, _ => by
    exact congrArg some (vcongr fun y _ => by simp)
  | x :: ps, f, h => by
    show ((setAt ((rl n).map f) x v).bind fun a => some a).bind _ = _
    rw [vset (h x List.mem_cons_self)]
    show foldGo _ ps ((rl n).map _) = _
    rw [fold_set fun y hy => h y (List.mem_cons_of_mem _ hy)]
    congr 1
    refine vcongr fun y _ => ?_
    by_cases e : y = x
    · subst e
      simp
    · simp [e]
theorem fold_aug {n : Nat} : ∀ {ps : List Int} {f : Int → Int}, ps.Nodup → (∀ x ∈ ps, x ∈ rl n) → foldGo (fun x s => (augAt (fun i j => i - j) s x 1).bind fun a => some a) ps ((rl n).map f) = some ((rl n).map fun y => if y ∈ ps then f y - 1 else f y)
  | [], f, _, _ => by
    exact congrArg some (vcongr fun y _ => by simp)
  | x :: ps, f, nd, h => by
    have nd := List.nodup_cons.mp nd
    show ((augAt (fun i j => i - j) ((rl n).map f) x 1).bind fun a => some a).bind _ = _
    rw [vaug (h x List.mem_cons_self)]
    show foldGo _ ps ((rl n).map _) = _
    rw [fold_aug nd.2 fun y hy => h y (List.mem_cons_of_mem _ hy)]
    congr 1
    refine vcongr fun y _ => ?_
    by_cases e : y = x
    · subst e
      simp [nd.1]
    · simp [e]
theorem loop_find {f : α → Unit → Option (Out Unit ρ)} {c : α → Bool} {g : α → ρ} : ∀ {xs : List α}, (∀ x ∈ xs, f x () = some (if c x then .rt (g x) else .nx ())) → loopGo f xs () = some (match xs.find? c with | some x => .rt (g x) | none => .nx ())
  | [], _ => rfl
  | x :: xs, h => by
    show (f x ()).bind _ = _
    rw [h x List.mem_cons_self, List.find?_cons]
    cases c x with
    | true => rfl
    | false => exact loop_find fun y hy => h y (List.mem_cons_of_mem _ hy)
theorem loop_some {f : α → Unit → Option (Out Unit ρ)} {g : α → Option ρ} : ∀ {xs : List α}, (∀ x ∈ xs, f x () = some (match g x with | some v => .rt v | none => .nx ())) → loopGo f xs () = some (match xs.findSome? g with | some v => .rt v | none => .nx ())
  | [], _ => rfl
  | x :: xs, h => by
    show (f x ()).bind _ = _
    rw [h x List.mem_cons_self, List.findSome?_cons]
    cases g x with
    | some v => rfl
    | none => exact loop_some fun y hy => h y (List.mem_cons_of_mem _ hy)
/-! ### tables, pairs -/
def mk (n : Nat) (r : Int → Int → α) : List (List α) := (rl n).map fun x => (rl n).map (r x)
def prs (n : Nat) (r : Int → Int → Bool) : List (Int × Int) := (rl n).flatMap fun x => ((rl n).filter (r x)).map fun y => (x, y)
theorem mk_len {n : Nat} {r : Int → Int → α} : (mk n r).length = n := by unfold mk; rw [List.length_map, rl_len]
theorem mk_at {n : Nat} {r : Int → Int → α} {x y : Int} (hx : x ∈ rl n) (hy : y ∈ rl n) : ((atI (mk n r) x).bind fun row => atI row y) = some (r x y) := by
  unfold mk
  rw [vat hx]
  exact vat hy
theorem mk_congr {n : Nat} {r q : Int → Int → α} (h : ∀ x ∈ rl n, ∀ y ∈ rl n, r x y = q x y) : mk n r = mk n q := vcongr fun x hx => vcongr fun y hy => h x hx y hy
theorem flat_pick {l : α → List β} {x : α} [DecidableEq α] : ∀ {xs : List α}, xs.Nodup → x ∈ xs → (xs.flatMap fun a => if a = x then l a else []) = l x
  | a :: xs, nd, h => by
    have nd := List.nodup_cons.mp nd
    rw [List.flatMap_cons]
    by_cases e : a = x
    · subst e
      rw [if_pos rfl, List.flatMap_eq_nil_iff.mpr fun b hb => if_neg fun z : b = a => nd.1 (z ▸ hb), List.append_nil]
    · rw [if_neg e, List.nil_append]
      exact flat_pick nd.2 ((List.mem_cons.mp h).resolve_left fun z => e z.symm)
theorem prs_mem {n : Nat} {r : Int → Int → Bool} {p : Int × Int} : p ∈ prs n r ↔ p.1 ∈ rl n ∧ p.2 ∈ rl n ∧ r p.1 p.2 = true := by
  unfold prs
  constructor
  · intro h
    obtain ⟨x, hx, hp⟩ := List.mem_flatMap.mp h
    obtain ⟨y, hy, rfl⟩ := List.mem_map.mp hp
    obtain ⟨h1, h2⟩ := List.mem_filter.mp hy
    exact ⟨hx, h1, h2⟩
  · intro ⟨h1, h2, h3⟩
    exact List.mem_flatMap.mpr ⟨p.1, h1, List.mem_map.mpr ⟨p.2, List.mem_filter.mpr ⟨h2, h3⟩, rfl⟩⟩
theorem flat_cong {f g : α → List β} {l : List α} (h : ∀ x ∈ l, f x = g x) : l.flatMap f = l.flatMap g := by
  rw [List.flatMap_def, List.flatMap_def, List.map_congr_left h]
theorem flat_le {f : α → List β} {c : Nat} : ∀ {l : List α}, (∀ x ∈ l, (f x).length ≤ c) → (l.flatMap f).length ≤ l.length * c
  | [], _ => by simp
  | x :: l, h => by
    rw [List.flatMap_cons, List.length_append, List.length_cons, Nat.succ_mul]
    have a := h x List.mem_cons_self
    have b := flat_le (l := l) fun y hy => h y (List.mem_cons_of_mem _ hy)
    omega
theorem prs_len {n : Nat} {r : Int → Int → Bool} : (prs n r).length ≤ n * n := by
  have := flat_le (l := rl n) (f := fun x => ((rl n).filter (r x)).map fun y => (x, y)) (c := n) fun x _ => by
    rw [List.length_map]
    exact Nat.le_trans (List.length_filter_le _ _) (by rw [rl_len]; exact Nat.le_refl _)
  rw [rl_len] at this
  exact this
theorem prs_filter {n : Nat} {r : Int → Int → Bool} {q : Int × Int → Bool} : (prs n r).filter q = (rl n).flatMap fun x => ((rl n).filter fun y => r x y && q (x, y)).map fun y => (x, y) := by
  unfold prs
  rw [List.filter_flatMap]
  refine flat_cong fun x _ => ?_
  rw [List.filter_map, List.filter_filter]
  congr 1
  exact List.filter_congr fun y _ => by rw [Bool.and_comm]; rfl
theorem prs_lo {n : Nat} {r : Int → Int → Bool} {q : Int → Int → Bool} {x : Int} (hx : x ∈ rl n) : ((prs n r).filter fun p => decide (p.1 = x) && q p.1 p.2).map (·.2) = (rl n).filter fun y => r x y && q x y := by
  rw [prs_filter, List.map_flatMap]
  have : ∀ a ∈ rl n, (((rl n).filter fun y => r a y && (decide (a = x) && q a y)).map fun y => (a, y)).map (·.2) = if a = x then (rl n).filter fun y => r a y && q a y else [] := fun a _ => by
    rw [List.map_map]
    by_cases e : a = x
    · rw [if_pos e]
      refine Eq.trans (b := ((rl n).filter fun y => r a y && q a y).map id) ?_ (List.map_id _)
      congr 1
      exact List.filter_congr fun y _ => by simp [e]
    · rw [if_neg e, List.filter_eq_nil_iff.mpr fun y _ => by simp [e]]
      rfl
  exact (flat_cong this).trans (flat_pick (rl_nodup n) hx)
theorem filter_one {xs : List Int} {x : Int} (nd : xs.Nodup) (hx : x ∈ xs) : xs.filter (fun y => decide (y = x)) = [x] := by
  induction xs with
  | nil => exact (List.not_mem_nil hx).elim
  | cons a xs ih =>
    have nd := List.nodup_cons.mp nd
    by_cases e : a = x
    · subst e
      rw [List.filter_cons_of_pos (by simp), List.filter_eq_nil_iff.mpr fun y hy => by
        have : y ≠ a := fun z => nd.1 (z ▸ hy)
        simp [this]]
    · rw [List.filter_cons_of_neg (by simp [e])]
      exact ih nd.2 ((List.mem_cons.mp hx).resolve_left fun z => e z.symm)
theorem flat_filter {p : α → Bool} {xs : List α} : (xs.flatMap fun a => if p a then [a] else []) = xs.filter p := by
  induction xs with
  | nil => rfl
  | cons a xs ih =>
    rw [List.flatMap_cons, ih]
    cases h : p a with
    | true => rw [List.filter_cons_of_pos h]; rfl
    | false => rw [List.filter_cons_of_neg (by simp [h])]; rfl
theorem prs_hi {n : Nat} {r : Int → Int → Bool} {q : Int → Int → Bool} {x : Int} (hx : x ∈ rl n) : ((prs n r).filter fun p => decide (p.2 = x) && q p.1 p.2).map (·.1) = (rl n).filter fun a => r a x && q a x := by
  rw [prs_filter, List.map_flatMap]
  have : ∀ a ∈ rl n, (((rl n).filter fun y => r a y && (decide (y = x) && q a y)).map fun y => (a, y)).map (·.1) = if r a x && q a x then [a] else [] := fun a _ => by
    rw [List.map_map]
    cases h : r a x && q a x with
    | true =>
      obtain ⟨h1, h2⟩ := Bool.and_eq_true_iff.mp h
      have e : (rl n).filter (fun y => r a y && (decide (y = x) && q a y)) = [x] := by
        rw [← filter_one (rl_nodup n) hx]
        refine List.filter_congr fun y _ => ?_
        by_cases e : y = x
        · subst e
          simp [h1, h2]
        · simp [e]
      rw [e]
      rfl
    | false =>
      rw [List.filter_eq_nil_iff.mpr fun y _ => by
        by_cases e : y = x
        · subst e
          simp only [decide_true, Bool.true_and]
          rw [h]
          simp
        · simp [e]]
      rfl
  exact (flat_cong this).trans flat_filter
end CC
set_option maxHeartbeats 1000000
/-! Dicts with int keys, rows put together, equality with an empty row. -/
namespace CC
open PySem PySem.Spec L2
open PyProof.Rows hiding St
variable {α β γ τ ρ : Type}
theorem get_putR {k j x : Int} : ∀ {s : List (Int × Int)}, (getM s k).isSome = true → getM (putR s k x) j = if j = k then some x else getM s j
  | [], h => by cases h
  | q :: s, h => by
    unfold getM putR
    unfold getM at h
    by_cases e : q.1 = k
    · rw [if_pos e]
      by_cases ej : j = k
      · subst ej
        rw [if_pos rfl]
        show (if q.1 = j then some x else _) = _
        rw [if_pos e]
      · rw [if_neg ej]
        show (if q.1 = j then some x else getM (putR s k x) j) = _
        have : ¬ q.1 = j := fun z => ej (by omega)
        rw [if_neg this, if_neg this]
        rw [if_pos e] at h
        have put_ne : ∀ s : List (Int × Int), getM (putR s k x) j = getM s j := by
          intro s
          induction s with
          | nil => rfl
          | cons p s ih =>
            unfold getM putR
            by_cases z : p.1 = k
            · rw [if_pos z]
              show (if p.1 = j then some x else getM (putR s k x) j) = _
              have : ¬ p.1 = j := fun y => ej (by omega)
              rw [if_neg this, if_neg this, ih]
            · rw [if_neg z]
              show (if p.1 = j then some p.2 else getM (putR s k x) j) = _
              rw [ih]
        exact put_ne s
    · rw [if_neg e] at h ⊢
      show (if q.1 = j then some q.2 else getM (putR s k x) j) = _
      rw [get_putR h]
      by_cases ej : j = k
      · subst ej
        rw [if_neg e, if_pos rfl, if_pos rfl]
      · rw [if_neg ej, if_neg ej]
theorem get_snoc {k j x : Int} : ∀ {s : List (Int × Int)}, getM s k = none → getM (s ++ [(k, x)]) j = if j = k then some x else getM s j
  | [], _ => by
    show (if k = j then some x else none) = _
    by_cases e : j = k
    · rw [if_pos e, if_pos e.symm]
    · rw [if_neg e, if_neg fun z => e z.symm]
      rfl
  | q :: s, h => by
    unfold getM at h
    by_cases e : q.1 = k
    · rw [if_pos e] at h; cases h
    · rw [if_neg e] at h
      show (if q.1 = j then some q.2 else getM (s ++ [(k, x)]) j) = if j = k then some x else if q.1 = j then some q.2 else getM s j
      rw [get_snoc h]
      by_cases ej : j = k
      · subst ej
        rw [if_neg e, if_pos rfl, if_pos rfl]
      · rw [if_neg ej, if_neg ej]
theorem put_get {s : List (Int × Int)} {k x : Int} (h : s.length < 1000000) : ∃ s', putMO s k x = some s' ∧ s'.length ≤ s.length + 1 ∧ ∀ j, getM s' j = if j = k then some x else getM s j := by
  refine ⟨putM s k x, by unfold putMO; rw [if_pos (show s.length < LIM from h)], ?_, fun j => ?_⟩
  · unfold putM
    split
    · have : ∀ s : List (Int × Int), (putR s k x).length = s.length := by
        intro s
        induction s with
        | nil => rfl
        | cons p s ih =>
          unfold putR
          rw [List.length_cons, List.length_cons, ih]
      rw [this]
      omega
    · rw [List.length_append, List.length_singleton]
      omega
  · unfold putM
    cases e : getM s k with
    | none =>
      rw [if_neg (fun z => nomatch z), get_snoc e]
    | some y =>
      show getM (if (some y).isSome = true then putR s k x else s ++ [(k, x)]) j = _
      rw [if_pos (show (some y).isSome = true from rfl), get_putR (by rw [e]; rfl)]
theorem fold_cat {f : α → List β → Option (List β)} {h : α → List β} {c : Nat} : ∀ {xs : List α} {s : List β}, s.length + xs.length * c ≤ 1000000 → (∀ x ∈ xs, (h x).length ≤ c) → (∀ x ∈ xs, ∀ s : List β, s.length + c ≤ 1000000 → f x s = some (s ++ h x)) → foldGo f xs s = some (s ++ xs.flatMap h)
  | [], s, _, _, _ => by
    rw [List.flatMap_nil, List.append_nil]
    rfl
  | x :: xs, s, hl, hc, hf => by
    rw [List.length_cons, Nat.succ_mul] at hl
    show (f x s).bind _ = _
    rw [hf x List.mem_cons_self s (by omega)]
    have := hc x List.mem_cons_self
    refine (fold_cat (c := c) (by rw [List.length_append]; omega) (fun y hy => hc y (List.mem_cons_of_mem _ hy)) fun y hy => hf y (List.mem_cons_of_mem _ hy)).trans ?_
    rw [List.append_assoc, List.flatMap_cons]
theorem loop_someO {f : α → Unit → Option (Out Unit ρ)} {g : α → Option γ} {h : γ → ρ} : ∀ {xs : List α}, (∀ x ∈ xs, f x () = some (match g x with | some v => .rt (h v) | none => .nx ())) → loopGo f xs () = some (match xs.findSome? g with | some v => .rt (h v) | none => .nx ())
  | [], _ => rfl
  | x :: xs, hs => by
    show (f x ()).bind _ = _
    rw [hs x List.mem_cons_self, List.findSome?_cons]
    cases g x with
    | some v => rfl
    | none => exact loop_someO fun y hy => hs y (List.mem_cons_of_mem _ hy)
def Sm (d : Nat) (x : PV) : Prop := PyData.canLay0 (toD x) = true ∧ PyData.depth (toD x) ≤ d
theorem sm_int (d : Nat) (i : Int) : Sm d (.int i) := by
  constructor
  · simp [toD, PyData.canLay0]
  · simp [toD, PyData.depth]
theorem sm_str (d : Nat) {z : Str} (h : PyData.canLay0 (.str z) = true) : Sm d (.str z) := by
  constructor
  · simpa [toD] using h
  · simp [toD, PyData.depth]
theorem sm_all {d : Nat} : ∀ {l : List PV}, (∀ x ∈ l, Sm d x) → PyData.canLayAll0 (toDs l) = true ∧ PyData.depthAll (toDs l) ≤ d
  | [], _ => by simp [toDs, PyData.canLayAll0, PyData.depthAll]
  | x :: l, h => by
    obtain ⟨h1, h2⟩ := sm_all (l := l) fun y hy => h y (List.mem_cons_of_mem _ hy)
    obtain ⟨h3, h4⟩ := h x List.mem_cons_self
    constructor
    · simp [toDs, PyData.canLayAll0, h1, h3]
    · simp only [toDs, PyData.depthAll]
      omega
theorem sm_tup {d : Nat} {l : List PV} (h : ∀ x ∈ l, Sm d x) : Sm (d + 1) (.tup l) := by
  obtain ⟨h1, h2⟩ := sm_all h
  constructor
  · simpa [toD, PyData.canLay0] using h1
  · simpa [toD, PyData.depth] using h2
theorem sm_lst {d : Nat} {l : List PV} (h : ∀ x ∈ l, Sm d x) : Sm (d + 1) (.lst l) := by
  obtain ⟨h1, h2⟩ := sm_all h
  constructor
  · simpa [toD, PyData.canLay0] using h1
  · simpa [toD, PyData.depth] using h2
theorem Sm.sh {d : Nat} {x : PV} (h : Sm d x) (hd : d ≤ 64) : SeqAt.shaped (toD x) = true := by
  unfold SeqAt.shaped
  rw [h.1, decide_eq_true (Nat.le_trans h.2 hd)]
  rfl
theorem eqP_lst0 {d : Nat} {l : List PV} (h : ∀ x ∈ l, Sm d x) (hd : d ≤ 60) : eqP (.lst l) (.lst []) = some l.isEmpty := by
  unfold eqP
  rw [if_pos ⟨(sm_lst h).sh (by omega), (sm_lst (d := 0) (l := []) fun _ z => (List.not_mem_nil z).elim).sh (by omega)⟩]
  congr 1
  cases l with
  | nil => rfl
  | cons x l => rfl
theorem eqP_tup0 {d : Nat} {l : List PV} (h : ∀ x ∈ l, Sm d x) (hd : d ≤ 60) : eqP (.tup l) (.tup []) = some l.isEmpty := by
  unfold eqP
  rw [if_pos ⟨(sm_tup h).sh (by omega), (sm_tup (d := 0) (l := []) fun _ z => (List.not_mem_nil z).elim).sh (by omega)⟩]
  congr 1
  cases l with
  | nil => rfl
  | cons x l => rfl
end CC
set_option maxHeartbeats 4000000
namespace K30
open PySem PySem.Spec L2 CC
open PyProof.Rows hiding St
def topS (i : Nat) : Stmt := PySem.Challenge.pw_chaincore_k30_just_renamings.main.body.getD i (.Pass ⟨0, 0, 0, 0⟩)
abbrev s__law_mixed : Stmt := topS 3
abbrev s__law_start : Stmt := topS 4
abbrev s__law_draw : Stmt := topS 5
abbrev s__law_turned : Stmt := topS 7
abbrev s__law_renamed : Stmt := topS 9
abbrev s__law_large : Stmt := topS 11
abbrev s__law_order : Stmt := topS 8
abbrev s__law_values : Stmt := topS 18
abbrev s__law_is_row : Stmt := topS 16
abbrev s__law_is_renaming : Stmt := topS 17
abbrev s_is_renaming : Stmt := topS 1
abbrev s__law_asked : Stmt := topS 19
abbrev s__law_marked : Stmt := topS 10
abbrev s__law_one : Stmt := topS 6
abbrev s__law_one_cover : Stmt := topS 15
abbrev s__law_without : Stmt := topS 12
abbrev s__law_loose : Stmt := topS 14
abbrev s__law_linked : Stmt := topS 13
abbrev s_law : Stmt := topS 20
theorem sc__law_mixed : FnScope ["number", "count", "first", "second", "third"] ["number", "count"] (defScope s__law_mixed) := ⟨rfl, rfl, rfl, by decide +kernel, rfl, by decide +kernel, by decide +kernel⟩
theorem sc__law_start : FnScope ["script", "cells", "seed", "cell"] ["script"] (defScope s__law_start) := ⟨rfl, rfl, rfl, by decide +kernel, rfl, by decide +kernel, by decide +kernel⟩
theorem sc__law_draw : FnScope ["st", "many", "digit", "cell"] ["st", "many"] (defScope s__law_draw) := ⟨rfl, rfl, rfl, by decide +kernel, rfl, by decide +kernel, by decide +kernel⟩
theorem sc__law_turned : FnScope ["st", "n", "left", "row", "k"] ["st", "n"] (defScope s__law_turned) := ⟨rfl, rfl, rfl, by decide +kernel, rfl, by decide +kernel, by decide +kernel⟩
theorem sc__law_renamed : FnScope ["order", "row", "pair"] ["order", "row"] (defScope s__law_renamed) := ⟨rfl, rfl, rfl, by decide +kernel, rfl, by decide +kernel, by decide +kernel⟩
theorem sc__law_large : FnScope ["st", "n", "width", "is_chains", "pairs", "x", "row", "y"] ["st", "n"] (defScope s__law_large) := ⟨rfl, rfl, rfl, by decide +kernel, rfl, by decide +kernel, by decide +kernel⟩
theorem sc__law_order : FnScope ["st", "n", "thin", "row", "lows", "j", "pairs", "y", "low", "k", "x", "z"] ["st", "n", "thin"] (defScope s__law_order) := ⟨rfl, rfl, rfl, by decide +kernel, rfl, by decide +kernel, by decide +kernel⟩
theorem sc__law_values : FnScope ["st", "row", "n", "deep", "turn", "values", "i", "k", "odd", "other", "one"] ["st", "row"] (defScope s__law_values) := ⟨rfl, rfl, rfl, by decide +kernel, rfl, by decide +kernel, by decide +kernel⟩
theorem sc__law_is_row : FnScope ["value", "n", "found", "v"] ["value", "n"] (defScope s__law_is_row) := ⟨rfl, rfl, rfl, by decide +kernel, rfl, by decide +kernel, by decide +kernel⟩
theorem sc__law_is_renaming : FnScope ["first", "second", "value"] ["first", "second", "value"] (defScope s__law_is_renaming) := ⟨rfl, rfl, rfl, by decide +kernel, rfl, by decide +kernel, by decide +kernel⟩
theorem sc_is_renaming : FnScope ["first", "second", "value", "point", "images", "x", "y"] ["first", "second", "value"] (defScope s_is_renaming) := ⟨rfl, rfl, rfl, by decide +kernel, rfl, by decide +kernel, by decide +kernel⟩
theorem sc__law_asked : FnScope ["first", "second", "value", "due", "told"] ["first", "second", "value"] (defScope s__law_asked) := ⟨rfl, rfl, rfl, by decide +kernel, rfl, by decide +kernel, by decide +kernel⟩
theorem sc__law_marked : FnScope ["pairs", "marked", "pair"] ["pairs"] (defScope s__law_marked) := ⟨rfl, rfl, rfl, by decide +kernel, rfl, by decide +kernel, by decide +kernel⟩
theorem sc__law_one : FnScope ["st", "row"] ["st", "row"] (defScope s__law_one) := ⟨rfl, rfl, rfl, by decide +kernel, rfl, by decide +kernel, by decide +kernel⟩
theorem sc__law_one_cover : FnScope ["st", "order", "marked", "x", "highs", "first", "pair", "y", "z"] ["st", "order"] (defScope s__law_one_cover) := ⟨rfl, rfl, rfl, by decide +kernel, rfl, by decide +kernel, by decide +kernel⟩
theorem sc__law_without : FnScope ["order", "pair", "other"] ["order", "pair"] (defScope s__law_without) := ⟨rfl, rfl, rfl, by decide +kernel, rfl, by decide +kernel, by decide +kernel⟩
theorem sc__law_loose : FnScope ["order", "marked", "found", "x", "y"] ["order"] (defScope s__law_loose) := ⟨rfl, rfl, rfl, by decide +kernel, rfl, by decide +kernel, by decide +kernel⟩
theorem sc__law_linked : FnScope ["order", "x", "y", "lows", "highs", "marked", "pairs", "low", "pair", "high"] ["order", "x", "y"] (defScope s__law_linked) := ⟨rfl, rfl, rfl, by decide +kernel, rfl, by decide +kernel, by decide +kernel⟩
theorem sc_law : FnScope ["script", "st", "n", "row", "second", "value", "loose", "less", "pair", "more", "other", "line", "first"] ["script"] (defScope s_law) := ⟨rfl, rfl, rfl, by decide +kernel, rfl, by decide +kernel, by decide +kernel⟩
def h0O (s : ((List Int) × Int × Int × Int × Int × Int)) : OP := hetO [sh ((lstS intS) s.1), sh (intS s.2.1), sh (intS s.2.2.1), sh (intS s.2.2.2.1), sh (intS s.2.2.2.2.1), sh (intS s.2.2.2.2.2)]
/-- what the top has left -/
structure Tx (K : PySem.W.Frag) (mg : Str → Option Value) where
  a__law_mixed : Addr
  d__law_mixed : FuncData
  F__law_mixed : FnP K "_law_mixed" s__law_mixed a__law_mixed d__law_mixed
  b__law_mixed : Binds K d__law_mixed ["number", "count"] []
  g__law_mixed : mg "_law_mixed" = some (.ref a__law_mixed)
  a__law_start : Addr
  d__law_start : FuncData
  F__law_start : FnP K "_law_start" s__law_start a__law_start d__law_start
  b__law_start : Binds K d__law_start ["script"] []
  g__law_start : mg "_law_start" = some (.ref a__law_start)
  a__law_draw : Addr
  d__law_draw : FuncData
  F__law_draw : FnP K "_law_draw" s__law_draw a__law_draw d__law_draw
  b__law_draw : Binds K d__law_draw ["st", "many"] []
  g__law_draw : mg "_law_draw" = some (.ref a__law_draw)
  a__law_turned : Addr
  d__law_turned : FuncData
  F__law_turned : FnP K "_law_turned" s__law_turned a__law_turned d__law_turned
  b__law_turned : Binds K d__law_turned ["st", "n"] []
  g__law_turned : mg "_law_turned" = some (.ref a__law_turned)
  a__law_renamed : Addr
  d__law_renamed : FuncData
  F__law_renamed : FnP K "_law_renamed" s__law_renamed a__law_renamed d__law_renamed
  b__law_renamed : Binds K d__law_renamed ["order", "row"] []
  g__law_renamed : mg "_law_renamed" = some (.ref a__law_renamed)
  a__law_large : Addr
  d__law_large : FuncData
  F__law_large : FnP K "_law_large" s__law_large a__law_large d__law_large
  b__law_large : Binds K d__law_large ["st", "n"] []
  g__law_large : mg "_law_large" = some (.ref a__law_large)
  a__law_order : Addr
  d__law_order : FuncData
  F__law_order : FnP K "_law_order" s__law_order a__law_order d__law_order
  b__law_order : Binds K d__law_order ["st", "n", "thin"] []
  g__law_order : mg "_law_order" = some (.ref a__law_order)
  a__law_values : Addr
  d__law_values : FuncData
  F__law_values : FnP K "_law_values" s__law_values a__law_values d__law_values
  b__law_values : Binds K d__law_values ["st", "row"] []
  g__law_values : mg "_law_values" = some (.ref a__law_values)
  a__law_is_row : Addr
  d__law_is_row : FuncData
  F__law_is_row : FnP K "_law_is_row" s__law_is_row a__law_is_row d__law_is_row
  b__law_is_row : Binds K d__law_is_row ["value", "n"] []
  g__law_is_row : mg "_law_is_row" = some (.ref a__law_is_row)
  a__law_is_renaming : Addr
  d__law_is_renaming : FuncData
  F__law_is_renaming : FnP K "_law_is_renaming" s__law_is_renaming a__law_is_renaming d__law_is_renaming
  b__law_is_renaming : Binds K d__law_is_renaming ["first", "second", "value"] []
  g__law_is_renaming : mg "_law_is_renaming" = some (.ref a__law_is_renaming)
  a_is_renaming : Addr
  d_is_renaming : FuncData
  F_is_renaming : FnP K "is_renaming" s_is_renaming a_is_renaming d_is_renaming
  b_is_renaming : Binds K d_is_renaming ["first", "second", "value"] []
  q0_is_renaming : KBn K d_is_renaming ["first", "second", "value"] 0 ["value", "second", "first"] (fun us ws => sel (us ++ ws) [2, 1, 0]) (fun vs zs => sel (vs ++ zs) [2, 1, 0])
  g_is_renaming : mg "is_renaming" = some (.ref a_is_renaming)
  a__law_asked : Addr
  d__law_asked : FuncData
  F__law_asked : FnP K "_law_asked" s__law_asked a__law_asked d__law_asked
  b__law_asked : Binds K d__law_asked ["first", "second", "value"] []
  g__law_asked : mg "_law_asked" = some (.ref a__law_asked)
  a__law_marked : Addr
  d__law_marked : FuncData
  F__law_marked : FnP K "_law_marked" s__law_marked a__law_marked d__law_marked
  b__law_marked : Binds K d__law_marked ["pairs"] []
  g__law_marked : mg "_law_marked" = some (.ref a__law_marked)
  a__law_one : Addr
  d__law_one : FuncData
  F__law_one : FnP K "_law_one" s__law_one a__law_one d__law_one
  b__law_one : Binds K d__law_one ["st", "row"] []
  g__law_one : mg "_law_one" = some (.ref a__law_one)
  a__law_one_cover : Addr
  d__law_one_cover : FuncData
  F__law_one_cover : FnP K "_law_one_cover" s__law_one_cover a__law_one_cover d__law_one_cover
  b__law_one_cover : Binds K d__law_one_cover ["st", "order"] []
  g__law_one_cover : mg "_law_one_cover" = some (.ref a__law_one_cover)
  a__law_without : Addr
  d__law_without : FuncData
  F__law_without : FnP K "_law_without" s__law_without a__law_without d__law_without
  b__law_without : Binds K d__law_without ["order", "pair"] []
  g__law_without : mg "_law_without" = some (.ref a__law_without)
  a__law_loose : Addr
  d__law_loose : FuncData
  F__law_loose : FnP K "_law_loose" s__law_loose a__law_loose d__law_loose
  b__law_loose : Binds K d__law_loose ["order"] []
  g__law_loose : mg "_law_loose" = some (.ref a__law_loose)
  a__law_linked : Addr
  d__law_linked : FuncData
  F__law_linked : FnP K "_law_linked" s__law_linked a__law_linked d__law_linked
  b__law_linked : Binds K d__law_linked ["order", "x", "y"] []
  g__law_linked : mg "_law_linked" = some (.ref a__law_linked)
  a_law : Addr
  d_law : FuncData
  F_law : FnP K "law" s_law a_law d_law
  b_law : Binds K d_law ["script"] []
  g_law : mg "law" = some (.ref a_law)
  m_list : mg "list" = none
  m_len : mg "len" = none
  m_int : mg "int" = none
  m_abs : mg "abs" = none
  m_range : mg "range" = none
  m_tuple : mg "tuple" = none
  m_sorted : mg "sorted" = none
  m_str : mg "str" = none
  m_isinstance : mg "isinstance" = none
  m_bool : mg "bool" = none
section
variable {P : Program} {w : World} {K : PySem.W.Frag} {mg : Str → Option Value} {base : Heap}
def M_law_mixed (a : Int × (Int × Unit)) : Option Int :=
 (((((mulO a.1 (48271 : Int)).bind fun x6 => (mulO a.2.1 (69621 : Int)).bind fun x7 => some (x6 + x7)).bind fun x8 => some (x8 + (13 : Int))).bind fun x9 => some x9).bind fun x10 => modO x10 (2147483647 : Int)).bind fun a11 => (((((mulO a11 a11).bind fun x12 => (mulO a.2.1 (40692 : Int)).bind fun x13 => some (x12 + x13)).bind fun x14 => some (x14 + (5 : Int))).bind fun x15 => some x15).bind fun x16 => modO x16 (2147483399 : Int)).bind fun a17 => (((((mulO a17 a17).bind fun x18 => some (x18 + a11)).bind fun x19 => some (x19 + a.2.1)).bind fun x20 => some x20).bind fun x21 => modO x21 (2147483629 : Int)).bind fun a22 => (((mulO a22 (2147483399 : Int)).bind fun x23 => some (x23 + a17)).bind fun x24 => mulO x24 (2147483647 : Int)).bind fun x25 => some (x25 + a11)
theorem ok_law_mixed (T : Tx K mg) : FnOk P w K mg base CX0 1 T.a__law_mixed T.d__law_mixed ["number", "count"] (spP (fun a : Int × (Int × Unit) => [intS a.1, intS a.2.1]) M_law_mixed (fun x => sh (intS x))) :=
 fnd_pure (Δ := nonC 5) T.F__law_mixed sc__law_mixed (fun _ => rfl) (by decide) fun a => JB.cong (
 jb_cons (js_set 2 sc__law_mixed.nd (jn_bin oMod ov_mod (int_int T.m_int (jn_bin oAdd ov_add (jn_bin oAdd ov_add (jn_bin oMul ov_mul (jn_var (E := intS) (a := a.1) 0) jn_int) (jn_bin oMul ov_mul (jn_var (E := intS) (a := a.2.1) 1) jn_int)) jn_int)) jn_int)) fun a11 =>
 jb_cons (js_set 3 sc__law_mixed.nd (jn_bin oMod ov_mod (int_int T.m_int (jn_bin oAdd ov_add (jn_bin oAdd ov_add (jn_bin oMul ov_mul (jn_var (E := intS) (a := a11) 2) (jn_var (E := intS) (a := a11) 2)) (jn_bin oMul ov_mul (jn_var (E := intS) (a := a.2.1) 1) jn_int)) jn_int)) jn_int)) fun a17 =>
 jb_cons (js_set 4 sc__law_mixed.nd (jn_bin oMod ov_mod (int_int T.m_int (jn_bin oAdd ov_add (jn_bin oAdd ov_add (jn_bin oMul ov_mul (jn_var (E := intS) (a := a17) 3) (jn_var (E := intS) (a := a17) 3)) (jn_var (E := intS) (a := a11) 2)) (jn_var (E := intS) (a := a.2.1) 1))) jn_int)) fun a22 =>
 jb_ret (weak_none _) (jn_bin oAdd ov_add (jn_bin oMul ov_mul (jn_bin oAdd ov_add (jn_bin oMul ov_mul (jn_var (E := intS) (a := a22) 4) jn_int) (jn_var (E := intS) (a := a17) 3)) jn_int) (jn_var (E := intS) (a := a11) 2))) (by unfold M_law_mixed; first | (dsimp only [CC.sb]; done) | (dsimp only [CC.sb]; rfl) | rfl)
def M_law_start (a : (List Int) × Unit) : Option ((List Int) × Int × Int × Int × Int × Int) :=
 (foldGo (fun x4 s5 => (M_law_mixed (s5 + x4, ((7 : Int), ()))).bind fun a26 => some a26) a.1 (a.1.length : Int)).bind fun a27 => some (a.1, (0 : Int), (0 : Int), (0 : Int), (0 : Int), a27)
theorem ok_law_start (T : Tx K mg) : FnOk P w K mg base CX0 2 T.a__law_start T.d__law_start ["script"] (spP (fun a : (List Int) × Unit => [(scrS K) a.1]) M_law_start h0O) :=
 fnd_pure (Δ := nonC 4) T.F__law_start sc__law_start (fun _ => rfl) (by decide) fun a => JB.cong (
 jb_cons (js_set 1 sc__law_start.nd (list_scr T.m_list (jn_var (E := (scrS K)) (a := a.1) 0))) fun a1 =>
 jb_cons (js_set 2 sc__law_start.nd (len_lstO T.m_len (jr_var (R := (lstO (fun x => sh (intS x)))) (a := a1) 1))) fun a2 =>
 JB.frz (i := 1) (o := (lstO (fun x => sh (intS x))) a1) (p := (lstS intS) a1) rfl ((fz_lst (fun _ => fz_sh)) _) (jb_cons (js_forS (Γl := fun s3 : Int => [some (sh ((scrS K) a.1)), some (sh ((lstS intS) a1)), some (sh (intS s3)), none]) a2 (ji_lst (jn_var (E := (lstS intS)) (a := a1) 1)) (jg_name (E := intS) 3 sc__law_start.nd) (weak_mask [true, true, true, false] _) (fun _ => all_lt rfl) fun x4 s5 =>
 jb_cons (js_set 2 sc__law_start.nd (jn_call (ok_law_mixed T) T.g__law_mixed T.F__law_mixed.kp T.b__law_mixed (Nat.le_of_ble_eq_true rfl) (ja_cons (jn_bin oAdd ov_add (jn_var (E := intS) (a := s5) 2) (jn_var (E := intS) (a := x4) 3)) (ja_cons jn_int ja_nil)))) fun a26 =>
 jb_nil (x := a26) rfl (weak_mask [true, true, true, false] _)) fun a27 =>
 jb_ret (weak_none _) (jn_hl (T := h0O) (g := fun z => (z.1, z.2.1, z.2.2.1, z.2.2.2.1, z.2.2.2.2.1, z.2.2.2.2.2.1)) (ja_cons (jn_var (E := (lstS intS)) (a := a1) 1) (ja_cons jn_int (ja_cons jn_int (ja_cons jn_int (ja_cons jn_int (ja_cons (jn_var (E := intS) (a := a27) 2) ja_nil))))))))) (by unfold M_law_start; first | (dsimp only [CC.sb]; done) | (dsimp only [CC.sb]; rfl) | rfl)
def M_law_draw (a : Int × Unit) (s : ((List Int) × Int × Int × Int × Int × Int)) : Option (Int × ((List Int) × Int × Int × Int × Int × Int)) :=
 ((bif decide (s.2.2.1 = (0 : Int)) then some true else some (decide ((59 : Int) < s.2.2.2.1))).bind fun x60 => bif x60 then bif decide ((s.1.length : Int) ≤ s.2.1) then ((((M_law_mixed (s.2.2.2.2.2, (s.2.2.2.2.1 + (1 : Int), ()))).bind fun x46 => some x46).bind fun x47 => modO x47 a.1).bind fun x48 => some (x48, (s.1, s.2.1, s.2.2.1, s.2.2.2.1, s.2.2.2.2.1 + (1 : Int), s.2.2.2.2.2))).bind fun y59 => some (Out.rt y59) else (atI s.1 s.2.1).bind fun a49 => ((modO a49 (2 : Int)).bind fun x51 => some (decide (x51 = (1 : Int)))).bind fun x58 => bif x58 then ((((M_law_mixed (a49, (s.2.2.2.2.1 + (1 : Int), ()))).bind fun x52 => some x52).bind fun x53 => modO x53 a.1).bind fun x54 => some (x54, (s.1, s.2.1 + (1 : Int), s.2.2.1, s.2.2.2.1, s.2.2.2.2.1 + (1 : Int), s.2.2.2.2.2))).bind fun y57 => some (Out.rt y57) else (divO (absI a49) (2 : Int)).bind fun a55 => some (Out.nx (s.1, s.2.1 + (1 : Int), a55, (0 : Int), s.2.2.2.2.1 + (1 : Int), s.2.2.2.2.2)) else some (Out.nx (s.1, s.2.1, s.2.2.1, s.2.2.2.1, s.2.2.2.2.1 + (1 : Int), s.2.2.2.2.2))).bind fun o65 => o65.k (fun a61 => (modO a61.2.2.1 a.1).bind fun a62 => (divO a61.2.2.1 a.1).bind fun a63 => some (a62, (a61.1, a61.2.1, a63, a61.2.2.2.1 + (1 : Int), a61.2.2.2.2.1, a61.2.2.2.2.2))) fun r66 => some ((fun r => r) r66)
theorem ok_law_draw (T : Tx K mg) : FnOk P w K mg base CX0 2 T.a__law_draw T.d__law_draw ["st", "many"] (spS h0O (fun a : Int × Unit => [intS a.1]) M_law_draw (fun x => sh (intS x))) :=
 fnd_state T.F__law_draw sc__law_draw (fun _ => rfl) (by decide) fun a s => JB.cong (
 jb_cons (js_setH (ps := [sh ((lstS intS) s.1), sh (intS s.2.1), sh (intS s.2.2.1), sh (intS s.2.2.2.1), sh (intS s.2.2.2.2.1), sh (intS s.2.2.2.2.2)]) (E := intS) 0 4 (jn_bin oAdd ov_add (jn_of (jr_ixO (R := (fun x => sh (intS x))) (g := fun z => z.2.2.2.2.1) 4 (jr_var (R := h0O) (a := s) 0))) jn_int)) fun a30 =>
 jb_consO (Γl := fun v45 : ((List Int) × Int × Int × Int × Int × Int) => [some (h0O v45), some (sh (intS a.1)), none, none]) (T := fun r : Int × ((List Int) × Int × Int × Int × Int × Int) => Kd.rt (some (h0O r.2) :: nonC 3) ((fun x => sh (intS x)) r.1)) (fun r => r) (js_if (D := DF (fun v45 : ((List Int) × Int × Int × Int × Int × Int) => [some (h0O v45), some (sh (intS a.1)), none, none]) (fun r : Int × ((List Int) × Int × Int × Int × Int × Int) => Kd.rt (some (h0O r.2) :: nonC 3) ((fun x => sh (intS x)) r.1))) (jt_w (jw_or (jt_cmp oEq ov_eqI (jn_of (jr_ixO (R := (fun x => sh (intS x))) (g := fun z => z.2.2.1) 2 (jr_var (R := h0O) (a := (s.1, s.2.1, s.2.2.1, s.2.2.2.1, a30, s.2.2.2.2.2)) 0))) jn_int) (jw_or1 (jt_cmp oGt ov_gt (jn_of (jr_ixO (R := (fun x => sh (intS x))) (g := fun z => z.2.2.2.1) 3 (jr_var (R := h0O) (a := (s.1, s.2.1, s.2.2.1, s.2.2.2.1, a30, s.2.2.2.2.2)) 0))) jn_int)))) (jb_ifx (D' := (fun r : Int × ((List Int) × Int × Int × Int × Int × Int) => Kd.rt (some (h0O r.2) :: nonC 3) ((fun x => sh (intS x)) r.1))) Out.rt (jt_cmp oGe ov_ge (jn_of (jr_ixO (R := (fun x => sh (intS x))) (g := fun z => z.2.1) 1 (jr_var (R := h0O) (a := (s.1, s.2.1, s.2.2.1, s.2.2.2.1, a30, s.2.2.2.2.2)) 0))) (len_lst T.m_len (jn_of (jr_ixO (R := (fun x => sh ((lstS intS) x))) (g := fun z => z.1) 0 (jr_var (R := h0O) (a := (s.1, s.2.1, s.2.2.1, s.2.2.2.1, a30, s.2.2.2.2.2)) 0))))) (jb_retS (R := (fun x => sh (intS x))) (Δ := fun s => some (h0O s) :: nonC 3) (s := (s.1, s.2.1, s.2.2.1, s.2.2.2.1, a30, s.2.2.2.2.2)) (weak_mask [true, false, false, false] _) (jn_bin oMod ov_mod (int_int T.m_int (jn_call (ok_law_mixed T) T.g__law_mixed T.F__law_mixed.kp T.b__law_mixed (Nat.le_of_ble_eq_true rfl) (ja_cons (jn_of (jr_ixO (R := (fun x => sh (intS x))) (g := fun z => z.2.2.2.2.2) 5 (jr_var (R := h0O) (a := (s.1, s.2.1, s.2.2.1, s.2.2.2.1, a30, s.2.2.2.2.2)) 0))) (ja_cons (jn_of (jr_ixO (R := (fun x => sh (intS x))) (g := fun z => z.2.2.2.2.1) 4 (jr_var (R := h0O) (a := (s.1, s.2.1, s.2.2.1, s.2.2.2.1, a30, s.2.2.2.2.2)) 0))) ja_nil)))) (jn_var (E := intS) (a := a.1) 1))) (fun _ => rfl) (fun _ => trivial)
 (jb_cons (js_set 3 sc__law_draw.nd (jn_of (jr_ix oIxL iv_lst (jr_ixO (R := (fun x => sh ((lstS intS) x))) (g := fun z => z.1) 0 (jr_var (R := h0O) (a := (s.1, s.2.1, s.2.2.1, s.2.2.2.1, a30, s.2.2.2.2.2)) 0)) (jn_of (jr_ixO (R := (fun x => sh (intS x))) (g := fun z => z.2.1) 1 (jr_var (R := h0O) (a := (s.1, s.2.1, s.2.2.1, s.2.2.2.1, a30, s.2.2.2.2.2)) 0)))))) fun a49 =>
 jb_cons (js_setH (ps := [sh ((lstS intS) s.1), sh (intS s.2.1), sh (intS s.2.2.1), sh (intS s.2.2.2.1), sh (intS a30), sh (intS s.2.2.2.2.2)]) (E := intS) 0 1 (jn_bin oAdd ov_add (jn_of (jr_ixO (R := (fun x => sh (intS x))) (g := fun z => z.2.1) 1 (jr_var (R := h0O) (a := (s.1, s.2.1, s.2.2.1, s.2.2.2.1, a30, s.2.2.2.2.2)) 0))) jn_int)) fun a50 =>
 jb_ifx (D' := (fun r : Int × ((List Int) × Int × Int × Int × Int × Int) => Kd.rt (some (h0O r.2) :: nonC 3) ((fun x => sh (intS x)) r.1))) Out.rt (jt_cmp oEq ov_eqI (jn_bin oMod ov_mod (int_int T.m_int (jn_var (E := intS) (a := a49) 3)) jn_int) jn_int) (jb_retS (R := (fun x => sh (intS x))) (Δ := fun s => some (h0O s) :: nonC 3) (s := (s.1, a50, s.2.2.1, s.2.2.2.1, a30, s.2.2.2.2.2)) (weak_mask [true, false, false, false] _) (jn_bin oMod ov_mod (int_int T.m_int (jn_call (ok_law_mixed T) T.g__law_mixed T.F__law_mixed.kp T.b__law_mixed (Nat.le_of_ble_eq_true rfl) (ja_cons (jn_var (E := intS) (a := a49) 3) (ja_cons (jn_of (jr_ixO (R := (fun x => sh (intS x))) (g := fun z => z.2.2.2.2.1) 4 (jr_var (R := h0O) (a := (s.1, a50, s.2.2.1, s.2.2.2.1, a30, s.2.2.2.2.2)) 0))) ja_nil)))) (jn_var (E := intS) (a := a.1) 1))) (fun _ => rfl) (fun _ => trivial)
 (jb_cons (js_setH (ps := [sh ((lstS intS) s.1), sh (intS a50), sh (intS s.2.2.1), sh (intS s.2.2.2.1), sh (intS a30), sh (intS s.2.2.2.2.2)]) (E := intS) 0 2 (jn_bin oDiv ov_div (abs_int T.m_abs (jn_var (E := intS) (a := a49) 3)) jn_int)) fun a55 =>
 jb_cons (js_setH (ps := [sh ((lstS intS) s.1), sh (intS a50), sh (intS a55), sh (intS s.2.2.2.1), sh (intS a30), sh (intS s.2.2.2.2.2)]) (E := intS) 0 3 jn_int) fun a56 =>
 jb_nil (x := Out.nx (s.1, a50, a55, a56, a30, s.2.2.2.2.2)) rfl (weak_mask [true, true, false, false] _)))) (jb_nil (x := Out.nx (s.1, s.2.1, s.2.2.1, s.2.2.2.1, a30, s.2.2.2.2.2)) rfl (weak_mask [true, true, false, false] _))) (fun _ => rfl) (fun _ => trivial) fun a61 =>
 jb_cons (js_set 2 sc__law_draw.nd (jn_bin oMod ov_mod (int_int T.m_int (jn_of (jr_ixO (R := (fun x => sh (intS x))) (g := fun z => z.2.2.1) 2 (jr_var (R := h0O) (a := a61) 0)))) (jn_var (E := intS) (a := a.1) 1))) fun a62 =>
 jb_cons (js_setH (ps := [sh ((lstS intS) a61.1), sh (intS a61.2.1), sh (intS a61.2.2.1), sh (intS a61.2.2.2.1), sh (intS a61.2.2.2.2.1), sh (intS a61.2.2.2.2.2)]) (E := intS) 0 2 (jn_bin oDiv ov_div (jn_of (jr_ixO (R := (fun x => sh (intS x))) (g := fun z => z.2.2.1) 2 (jr_var (R := h0O) (a := a61) 0))) (jn_var (E := intS) (a := a.1) 1))) fun a63 =>
 jb_cons (js_setH (ps := [sh ((lstS intS) a61.1), sh (intS a61.2.1), sh (intS a63), sh (intS a61.2.2.2.1), sh (intS a61.2.2.2.2.1), sh (intS a61.2.2.2.2.2)]) (E := intS) 0 3 (jn_bin oAdd ov_add (jn_of (jr_ixO (R := (fun x => sh (intS x))) (g := fun z => z.2.2.2.1) 3 (jr_var (R := h0O) (a := (a61.1, a61.2.1, a63, a61.2.2.2.1, a61.2.2.2.2.1, a61.2.2.2.2.2)) 0))) jn_int)) fun a64 =>
 jb_retS (R := (fun x => sh (intS x))) (Δ := fun s => some (h0O s) :: nonC 3) (s := (a61.1, a61.2.1, a63, a64, a61.2.2.2.2.1, a61.2.2.2.2.2)) (weak_mask [true, false, false, false] _) (jn_var (E := intS) (a := a62) 2)) (by unfold M_law_draw; first | (dsimp only [CC.sb]; done) | (dsimp only [CC.sb]; rfl) | rfl)
def M_law_turned (a : Int × Unit) (s : ((List Int) × Int × Int × Int × Int × Int)) : Option ((List Int) × ((List Int) × Int × Int × Int × Int × Int)) :=
 (rng 0 a.1).bind fun a142 => ((rng 0 a.1).bind fun x154 => foldGo (fun x145 s146 => ((((M_law_draw ((((s146.2.1, s146.1).1).length : Int), ()) ((s146.2.1, s146.1).2)).bind fun r148 => some (r148.1, ((s146.2.1, s146.1).1, r148.2))).bind fun q149 => (popAt q149.2.1 q149.1).bind fun r150 => some (r150.1, (r150.2, q149.2.2))).bind fun q151 => (appM s146.2.2 q151.1).bind fun r152 => some (r152, q151.2)).bind fun a153 => some (a153.2.2, a153.2.1, a153.1)) x154 (s, a142, [])).bind fun a155 => some (a155.2.2, a155.1)
theorem ok_law_turned (T : Tx K mg) : FnOk P w K mg base CX0 3 T.a__law_turned T.d__law_turned ["st", "n"] (spS h0O (fun a : Int × Unit => [intS a.1]) M_law_turned (lstO (fun x => sh (intS x)))) :=
 fnd_state T.F__law_turned sc__law_turned (fun _ => rfl) (by decide) fun a s => JB.cong (
 jb_cons (js_set 2 sc__law_turned.nd (list_rng T.m_list T.m_range (jn_var (E := intS) (a := a.1) 1))) fun a142 =>
 jb_cons (js_set 3 sc__law_turned.nd (jn_nilLO (E := (fun x => sh (intS x))))) fun a143 =>
 jb_cons (js_forS (Γl := fun s144 : ((List Int) × Int × Int × Int × Int × Int) × (List Int) × (List Int) => [some (h0O s144.1), some (sh (intS a.1)), some ((lstO (fun x => sh (intS x))) s144.2.1), some ((lstO (fun x => sh (intS x))) s144.2.2), none]) (s, a142, a143) (ji_rng1 T.m_range (jn_var (E := intS) (a := a.1) 1)) (jg_name (E := intS) 4 sc__law_turned.nd) (weak_mask [true, true, true, true, false] _) (fun _ => all_lt rfl) fun x145 s146 =>
 jb_cons (js_appE (E := (fun x => sh (intS x))) (Γ := fun s147 : (List Int) × ((List Int) × Int × Int × Int × Int × Int) => [some (h0O s147.2), some (sh (intS a.1)), some ((lstO (fun x => sh (intS x))) s147.1), some ((lstO (fun x => sh (intS x))) s146.2.2), some (sh (intS x145))]) (s := (s146.2.1, s146.1)) 3 (fun _ => s146.2.2) (je_popAt (E := (fun x => sh (intS x))) 2 (fun s => s.1) (fun s u => (u, s.2)) (je_callS (O := h0O) 0 (fun s => s.2) (fun s u => (s.1, u)) (ok_law_draw T) T.g__law_draw T.F__law_draw.kp T.b__law_draw (Nat.le_of_ble_eq_true rfl) (jea_of (ja_cons (len_lstO T.m_len (jr_var (R := (lstO (fun x => sh (intS x)))) (a := (s146.2.1, s146.1).1) 2)) ja_nil))))) fun a153 =>
 jb_nil (x := (a153.2.2, a153.2.1, a153.1)) rfl (weak_mask [true, true, true, true, false] _)) fun a155 =>
 jb_retOS (R := (lstO (fun x => sh (intS x)))) (Δ := fun s => some (h0O s) :: nonC 4) 3 (weak_mask [true, false, false, false, false] _)) (by unfold M_law_turned; first | (dsimp only [CC.sb]; done) | (dsimp only [CC.sb]; rfl) | rfl)
def M_law_renamed (a : (Int × (List (Int × Int))) × ((List Int) × Unit)) : Option (Int × (List (Int × Int))) :=
 (((((mapM (fun x158 => ((atI a.2.1 x158.1).bind fun x159 => ((atI a.2.1 x158.2).bind fun x160 => some (x160, ())).bind fun y161 => some (x159, y161)).bind fun z162 => some (z162.1, z162.2.1)) a.1.2).bind fun x163 => some (sortP x163)).bind fun x => some x).bind fun x164 => some (x164, ())).bind fun y165 => some (a.1.1, y165)).bind fun z166 => some (z166.1, z166.2.1)
theorem ok_law_renamed (T : Tx K mg) : FnOk P w K mg base CX0 1 T.a__law_renamed T.d__law_renamed ["order", "row"] (spP (fun a : (Int × (List (Int × Int))) × ((List Int) × Unit) => [(prS intS (tupS (prS intS intS))) a.1, (lstS intS) a.2.1]) M_law_renamed (fun x => sh ((prS intS (tupS (prS intS intS))) x))) :=
 fnd_pure (Δ := nonC 3) T.F__law_renamed sc__law_renamed (fun _ => rfl) (by decide) fun a => JB.cong (
 jb_ret (weak_none _) (jn_tupG (P := (prS intS (tupS (prS intS intS)))) (g := fun z => (z.1, z.2.1)) (ja_cons (jn_ixT (E := intS) (g := fun z => z.1) 0 (jn_var (E := (prS intS (tupS (prS intS intS)))) (a := a.1) 0)) (ja_cons (tup_lst T.m_tuple (JN.frz (fz_lst (fun _ => fz_sh)) (sorted_prs T.m_sorted (JN.frz (fz_lst (fun _ => fz_sh)) (jn_lc sc__law_renamed.nd (jc_map [("pair", 2)] (jic_of (ji_tup (jn_ixT (E := (tupS (prS intS intS))) (g := fun z => z.2) 1 (jn_var (E := (prS intS (tupS (prS intS intS)))) (a := a.1) 0)))) (show blkC ["order", "row", "pair"] (defScope s__law_renamed) _ [("pair", 2)] = true by decide +kernel) (jg_name (E := (prS intS intS)) 2 sc__law_renamed.nd) (by decide) (all_lt rfl) fun x158 => (jn_tupG (P := (prS intS intS)) (g := fun z => (z.1, z.2.1)) (ja_cons (jn_of (jr_ix oIxL iv_lst (jr_of (jn_var (E := (lstS intS)) (a := a.2.1) 1)) (jn_ixT (E := intS) (g := fun z => z.1) 0 (jn_var (E := (prS intS intS)) (a := x158) 2)))) (ja_cons (jn_of (jr_ix oIxL iv_lst (jr_of (jn_var (E := (lstS intS)) (a := a.2.1) 1)) (jn_ixT (E := intS) (g := fun z => z.2) 1 (jn_var (E := (prS intS intS)) (a := x158) 2)))) ja_nil))))))))) ja_nil)))) (by unfold M_law_renamed; first | (dsimp only [CC.sb]; done) | (dsimp only [CC.sb]; rfl) | rfl)
def M_law_large (a : Int × Unit) (s : ((List Int) × Int × Int × Int × Int × Int)) : Option (((Int × (List (Int × Int))) × (List Int)) × ((List Int) × Int × Int × Int × Int × Int)) :=
 (((M_law_draw ((8 : Int), ()) s).bind fun r77 => some (r77.1, r77.2)).bind fun q78 => some ((1 : Int) + q78.1, q78.2)).bind fun a79 => (((M_law_draw ((2 : Int), ()) a79.2).bind fun r81 => some (r81.1, r81.2)).bind fun q83 => some (decide (q83.1 = (0 : Int)), q83.2)).bind fun a84 => ((rng 0 a.1).bind fun x139 => foldGo (fun x87 s88 => (bif a84.1 then (((rng3 (x87 + a79.1) a.1 a79.1).bind fun x120 => mapM (fun x119 => some (x87, x119)) x120).bind fun x121 => catM s88 x121).bind fun a122 => some a122 else (((((modO x87 a79.1).bind fun x132 => some ((x87 + a79.1) - x132)).bind fun x133 => rng x133 a.1).bind fun x135 => mapM (fun x134 => some (x87, x134)) x135).bind fun x136 => catM s88 x136).bind fun a137 => some a137).bind fun a138 => some a138) x139 []).bind fun a140 => ((M_law_turned (a.1, ()) a84.2).bind fun r156 => some (r156.1, r156.2)).bind fun a157 => (((M_law_renamed ((a.1, a140), (a157.1, ()))).bind fun x169 => some (x169, (a157.1, ()))).bind fun z170 => some (z170.1, z170.2.1)).bind fun x171 => some (x171, a157.2)
theorem ok_law_large (T : Tx K mg) : FnOk P w K mg base CX0 4 T.a__law_large T.d__law_large ["st", "n"] (spS h0O (fun a : Int × Unit => [intS a.1]) M_law_large (fun x => sh ((prS (prS intS (tupS (prS intS intS))) (lstS intS)) x))) :=
 fnd_state T.F__law_large sc__law_large (fun _ => rfl) (by decide) fun a s => JB.cong (
 jb_cons (js_setE (Γ := fun s75 : ((List Int) × Int × Int × Int × Int × Int) => [some (h0O s75), some (sh (intS a.1)), none, none, none, none, none, none]) (s := s) 2 sc__law_large.nd (je_bin oAdd ov_add (je_of jn_int) fun s76 => (je_callS (O := h0O) 0 (fun s => s) (fun s u => u) (ok_law_draw T) T.g__law_draw T.F__law_draw.kp T.b__law_draw (Nat.le_of_ble_eq_true rfl) (jea_of (ja_cons jn_int ja_nil))))) fun a79 =>
 jb_cons (js_setE (Γ := fun s80 : ((List Int) × Int × Int × Int × Int × Int) => [some (h0O s80), some (sh (intS a.1)), some (sh (intS a79.1)), none, none, none, none, none]) (s := a79.2) 3 sc__law_large.nd (je_cmp oEq ov_eqI (je_callS (O := h0O) 0 (fun s => s) (fun s u => u) (ok_law_draw T) T.g__law_draw T.F__law_draw.kp T.b__law_draw (Nat.le_of_ble_eq_true rfl) (jea_of (ja_cons jn_int ja_nil))) fun s82 => (je_of jn_int))) fun a84 =>
 jb_cons (js_set 4 sc__law_large.nd (jn_nilLO (E := (fun x => sh ((prS intS intS) x))))) fun a85 =>
 jb_cons (js_forS (Γl := fun s86 : (List (Int × Int)) => [some (h0O a84.2), some (sh (intS a.1)), some (sh (intS a79.1)), some (sh (boolS a84.1)), some ((lstO (fun x => sh ((prS intS intS) x))) s86), none, none, none]) a85 (ji_rng1 T.m_range (jn_var (E := intS) (a := a.1) 1)) (jg_name (E := intS) 5 sc__law_large.nd) (weak_mask [true, true, true, true, true, false, false, false] _) (fun _ => all_lt rfl) fun x87 s88 =>
 jb_cons (js_if (jt_val (jn_var (E := boolS) (a := a84.1) 3)) (D := fun v => Kd.nx ((fun v113 : (List (Int × Int)) => [some (h0O a84.2), some (sh (intS a.1)), some (sh (intS a79.1)), some (sh (boolS a84.1)), some ((lstO (fun x => sh ((prS intS intS) x))) v113), some (sh (intS x87)), none, none]) v)) (JB.frz (i := 4) (o := (lstO (fun x => sh ((prS intS intS) x))) s88) (p := (lstS (prS intS intS)) s88) rfl ((fz_lst (fun _ => fz_sh)) _) (jb_cons (js_set 4 sc__law_large.nd (jn_bin oCat ov_cat (jn_var (E := (lstS (prS intS intS))) (a := s88) 4) (JN.frz (fz_lst (fun _ => fz_sh)) (jn_lc sc__law_large.nd (jc_map [("y", 7)] (jic_of (ji_rng3 T.m_range (jn_bin oAdd ov_add (jn_var (E := intS) (a := x87) 5) (jn_var (E := intS) (a := a79.1) 2)) (jn_var (E := intS) (a := a.1) 1) (jn_var (E := intS) (a := a79.1) 2))) (show blkC ["st", "n", "width", "is_chains", "pairs", "x", "row", "y"] (defScope s__law_large) _ [("y", 7)] = true by decide +kernel) (jg_name (E := intS) 7 sc__law_large.nd) (by decide) (all_lt rfl) fun x119 => (jn_tupG (P := (prS intS intS)) (g := fun z => (z.1, z.2.1)) (ja_cons (jn_var (E := intS) (a := x87) 5) (ja_cons (jn_var (E := intS) (a := x119) 7) ja_nil)))))))) fun a122 =>
 jb_nil (x := a122) rfl (weak_mask [true, true, true, true, true, true, false, false] _))) (JB.frz (i := 4) (o := (lstO (fun x => sh ((prS intS intS) x))) s88) (p := (lstS (prS intS intS)) s88) rfl ((fz_lst (fun _ => fz_sh)) _) (jb_cons (js_set 4 sc__law_large.nd (jn_bin oCat ov_cat (jn_var (E := (lstS (prS intS intS))) (a := s88) 4) (JN.frz (fz_lst (fun _ => fz_sh)) (jn_lc sc__law_large.nd (jc_map [("y", 7)] (jic_of (ji_rng2 T.m_range (jn_bin oSub ov_sub (jn_bin oAdd ov_add (jn_var (E := intS) (a := x87) 5) (jn_var (E := intS) (a := a79.1) 2)) (jn_bin oMod ov_mod (int_int T.m_int (jn_var (E := intS) (a := x87) 5)) (jn_var (E := intS) (a := a79.1) 2))) (jn_var (E := intS) (a := a.1) 1))) (show blkC ["st", "n", "width", "is_chains", "pairs", "x", "row", "y"] (defScope s__law_large) _ [("y", 7)] = true by decide +kernel) (jg_name (E := intS) 7 sc__law_large.nd) (by decide) (all_lt rfl) fun x134 => (jn_tupG (P := (prS intS intS)) (g := fun z => (z.1, z.2.1)) (ja_cons (jn_var (E := intS) (a := x87) 5) (ja_cons (jn_var (E := intS) (a := x134) 7) ja_nil)))))))) fun a137 =>
 jb_nil (x := a137) rfl (weak_mask [true, true, true, true, true, true, false, false] _)))) fun a138 =>
 jb_nil (x := a138) rfl (weak_mask [true, true, true, true, true, false, false, false] _)) fun a140 =>
 jb_cons (js_setE (Γ := fun s141 : ((List Int) × Int × Int × Int × Int × Int) => [some (h0O s141), some (sh (intS a.1)), some (sh (intS a79.1)), some (sh (boolS a84.1)), some ((lstO (fun x => sh ((prS intS intS) x))) a140), none, none, none]) (s := a84.2) 6 sc__law_large.nd (je_callS (O := h0O) 0 (fun s => s) (fun s u => u) (ok_law_turned T) T.g__law_turned T.F__law_turned.kp T.b__law_turned (Nat.le_of_ble_eq_true rfl) (jea_of (ja_cons (jn_var (E := intS) (a := a.1) 1) ja_nil)))) fun a157 =>
 JB.frz (i := 6) (o := (lstO (fun x => sh (intS x))) a157.1) (p := (lstS intS) a157.1) rfl ((fz_lst (fun _ => fz_sh)) _) (jb_retS (R := (fun x => sh ((prS (prS intS (tupS (prS intS intS))) (lstS intS)) x))) (Δ := fun s => some (h0O s) :: nonC 7) (s := a157.2) (weak_mask [true, false, false, false, false, false, false, false] _) (jn_tupG (P := (prS (prS intS (tupS (prS intS intS))) (lstS intS))) (g := fun z => (z.1, z.2.1)) (ja_cons (jn_call (ok_law_renamed T) T.g__law_renamed T.F__law_renamed.kp T.b__law_renamed (Nat.le_of_ble_eq_true rfl) (ja_cons (jn_tupG (P := (prS intS (tupS (prS intS intS)))) (g := fun z => (z.1, z.2.1)) (ja_cons (jn_var (E := intS) (a := a.1) 1) (ja_cons (tup_own T.m_tuple (jr_var (R := (lstO (fun x => sh ((prS intS intS) x)))) (a := a140) 4)) ja_nil))) (ja_cons (jn_var (E := (lstS intS)) (a := a157.1) 6) ja_nil))) (ja_cons (jn_var (E := (lstS intS)) (a := a157.1) 6) ja_nil))))) (by unfold M_law_large; first | (dsimp only [CC.sb]; done) | (dsimp only [CC.sb]; rfl) | rfl)
def M_law_order (a : Int × (Int × Unit)) (s : ((List Int) × Int × Int × Int × Int × Int)) : Option (((Int × (List (Int × Int))) × (List Int)) × ((List Int) × Int × Int × Int × Int × Int)) :=
 ((M_law_turned (a.1, ()) s).bind fun r186 => some (r186.1, r186.2)).bind fun a187 => ((rng 0 a.1).bind fun x189 => mapM (fun x188 => some []) x189).bind fun a190 => ((rng 0 a.1).bind fun x242 => foldGo (fun x192 s193 => ((rng 0 x192).bind fun x238 => foldGo (fun x196 s197 => (atI a187.1 ((x192 - (1 : Int)) - x196)).bind fun a198 => ((bif !decide (a198 ∈ s197.2) then ((M_law_draw (a.2.1, ()) s197.1).bind fun r201 => some (r201.1, r201.2)).bind fun q203 => some (decide (q203.1 = (0 : Int)), q203.2) else some (false, s197.1)).bind fun q236 => bif q236.1 then ((((atI s193.2 a198).bind fun x231 => catM [a198] x231).bind fun x233 => compM (fun x232 => some (!decide (x232 ∈ s197.2))) (fun x232 => some x232) x233).bind fun x234 => catM s197.2 x234).bind fun a235 => some (q236.2, a235) else some (q236.2, s197.2)).bind fun a237 => some (a237.1, a237.2)) x238 (s193.1, [])).bind fun a239 => ((atI a187.1 x192).bind fun x240 => setAt s193.2 x240 a239.2).bind fun a241 => some (a239.1, a241)) x242 (a187.2, a190)).bind fun a243 => ((rng 0 a.1).bind fun x260 => foldGo (fun x254 s255 => (((atI a243.2 x254).bind fun x257 => mapM (fun x256 => some (x256, x254)) x257).bind fun x258 => catM s255 x258).bind fun a259 => some a259) x260 []).bind fun a261 => some (((a.1, sortP a261), a187.1), a243.1)
theorem ok_law_order (T : Tx K mg) : FnOk P w K mg base CX0 4 T.a__law_order T.d__law_order ["st", "n", "thin"] (spS h0O (fun a : Int × (Int × Unit) => [intS a.1, intS a.2.1]) M_law_order (fun x => sh ((prS (prS intS (tupS (prS intS intS))) (lstS intS)) x))) :=
 fnd_state T.F__law_order sc__law_order (fun _ => rfl) (by decide) fun a s => JB.cong (
 jb_cons (js_setE (Γ := fun s185 : ((List Int) × Int × Int × Int × Int × Int) => [some (h0O s185), some (sh (intS a.1)), some (sh (intS a.2.1)), none, none, none, none, none, none, none, none, none]) (s := s) 3 sc__law_order.nd (je_callS (O := h0O) 0 (fun s => s) (fun s u => u) (ok_law_turned T) T.g__law_turned T.F__law_turned.kp T.b__law_turned (Nat.le_of_ble_eq_true rfl) (jea_of (ja_cons (jn_var (E := intS) (a := a.1) 1) ja_nil)))) fun a187 =>
 jb_cons (js_setLc 4 sc__law_order.nd (jc_map [("x", 10)] (jic_of (ji_rng1 T.m_range (jn_var (E := intS) (a := a.1) 1))) (show blkC ["st", "n", "thin", "row", "lows", "j", "pairs", "y", "low", "k", "x", "z"] (defScope s__law_order) _ [("x", 10)] = true by decide +kernel) (jg_name (E := intS) 10 sc__law_order.nd) (by decide) (all_lt rfl) fun x188 => (JN.frz (fz_lst (fun _ => fz_sh)) (jn_nilLO (E := (fun x => sh (intS x))))))) fun a190 =>
 jb_cons (js_forS (Γl := fun s191 : ((List Int) × Int × Int × Int × Int × Int) × (List (List Int)) => [some (h0O s191.1), some (sh (intS a.1)), some (sh (intS a.2.1)), some ((lstO (fun x => sh (intS x))) a187.1), some ((lstO (fun x => sh ((lstS intS) x))) s191.2), none, none, none, none, none, none, none]) (a187.2, a190) (ji_rng1 T.m_range (jn_var (E := intS) (a := a.1) 1)) (jg_name (E := intS) 5 sc__law_order.nd) (weak_mask [true, true, true, true, true, false, false, false, false, false, false, false] _) (fun _ => all_lt rfl) fun x192 s193 =>
 jb_cons (js_set 8 sc__law_order.nd (jn_nilLO (E := (fun x => sh (intS x))))) fun a194 =>
 jb_cons (js_forS (Γl := fun s195 : ((List Int) × Int × Int × Int × Int × Int) × (List Int) => [some (h0O s195.1), some (sh (intS a.1)), some (sh (intS a.2.1)), some ((lstO (fun x => sh (intS x))) a187.1), some ((lstO (fun x => sh ((lstS intS) x))) s193.2), some (sh (intS x192)), none, none, some ((lstO (fun x => sh (intS x))) s195.2), none, none, none]) (s193.1, a194) (ji_rng1 T.m_range (jn_var (E := intS) (a := x192) 5)) (jg_name (E := intS) 9 sc__law_order.nd) (weak_mask [true, true, true, true, true, true, false, false, true, false, false, false] _) (fun _ => all_lt rfl) fun x196 s197 =>
 jb_cons (js_set 10 sc__law_order.nd (jn_of (jr_ix oIxL iv_lstO (jr_var (R := (lstO (fun x => sh (intS x)))) (a := a187.1) 3) (jn_bin oSub ov_sub (jn_bin oSub ov_sub (jn_var (E := intS) (a := x192) 5) jn_int) (jn_var (E := intS) (a := x196) 9))))) fun a198 =>
 jb_cons (js_ifE (Γ := fun s199 : ((List Int) × Int × Int × Int × Int × Int) => [some (h0O s199), some (sh (intS a.1)), some (sh (intS a.2.1)), some ((lstO (fun x => sh (intS x))) a187.1), some ((lstO (fun x => sh ((lstS intS) x))) s193.2), some (sh (intS x192)), none, none, some ((lstO (fun x => sh (intS x))) s197.2), some (sh (intS x196)), some (sh (intS a198)), none]) (s := s197.1) (jte_w (jwe_and (jte_of (jt_thaw (i := 8) (o := (lstO (fun x => sh (intS x))) s197.2) (p := (lstS intS) s197.2) rfl ((fz_lst (fun _ => fz_sh)) _) (jt_cmp oNotIn (ov_ninL fl_int) (jn_var (E := intS) (a := a198) 10) (jn_var (E := (lstS intS)) (a := s197.2) 8)))) fun s200 => (jwe_and1 (jte_cmp oEq ov_eqI (je_callS (O := h0O) 0 (fun s => s) (fun s u => u) (ok_law_draw T) T.g__law_draw T.F__law_draw.kp T.b__law_draw (Nat.le_of_ble_eq_true rfl) (jea_of (ja_cons (jn_var (E := intS) (a := a.2.1) 2) ja_nil))) fun s202 => (je_of jn_int))))) (D := fun v => Kd.nx ((fun v220 : ((List Int) × Int × Int × Int × Int × Int) × (List Int) => [some (h0O v220.1), some (sh (intS a.1)), some (sh (intS a.2.1)), some ((lstO (fun x => sh (intS x))) a187.1), some ((lstO (fun x => sh ((lstS intS) x))) s193.2), some (sh (intS x192)), none, none, some ((lstO (fun x => sh (intS x))) v220.2), some (sh (intS x196)), some (sh (intS a198)), none]) v)) (fun s204 => JB.frz (i := 8) (o := (lstO (fun x => sh (intS x))) s197.2) (p := (lstS intS) s197.2) rfl ((fz_lst (fun _ => fz_sh)) _) (jb_cons (js_set 8 sc__law_order.nd (jn_bin oCat ov_cat (jn_var (E := (lstS intS)) (a := s197.2) 8) (JN.frz (fz_lst (fun _ => fz_sh)) (jn_lc sc__law_order.nd (jc_of [("z", 11)] (jic_of (ji_lst (JN.frz (fz_lst (fun _ => fz_sh)) (jn_bin oCat ov_cat (JN.frz (fz_lst (fun _ => fz_sh)) (jn_dispL (E := intS) (g := fun z => [z.1]) (ja_cons (jn_var (E := intS) (a := a198) 10) ja_nil))) (jn_of (jr_ix oIxL iv_lstO (jr_var (R := (lstO (fun x => sh ((lstS intS) x)))) (a := s193.2) 4) (jn_var (E := intS) (a := a198) 10))))))) (show blkC ["st", "n", "thin", "row", "lows", "j", "pairs", "y", "low", "k", "x", "z"] (defScope s__law_order) _ [("z", 11)] = true by decide +kernel) (jg_name (E := intS) 11 sc__law_order.nd) (by decide) (all_lt rfl) (fun x232 => jts_one (jt_cmp oNotIn (ov_ninL fl_int) (jn_var (E := intS) (a := x232) 11) (jn_var (E := (lstS intS)) (a := s197.2) 8))) fun x232 => (jn_var (E := intS) (a := x232) 11)))))) fun a235 =>
 jb_nil (x := (s204, a235)) rfl (weak_mask [true, true, true, true, true, true, false, false, true, true, true, false] _))) fun s204 => jb_nil (x := (s204, s197.2)) rfl (weak_mask [true, true, true, true, true, true, false, false, true, true, true, false] _)) fun a237 =>
 jb_nil (x := (a237.1, a237.2)) rfl (weak_mask [true, true, true, true, true, true, false, false, true, false, false, false] _)) fun a239 =>
 JB.frz (i := 8) (o := (lstO (fun x => sh (intS x))) a239.2) (p := (lstS intS) a239.2) rfl ((fz_lst (fun _ => fz_sh)) _) (jb_cons (js_setI (E := (fun x => sh ((lstS intS) x))) 4 (jn_var (E := (lstS intS)) (a := a239.2) 8) (jn_of (jr_ix oIxL iv_lstO (jr_var (R := (lstO (fun x => sh (intS x)))) (a := a187.1) 3) (jn_var (E := intS) (a := x192) 5)))) fun a241 =>
 jb_nil (x := (a239.1, a241)) rfl (weak_mask [true, true, true, true, true, false, false, false, false, false, false, false] _))) fun a243 =>
 jb_cons (js_set 6 sc__law_order.nd (jn_nilLO (E := (fun x => sh ((prS intS intS) x))))) fun a244 =>
 JB.frz (i := 6) (o := (lstO (fun x => sh ((prS intS intS) x))) a244) (p := (lstS (prS intS intS)) a244) rfl ((fz_lst (fun _ => fz_sh)) _) (jb_cons (js_forS (Γl := fun s253 : (List (Int × Int)) => [some (h0O a243.1), some (sh (intS a.1)), some (sh (intS a.2.1)), some ((lstO (fun x => sh (intS x))) a187.1), some ((lstO (fun x => sh ((lstS intS) x))) a243.2), none, some (sh ((lstS (prS intS intS)) s253)), none, none, none, none, none]) a244 (ji_rng1 T.m_range (jn_var (E := intS) (a := a.1) 1)) (jg_name (E := intS) 7 sc__law_order.nd) (weak_mask [true, true, true, true, true, false, true, false, false, false, false, false] _) (fun _ => all_lt rfl) fun x254 s255 =>
 jb_cons (js_set 6 sc__law_order.nd (jn_bin oCat ov_cat (jn_var (E := (lstS (prS intS intS))) (a := s255) 6) (JN.frz (fz_lst (fun _ => fz_sh)) (jn_lc sc__law_order.nd (jc_map [("x", 10)] (jic_of (ji_lst (jn_of (jr_ix oIxL iv_lstO (jr_var (R := (lstO (fun x => sh ((lstS intS) x)))) (a := a243.2) 4) (jn_var (E := intS) (a := x254) 7))))) (show blkC ["st", "n", "thin", "row", "lows", "j", "pairs", "y", "low", "k", "x", "z"] (defScope s__law_order) _ [("x", 10)] = true by decide +kernel) (jg_name (E := intS) 10 sc__law_order.nd) (by decide) (all_lt rfl) fun x256 => (jn_tupG (P := (prS intS intS)) (g := fun z => (z.1, z.2.1)) (ja_cons (jn_var (E := intS) (a := x256) 10) (ja_cons (jn_var (E := intS) (a := x254) 7) ja_nil)))))))) fun a259 =>
 JB.frz (i := 6) (o := (lstO (fun x => sh ((prS intS intS) x))) a259) (p := (lstS (prS intS intS)) a259) rfl ((fz_lst (fun _ => fz_sh)) _) (jb_nil (x := a259) rfl (weak_mask [true, true, true, true, true, false, true, false, false, false, false, false] _))) fun a261 =>
 JB.frz (i := 3) (o := (lstO (fun x => sh (intS x))) a187.1) (p := (lstS intS) a187.1) rfl ((fz_lst (fun _ => fz_sh)) _) (jb_retS (R := (fun x => sh ((prS (prS intS (tupS (prS intS intS))) (lstS intS)) x))) (Δ := fun s => some (h0O s) :: nonC 11) (s := a243.1) (weak_mask [true, false, false, false, false, false, false, false, false, false, false, false] _) (jn_tupG (P := (prS (prS intS (tupS (prS intS intS))) (lstS intS))) (g := fun z => (z.1, z.2.1)) (ja_cons (jn_tupG (P := (prS intS (tupS (prS intS intS)))) (g := fun z => (z.1, z.2.1)) (ja_cons (jn_var (E := intS) (a := a.1) 1) (ja_cons (tup_lst T.m_tuple (JN.frz (fz_lst (fun _ => fz_sh)) (sorted_prs T.m_sorted (jn_var (E := (lstS (prS intS intS))) (a := a261) 6)))) ja_nil))) (ja_cons (jn_var (E := (lstS intS)) (a := a187.1) 3) ja_nil)))))) (by unfold M_law_order; first | (dsimp only [CC.sb]; done) | (dsimp only [CC.sb]; rfl) | rfl)
def M_law_renamed_1 (a : (Int × (List (Int × Int))) × ((List Int) × Unit)) : Option (Int × (List (Int × Int))) :=
 (((((mapM (fun x293 => ((atI a.2.1 x293.1).bind fun x294 => ((atI a.2.1 x293.2).bind fun x295 => some (x295, ())).bind fun y296 => some (x294, y296)).bind fun z297 => some (z297.1, z297.2.1)) a.1.2).bind fun x298 => some (sortP x298)).bind fun x => some x).bind fun x299 => some (x299, ())).bind fun y300 => some (a.1.1, y300)).bind fun z301 => some (z301.1, z301.2.1)
theorem ok_law_renamed_1 (T : Tx K mg) : FnOk P w K mg base CX0 1 T.a__law_renamed T.d__law_renamed ["order", "row"] (spP (fun a : (Int × (List (Int × Int))) × ((List Int) × Unit) => [(prS intS (tupS (prS intS intS))) a.1, (tupS intS) a.2.1]) M_law_renamed_1 (fun x => sh ((prS intS (tupS (prS intS intS))) x))) :=
 fnd_pure (Δ := nonC 3) T.F__law_renamed sc__law_renamed (fun _ => rfl) (by decide) fun a => JB.cong (
 jb_ret (weak_none _) (jn_tupG (P := (prS intS (tupS (prS intS intS)))) (g := fun z => (z.1, z.2.1)) (ja_cons (jn_ixT (E := intS) (g := fun z => z.1) 0 (jn_var (E := (prS intS (tupS (prS intS intS)))) (a := a.1) 0)) (ja_cons (tup_lst T.m_tuple (JN.frz (fz_lst (fun _ => fz_sh)) (sorted_prs T.m_sorted (JN.frz (fz_lst (fun _ => fz_sh)) (jn_lc sc__law_renamed.nd (jc_map [("pair", 2)] (jic_of (ji_tup (jn_ixT (E := (tupS (prS intS intS))) (g := fun z => z.2) 1 (jn_var (E := (prS intS (tupS (prS intS intS)))) (a := a.1) 0)))) (show blkC ["order", "row", "pair"] (defScope s__law_renamed) _ [("pair", 2)] = true by decide +kernel) (jg_name (E := (prS intS intS)) 2 sc__law_renamed.nd) (by decide) (all_lt rfl) fun x293 => (jn_tupG (P := (prS intS intS)) (g := fun z => (z.1, z.2.1)) (ja_cons (jn_of (jr_ix oIxT iv_tup (jr_of (jn_var (E := (tupS intS)) (a := a.2.1) 1)) (jn_ixT (E := intS) (g := fun z => z.1) 0 (jn_var (E := (prS intS intS)) (a := x293) 2)))) (ja_cons (jn_of (jr_ix oIxT iv_tup (jr_of (jn_var (E := (tupS intS)) (a := a.2.1) 1)) (jn_ixT (E := intS) (g := fun z => z.2) 1 (jn_var (E := (prS intS intS)) (a := x293) 2)))) ja_nil))))))))) ja_nil)))) (by unfold M_law_renamed_1; first | (dsimp only [CC.sb]; done) | (dsimp only [CC.sb]; rfl) | rfl)
def M_law_values (a : (List Int) × Unit) (s : ((List Int) × Int × Int × Int × Int × Int)) : Option ((List PV) × ((List Int) × Int × Int × Int × Int × Int)) :=
 ((rng 0 (9 : Int)).bind fun x312 => foldGo (fun x308 s309 => some (PV.tup ([s309].map (fun u310 => u310)))) x312 (PV.tup (a.1.map PV.int))).bind fun a313 => (((((rng 0 (a.1.length : Int)).bind fun x315 => some (PV.tup (x315.map PV.int))).bind fun x338 => ((((catM a.1 [(a.1.length : Int)]).bind fun x318 => some (PV.tup (x318.map PV.int))).bind fun x339 => (((catM a.1 (cutL a.1 none (some (1 : Int)))).bind fun x320 => some (PV.tup (x320.map PV.int))).bind fun x340 => ((((((((repM [()] (a.1.length : Int)).bind fun x325 => some (PV.tup (x325.map (fun u326 => PV.non)))).bind fun x341 => some (x341, ())).bind fun y342 => some (PV.tup ([a.1].map (fun u323 => PV.tup (u323.map PV.int))), y342)).bind fun y343 => some (PV.str (Str.ofString "row"), y343)).bind fun y344 => some (PV.int (a.1.length : Int), y344)).bind fun y345 => some (PV.non, y345)).bind fun y346 => some (PV.tup ([].map PV.int), y346)).bind fun y347 => some (x340, y347)).bind fun y348 => some (x339, y348)).bind fun y349 => some (PV.tup ((cutL a.1 (some (1 : Int)) none).map PV.int), y349)).bind fun y350 => some (x338, y350)).bind fun y351 => some (PV.tup (a.1.map PV.int), y351)).bind fun z352 => some [z352.1, z352.2.1, z352.2.2.1, z352.2.2.2.1, z352.2.2.2.2.1, z352.2.2.2.2.2.1, z352.2.2.2.2.2.2.1, z352.2.2.2.2.2.2.2.1, z352.2.2.2.2.2.2.2.2.1, z352.2.2.2.2.2.2.2.2.2.1, z352.2.2.2.2.2.2.2.2.2.2.1]).bind fun a353 => ((((((repM [a313] (a.1.length : Int)).bind fun x402 => some (PV.tup (x402.map (fun u403 => u403)))).bind fun x415 => (((repM [(Str.ofString "0")] (a.1.length : Int)).bind fun x404 => some (PV.tup (x404.map PV.str))).bind fun x416 => (((repM a.1 (300 : Int)).bind fun x406 => some (PV.tup (x406.map PV.int))).bind fun x417 => (((repM [(0 : Int)] (9000 : Int)).bind fun x408 => some (PV.tup (x408.map PV.int))).bind fun x418 => some (x418, ())).bind fun y419 => some (x417, y419)).bind fun y420 => some (x416, y420)).bind fun y421 => some (x415, y421)).bind fun y422 => some (PV.tup ([a313].map (fun u401 => u401)), y422)).bind fun z423 => some [z423.1, z423.2.1, z423.2.2.1, z423.2.2.2.1, z423.2.2.2.2.1]).bind fun x424 => catM a353 x424).bind fun a425 => (bif decide ((0 : Int) < (a.1.length : Int)) then ((M_law_draw ((a.1.length : Int), ()) s).bind fun r507 => some (r507.1, r507.2)).bind fun a508 => ((M_law_draw ((a.1.length : Int), ()) a508.2).bind fun r510 => some (r510.1, r510.2)).bind fun a511 => (((((((atI a.1 a511.1).bind fun x512 => some (x512, ())).bind fun z513 => some [z513.1]).bind fun x514 => catM (cutL a.1 none (some a508.1)) x514).bind fun x515 => catM x515 (cutL a.1 (some (a508.1 + (1 : Int))) none)).bind fun x516 => some (PV.tup (x516.map PV.int))).bind fun x518 => appM a425 x518).bind fun a519 => ((((((((powO (10 : Int) (59 : Int)).bind fun x520 => some ((0 : Int) - x520)).bind fun x521 => some (x521 - a511.1)).bind fun x522 => some (PV.int x522)).bind fun x546 => ((((powO (10 : Int) (59 : Int)).bind fun x523 => some (x523 + a508.1)).bind fun x524 => some (PV.int x524)).bind fun x547 => (((((atI a.1 a508.1).bind fun x525 => strI x525).bind fun x526 => some (PV.str x526)).bind fun x548 => (((((atI a.1 a508.1).bind fun x527 => some (x527, ())).bind fun z528 => some [z528.1]).bind fun x529 => some (PV.tup (x529.map PV.int))).bind fun x549 => (((((atI a.1 a508.1).bind fun x532 => some (x532 - (a.1.length : Int))).bind fun x533 => some (PV.int x533)).bind fun x550 => ((((atI a.1 a508.1).bind fun x534 => some (x534 + (a.1.length : Int))).bind fun x535 => some (PV.int x535)).bind fun x551 => some (x551, ())).bind fun y552 => some (x550, y552)).bind fun y553 => some (PV.tup ([].map PV.int), y553)).bind fun y554 => some (x549, y554)).bind fun y555 => some (x548, y555)).bind fun y556 => some (PV.non, y556)).bind fun y557 => some (x547, y557)).bind fun y558 => some (x546, y558)).bind fun y559 => some (PV.int (-(1 : Int)), y559)).bind fun y560 => some (PV.int (a.1.length : Int), y560)).bind fun z561 => some [z561.1, z561.2.1, z561.2.2.1, z561.2.2.2.1, z561.2.2.2.2.1, z561.2.2.2.2.2.1, z561.2.2.2.2.2.2.1, z561.2.2.2.2.2.2.2.1, z561.2.2.2.2.2.2.2.2.1, z561.2.2.2.2.2.2.2.2.2.1]).bind fun a562 => ((mapM (fun x572 => ((catM (List.map (fun z => PV.int z) (cutL a.1 none (some a508.1))) [x572]).bind fun x573 => catM x573 (List.map (fun z => PV.int z) (cutL a.1 (some (a508.1 + (1 : Int))) none))).bind fun x574 => some (PV.tup (x574.map (fun u575 => u575)))) a562).bind fun x576 => catM a519 x576).bind fun a577 => ((atI a.1 a511.1).bind fun x579 => setAt a.1 a508.1 x579).bind fun a580 => ((atI a.1 a508.1).bind fun x581 => setAt a580 a511.1 x581).bind fun a582 => (appM a577 (PV.tup (a582.map PV.int))).bind fun a584 => some (a511.2, a584) else some (s, a425)).bind fun a585 => some (a585.2, a585.1)
theorem ok_law_values (T : Tx K mg) : FnOk P w K mg base CX0 3 T.a__law_values T.d__law_values ["st", "row"] (spS h0O (fun a : (List Int) × Unit => [(tupS intS) a.1]) M_law_values (fun x => sh ((lstS anyS) x))) :=
 fnd_state T.F__law_values sc__law_values (fun _ => rfl) (by decide) fun a s => JB.cong (
 jb_cons (js_set 2 sc__law_values.nd (len_tup T.m_len (jn_var (E := (tupS intS)) (a := a.1) 1))) fun a304 =>
 jb_cons (js_set 3 sc__law_values.nd (jn_any (ao_tup ao_int) (jn_var (E := (tupS intS)) (a := a.1) 1))) fun a306 =>
 jb_cons (js_forS (Γl := fun s307 : PV => [some (h0O s), some (sh ((tupS intS) a.1)), some (sh (intS a304)), some (sh (anyS s307)), none, none, none, none, none, none, none]) a306 (ji_rng1 T.m_range jn_int) (jg_name (E := intS) 4 sc__law_values.nd) (weak_mask [true, true, true, true, false, false, false, false, false, false, false] _) (fun _ => all_lt rfl) fun x308 s309 =>
 jb_cons (js_set 3 sc__law_values.nd (jn_any (ao_tup ao_any) (jn_dispT (E := anyS) (g := fun z => [z.1]) (ja_cons (jn_var (E := anyS) (a := s309) 3) ja_nil)))) fun a311 =>
 jb_nil (x := a311) rfl (weak_mask [true, true, true, true, false, false, false, false, false, false, false] _)) fun a313 =>
 jb_cons (js_set 5 sc__law_values.nd (jn_dispL (E := anyS) (g := fun z => [z.1, z.2.1, z.2.2.1, z.2.2.2.1, z.2.2.2.2.1, z.2.2.2.2.2.1, z.2.2.2.2.2.2.1, z.2.2.2.2.2.2.2.1, z.2.2.2.2.2.2.2.2.1, z.2.2.2.2.2.2.2.2.2.1, z.2.2.2.2.2.2.2.2.2.2.1]) (ja_cons (jn_any (ao_tup ao_int) (jn_var (E := (tupS intS)) (a := a.1) 1)) (ja_cons (jn_any (ao_tup ao_int) (tup_rng T.m_tuple T.m_range (jn_var (E := intS) (a := a304) 2))) (ja_cons (jn_any (ao_tup ao_int) (jn_slT (jn_var (E := (tupS intS)) (a := a.1) 1) (jo_some jn_int) jo_none)) (ja_cons (jn_any (ao_tup ao_int) (jn_bin oCatT ov_catT (jn_var (E := (tupS intS)) (a := a.1) 1) (jn_dispT (E := intS) (g := fun z => [z.1]) (ja_cons (jn_var (E := intS) (a := a304) 2) ja_nil)))) (ja_cons (jn_any (ao_tup ao_int) (jn_bin oCatT ov_catT (jn_var (E := (tupS intS)) (a := a.1) 1) (jn_slT (jn_var (E := (tupS intS)) (a := a.1) 1) jo_none (jo_some jn_int)))) (ja_cons (jn_any (ao_tup ao_int) (jn_nilT (E := intS))) (ja_cons (jn_any ao_non jn_non) (ja_cons (jn_any ao_int (jn_var (E := intS) (a := a304) 2)) (ja_cons (jn_any ao_str jn_str) (ja_cons (jn_any (ao_tup (ao_tup ao_int)) (jn_dispT (E := (tupS intS)) (g := fun z => [z.1]) (ja_cons (jn_var (E := (tupS intS)) (a := a.1) 1) ja_nil))) (ja_cons (jn_any (ao_tup ao_non) (jn_bin oRepG ov_repG (jn_dispT (E := (fun _ : Unit => nonS)) (g := fun z => [z.1]) (ja_cons jn_non ja_nil)) (jn_var (E := intS) (a := a304) 2))) ja_nil))))))))))))) fun a353 =>
 JB.frz (i := 5) (o := (lstO (fun x => sh (anyS x))) a353) (p := (lstS anyS) a353) rfl ((fz_lst (fun _ => fz_sh)) _) (jb_cons (js_set 5 sc__law_values.nd (jn_bin oCat ov_cat (jn_var (E := (lstS anyS)) (a := a353) 5) (JN.frz (fz_lst (fun _ => fz_sh)) (jn_dispL (E := anyS) (g := fun z => [z.1, z.2.1, z.2.2.1, z.2.2.2.1, z.2.2.2.2.1]) (ja_cons (jn_any (ao_tup ao_any) (jn_dispT (E := anyS) (g := fun z => [z.1]) (ja_cons (jn_var (E := anyS) (a := a313) 3) ja_nil))) (ja_cons (jn_any (ao_tup ao_any) (jn_bin oRepG ov_repG (jn_dispT (E := anyS) (g := fun z => [z.1]) (ja_cons (jn_var (E := anyS) (a := a313) 3) ja_nil)) (jn_var (E := intS) (a := a304) 2))) (ja_cons (jn_any (ao_tup ao_str) (jn_bin oRepG ov_repG (jn_dispT (E := strS) (g := fun z => [z.1]) (ja_cons jn_str ja_nil)) (jn_var (E := intS) (a := a304) 2))) (ja_cons (jn_any (ao_tup ao_int) (jn_bin oRepG ov_repG (jn_var (E := (tupS intS)) (a := a.1) 1) jn_int)) (ja_cons (jn_any (ao_tup ao_int) (jn_bin oRepG ov_repG (jn_dispT (E := intS) (g := fun z => [z.1]) (ja_cons jn_int ja_nil)) jn_int)) ja_nil))))))))) fun a425 =>
 jb_cons (js_if (jt_cmp oGt ov_gt (jn_var (E := intS) (a := a304) 2) jn_int) (D := fun v => Kd.nx ((fun v505 : ((List Int) × Int × Int × Int × Int × Int) × (List PV) => [some (h0O v505.1), some (sh ((tupS intS) a.1)), some (sh (intS a304)), some (sh (anyS a313)), none, some ((lstO (fun x => sh (anyS x))) v505.2), none, none, none, none, none]) v)) (jb_cons (js_setE (Γ := fun s506 : ((List Int) × Int × Int × Int × Int × Int) => [some (h0O s506), some (sh ((tupS intS) a.1)), some (sh (intS a304)), some (sh (anyS a313)), none, some ((lstO (fun x => sh (anyS x))) a425), none, none, none, none, none]) (s := s) 6 sc__law_values.nd (je_callS (O := h0O) 0 (fun s => s) (fun s u => u) (ok_law_draw T) T.g__law_draw T.F__law_draw.kp T.b__law_draw (Nat.le_of_ble_eq_true rfl) (jea_of (ja_cons (jn_var (E := intS) (a := a304) 2) ja_nil)))) fun a508 =>
 jb_cons (js_setE (Γ := fun s509 : ((List Int) × Int × Int × Int × Int × Int) => [some (h0O s509), some (sh ((tupS intS) a.1)), some (sh (intS a304)), some (sh (anyS a313)), none, some ((lstO (fun x => sh (anyS x))) a425), some (sh (intS a508.1)), none, none, none, none]) (s := a508.2) 7 sc__law_values.nd (je_callS (O := h0O) 0 (fun s => s) (fun s u => u) (ok_law_draw T) T.g__law_draw T.F__law_draw.kp T.b__law_draw (Nat.le_of_ble_eq_true rfl) (jea_of (ja_cons (jn_var (E := intS) (a := a304) 2) ja_nil)))) fun a511 =>
 jb_cons (js_app (E := (fun x => sh (anyS x))) 5 (jn_any (ao_tup ao_int) (jn_bin oCatT ov_catT (jn_bin oCatT ov_catT (jn_slT (jn_var (E := (tupS intS)) (a := a.1) 1) jo_none (jo_some (jn_var (E := intS) (a := a508.1) 6))) (jn_dispT (E := intS) (g := fun z => [z.1]) (ja_cons (jn_of (jr_ix oIxT iv_tup (jr_of (jn_var (E := (tupS intS)) (a := a.1) 1)) (jn_var (E := intS) (a := a511.1) 7))) ja_nil))) (jn_slT (jn_var (E := (tupS intS)) (a := a.1) 1) (jo_some (jn_bin oAdd ov_add (jn_var (E := intS) (a := a508.1) 6) jn_int)) jo_none)))) fun a519 =>
 jb_cons (js_set 8 sc__law_values.nd (JN.frz (fz_lst (fun _ => fz_sh)) (jn_dispL (E := anyS) (g := fun z => [z.1, z.2.1, z.2.2.1, z.2.2.2.1, z.2.2.2.2.1, z.2.2.2.2.2.1, z.2.2.2.2.2.2.1, z.2.2.2.2.2.2.2.1, z.2.2.2.2.2.2.2.2.1, z.2.2.2.2.2.2.2.2.2.1]) (ja_cons (jn_any ao_int (jn_var (E := intS) (a := a304) 2)) (ja_cons (jn_any ao_int (jn_neg jn_int)) (ja_cons (jn_any ao_int (jn_bin oSub ov_sub (jn_bin oSub ov_sub jn_int (jn_bin oPow ov_pow jn_int jn_int)) (jn_var (E := intS) (a := a511.1) 7))) (ja_cons (jn_any ao_int (jn_bin oAdd ov_add (jn_bin oPow ov_pow jn_int jn_int) (jn_var (E := intS) (a := a508.1) 6))) (ja_cons (jn_any ao_non jn_non) (ja_cons (jn_any ao_str (str_int T.m_str (jn_of (jr_ix oIxT iv_tup (jr_of (jn_var (E := (tupS intS)) (a := a.1) 1)) (jn_var (E := intS) (a := a508.1) 6))))) (ja_cons (jn_any (ao_tup ao_int) (jn_dispT (E := intS) (g := fun z => [z.1]) (ja_cons (jn_of (jr_ix oIxT iv_tup (jr_of (jn_var (E := (tupS intS)) (a := a.1) 1)) (jn_var (E := intS) (a := a508.1) 6))) ja_nil))) (ja_cons (jn_any (ao_tup ao_int) (jn_nilT (E := intS))) (ja_cons (jn_any ao_int (jn_bin oSub ov_sub (jn_of (jr_ix oIxT iv_tup (jr_of (jn_var (E := (tupS intS)) (a := a.1) 1)) (jn_var (E := intS) (a := a508.1) 6))) (jn_var (E := intS) (a := a304) 2))) (ja_cons (jn_any ao_int (jn_bin oAdd ov_add (jn_of (jr_ix oIxT iv_tup (jr_of (jn_var (E := (tupS intS)) (a := a.1) 1)) (jn_var (E := intS) (a := a508.1) 6))) (jn_var (E := intS) (a := a304) 2))) ja_nil))))))))))))) fun a562 =>
 JB.frz (i := 5) (o := (lstO (fun x => sh (anyS x))) a519) (p := (lstS anyS) a519) rfl ((fz_lst (fun _ => fz_sh)) _) (jb_cons (js_set 5 sc__law_values.nd (jn_bin oCat ov_cat (jn_var (E := (lstS anyS)) (a := a519) 5) (JN.frz (fz_lst (fun _ => fz_sh)) (jn_lc sc__law_values.nd (jc_map [("one", 10)] (jic_of (ji_lst (jn_var (E := (lstS anyS)) (a := a562) 8))) (show blkC ["st", "row", "n", "deep", "turn", "values", "i", "k", "odd", "other", "one"] (defScope s__law_values) _ [("one", 10)] = true by decide +kernel) (jg_name (E := anyS) 10 sc__law_values.nd) (by decide) (all_lt rfl) fun x572 => (jn_any (ao_tup ao_any) (jn_bin oCatT ov_catT (jn_bin oCatT ov_catT (jn_as (as_tupA ao_int) (jn_slT (jn_var (E := (tupS intS)) (a := a.1) 1) jo_none (jo_some (jn_var (E := intS) (a := a508.1) 6)))) (jn_dispT (E := anyS) (g := fun z => [z.1]) (ja_cons (jn_var (E := anyS) (a := x572) 10) ja_nil))) (jn_as (as_tupA ao_int) (jn_slT (jn_var (E := (tupS intS)) (a := a.1) 1) (jo_some (jn_bin oAdd ov_add (jn_var (E := intS) (a := a508.1) 6) jn_int)) jo_none))))))))) fun a577 =>
 jb_cons (js_set 9 sc__law_values.nd (list_tup T.m_list (jn_var (E := (tupS intS)) (a := a.1) 1))) fun a578 =>
 jb_cons (js_setI (E := (fun x => sh (intS x))) 9 (jn_of (jr_ix oIxT iv_tup (jr_of (jn_var (E := (tupS intS)) (a := a.1) 1)) (jn_var (E := intS) (a := a511.1) 7))) (jn_var (E := intS) (a := a508.1) 6)) fun a580 =>
 jb_cons (js_setI (E := (fun x => sh (intS x))) 9 (jn_of (jr_ix oIxT iv_tup (jr_of (jn_var (E := (tupS intS)) (a := a.1) 1)) (jn_var (E := intS) (a := a508.1) 6))) (jn_var (E := intS) (a := a511.1) 7)) fun a582 =>
 jb_cons (js_app (E := (fun x => sh (anyS x))) 5 (jn_any (ao_tup ao_int) (tup_own T.m_tuple (jr_var (R := (lstO (fun x => sh (intS x)))) (a := a582) 9)))) fun a584 =>
 jb_nil (x := (a511.2, a584)) rfl (weak_mask [true, true, true, true, false, true, false, false, false, false, false] _))) (jb_nil (x := (s, a425)) rfl (weak_mask [true, true, true, true, false, true, false, false, false, false, false] _))) fun a585 =>
 JB.frz (i := 5) (o := (lstO (fun x => sh (anyS x))) a585.2) (p := (lstS anyS) a585.2) rfl ((fz_lst (fun _ => fz_sh)) _) (jb_retS (R := (fun x => sh ((lstS anyS) x))) (Δ := fun s => some (h0O s) :: nonC 10) (s := a585.1) (weak_mask [true, false, false, false, false, false, false, false, false, false, false] _) (jn_var (E := (lstS anyS)) (a := a585.2) 5)))) (by unfold M_law_values; first | (dsimp only [CC.sb]; done) | (dsimp only [CC.sb]; rfl) | rfl)
def M_law_is_row (a : PV × (Int × Unit)) : Option Bool :=
 (bif !(pT a.1) then some true else (lenA a.1).bind fun x590 => some (!decide (x590 = a.2.1))).bind fun x607 => bif x607 then some false else ((asT a.1).bind fun x605 => foldGo (fun x593 s594 => ((bif pI x593 then ((asI x593).bind fun x595 => some (decide ((0 : Int) ≤ x595))).bind fun x597 => bif x597 then (asI x593).bind fun x596 => some (decide (x596 < a.2.1)) else some false else some false).bind fun x603 => bif x603 then ((asI x593).bind fun x601 => putMO s594 x601 true).bind fun a602 => some a602 else some s594).bind fun a604 => some a604) x605 []).bind fun a606 => some (decide ((a606.length : Int) = a.2.1))
theorem ok_law_is_row (T : Tx K mg) : FnOk P w K mg base CX0 1 T.a__law_is_row T.d__law_is_row ["value", "n"] (spP (fun a : PV × (Int × Unit) => [anyS a.1, intS a.2.1]) M_law_is_row (fun x => sh (boolS x))) :=
 fnd_pure (Δ := nonC 4) T.F__law_is_row sc__law_is_row (fun _ => rfl) (by decide) fun a => JB.cong (
 jb_ifr (jt_w (jw_or (jt_not (jt_val (jn_isiA (cn := "tuple") pT T.m_isinstance T.m_tuple (jn_var (E := anyS) (a := a.1) 0)))) (jw_or1 (jt_cmp oNe ov_neI (len_any T.m_len (jn_var (E := anyS) (a := a.1) 0)) (jn_var (E := intS) (a := a.2.1) 1))))) (jb_ret (weak_none _) jn_bl) (fun _ => trivial)
 (jb_cons (js_set 2 sc__law_is_row.nd (jn_dnew (kk := Sum.inl) (E := boolS))) fun a591 =>
 jb_cons (js_forS (Γl := fun s592 : (List (Int × Bool)) => [some (sh (anyS a.1)), some (sh (intS a.2.1)), some ((dkO Sum.inl boolS) s592), none]) a591 (ji_tup (jn_as as_tup (jn_var (E := anyS) (a := a.1) 0))) (jg_name (E := anyS) 3 sc__law_is_row.nd) (weak_mask [true, true, true, false] _) (fun _ => all_lt rfl) fun x593 s594 =>
 jb_cons (js_if (jt_w (jw_and (jt_val (jn_isiA (cn := "int") pI T.m_isinstance T.m_int (jn_var (E := anyS) (a := x593) 3))) (jw_and (jt_cmp oLe ov_le jn_int (jn_as as_int (jn_var (E := anyS) (a := x593) 3))) (jw_and1 (jt_cmp oLt ov_lt (jn_as as_int (jn_var (E := anyS) (a := x593) 3)) (jn_var (E := intS) (a := a.2.1) 1)))))) (D := fun v => Kd.nx ((fun v600 : (List (Int × Bool)) => [some (sh (anyS a.1)), some (sh (intS a.2.1)), some ((dkO Sum.inl boolS) v600), some (sh (anyS x593))]) v)) (jb_cons (js_dput (E := boolS) 2 ke_int jn_bl (jn_as as_int (jn_var (E := anyS) (a := x593) 3))) fun a602 =>
 jb_nil (x := a602) rfl (weak_mask [true, true, true, true] _)) (jb_nil (x := s594) rfl (weak_mask [true, true, true, true] _))) fun a604 =>
 jb_nil (x := a604) rfl (weak_mask [true, true, true, false] _)) fun a606 =>
 jb_ret (weak_none _) (jn_cmp oEq ov_eqI (len_dk rd_dkO T.m_len (jr_var (R := (dkO Sum.inl boolS)) (a := a606) 2)) (jn_var (E := intS) (a := a.2.1) 1)))) (by unfold M_law_is_row; first | (dsimp only [CC.sb]; done) | (dsimp only [CC.sb]; rfl) | rfl)
def M_law_renamed_2 (a : (Int × (List (Int × Int))) × (PV × Unit)) : Option (Int × (List (Int × Int))) :=
 (((((mapM (fun x609 => (((ixA a.2.1 x609.1).bind fun x610 => asI x610).bind fun x612 => (((ixA a.2.1 x609.2).bind fun x611 => asI x611).bind fun x613 => some (x613, ())).bind fun y614 => some (x612, y614)).bind fun z615 => some (z615.1, z615.2.1)) a.1.2).bind fun x616 => some (sortP x616)).bind fun x => some x).bind fun x617 => some (x617, ())).bind fun y618 => some (a.1.1, y618)).bind fun z619 => some (z619.1, z619.2.1)
theorem ok_law_renamed_2 (T : Tx K mg) : FnOk P w K mg base CX0 1 T.a__law_renamed T.d__law_renamed ["order", "row"] (spP (fun a : (Int × (List (Int × Int))) × (PV × Unit) => [(prS intS (tupS (prS intS intS))) a.1, anyS a.2.1]) M_law_renamed_2 (fun x => sh ((prS intS (tupS (prS intS intS))) x))) :=
 fnd_pure (Δ := nonC 3) T.F__law_renamed sc__law_renamed (fun _ => rfl) (by decide) fun a => JB.cong (
 jb_ret (weak_none _) (jn_tupG (P := (prS intS (tupS (prS intS intS)))) (g := fun z => (z.1, z.2.1)) (ja_cons (jn_ixT (E := intS) (g := fun z => z.1) 0 (jn_var (E := (prS intS (tupS (prS intS intS)))) (a := a.1) 0)) (ja_cons (tup_lst T.m_tuple (JN.frz (fz_lst (fun _ => fz_sh)) (sorted_prs T.m_sorted (JN.frz (fz_lst (fun _ => fz_sh)) (jn_lc sc__law_renamed.nd (jc_map [("pair", 2)] (jic_of (ji_tup (jn_ixT (E := (tupS (prS intS intS))) (g := fun z => z.2) 1 (jn_var (E := (prS intS (tupS (prS intS intS)))) (a := a.1) 0)))) (show blkC ["order", "row", "pair"] (defScope s__law_renamed) _ [("pair", 2)] = true by decide +kernel) (jg_name (E := (prS intS intS)) 2 sc__law_renamed.nd) (by decide) (all_lt rfl) fun x609 => (jn_tupG (P := (prS intS intS)) (g := fun z => (z.1, z.2.1)) (ja_cons (jn_as as_int (jn_of (jr_ix oIxA iv_any (jr_of (jn_var (E := anyS) (a := a.2.1) 1)) (jn_ixT (E := intS) (g := fun z => z.1) 0 (jn_var (E := (prS intS intS)) (a := x609) 2))))) (ja_cons (jn_as as_int (jn_of (jr_ix oIxA iv_any (jr_of (jn_var (E := anyS) (a := a.2.1) 1)) (jn_ixT (E := intS) (g := fun z => z.2) 1 (jn_var (E := (prS intS intS)) (a := x609) 2))))) ja_nil))))))))) ja_nil)))) (by unfold M_law_renamed_2; first | (dsimp only [CC.sb]; done) | (dsimp only [CC.sb]; rfl) | rfl)
def M_law_is_renaming (a : (Int × (List (Int × Int))) × ((Int × (List (Int × Int))) × (PV × Unit))) : Option Bool :=
 (bif !decide (a.1.1 = a.2.1.1) then some true else (M_law_is_row (a.2.2.1, (a.1.1, ()))).bind fun x608 => some (!x608)).bind fun x624 => bif x624 then some false else ((M_law_renamed_2 (a.1, (a.2.2.1, ()))).bind fun x620 => some (PV.tup [PV.int x620.1, PV.tup (x620.2.map (fun u621 => PV.tup [PV.int u621.1, PV.int u621.2]))])).bind fun x623 => eqP x623 (PV.tup [PV.int a.2.1.1, PV.tup (a.2.1.2.map (fun u622 => PV.tup [PV.int u622.1, PV.int u622.2]))])
theorem ok_law_is_renaming (T : Tx K mg) : FnOk P w K mg base CX0 2 T.a__law_is_renaming T.d__law_is_renaming ["first", "second", "value"] (spP (fun a : (Int × (List (Int × Int))) × ((Int × (List (Int × Int))) × (PV × Unit)) => [(prS intS (tupS (prS intS intS))) a.1, (prS intS (tupS (prS intS intS))) a.2.1, anyS a.2.2.1]) M_law_is_renaming (fun x => sh (boolS x))) :=
 fnd_pure (Δ := nonC 3) T.F__law_is_renaming sc__law_is_renaming (fun _ => rfl) (by decide) fun a => JB.cong (
 jb_ifr (jt_w (jw_or (jt_cmp oNe ov_neI (jn_ixT (E := intS) (g := fun z => z.1) 0 (jn_var (E := (prS intS (tupS (prS intS intS)))) (a := a.1) 0)) (jn_ixT (E := intS) (g := fun z => z.1) 0 (jn_var (E := (prS intS (tupS (prS intS intS)))) (a := a.2.1) 1))) (jw_or1 (jt_not (jt_val (jn_call (ok_law_is_row T) T.g__law_is_row T.F__law_is_row.kp T.b__law_is_row (Nat.le_of_ble_eq_true rfl) (ja_cons (jn_var (E := anyS) (a := a.2.2.1) 2) (ja_cons (jn_ixT (E := intS) (g := fun z => z.1) 0 (jn_var (E := (prS intS (tupS (prS intS intS)))) (a := a.1) 0)) ja_nil)))))))) (jb_ret (weak_none _) jn_bl) (fun _ => trivial)
 (jb_ret (weak_none _) (jn_cmp oEqD ov_eqP (jn_any (ao_pr ao_int (ao_tup (ao_pr ao_int ao_int))) (jn_call (ok_law_renamed_2 T) T.g__law_renamed T.F__law_renamed.kp T.b__law_renamed (Nat.le_of_ble_eq_true rfl) (ja_cons (jn_var (E := (prS intS (tupS (prS intS intS)))) (a := a.1) 0) (ja_cons (jn_var (E := anyS) (a := a.2.2.1) 2) ja_nil)))) (jn_any (ao_pr ao_int (ao_tup (ao_pr ao_int ao_int))) (jn_var (E := (prS intS (tupS (prS intS intS)))) (a := a.2.1) 1))))) (by unfold M_law_is_renaming; first | (dsimp only [CC.sb]; done) | (dsimp only [CC.sb]; rfl) | rfl)
def M_is_renaming (a : (Int × (List (Int × Int))) × ((Int × (List (Int × Int))) × (PV × Unit))) : Option Bool :=
 (bif !(pT a.2.2.1) then some true else ((lenA a.2.2.1).bind fun x626 => some (!decide (x626 = a.1.1))).bind fun x628 => bif x628 then some true else (lenA a.2.2.1).bind fun x627 => some (!decide (x627 = a.2.1.1))).bind fun x657 => bif x657 then some false else ((asT a.2.2.1).bind fun x634 => loopGo (fun x630 s631 => (bif !(pI x630) then some true else some (pB x630)).bind fun x633 => bif x633 then (some false).bind fun y632 => some (Out.rt y632) else some (Out.nx ())) x634 ()).bind fun o655 => o655.k (fun a635 => ((((asTI a.2.2.1).bind fun x636 => some (sortI x636)).bind fun x637 => some (PV.lst (x637.map PV.int))).bind fun x641 => ((rng 0 a.1.1).bind fun x639 => some (PV.lst (x639.map PV.int))).bind fun x642 => neP x641 x642).bind fun x654 => bif x654 then some false else ((mapM (fun x643 => (((ixA a.2.2.1 x643.1).bind fun x644 => asI x644).bind fun x646 => (((ixA a.2.2.1 x643.2).bind fun x645 => asI x645).bind fun x647 => some (x647, ())).bind fun y648 => some (x646, y648)).bind fun z649 => some (z649.1, z649.2.1)) a.1.2).bind fun x650 => some (sortP x650)).bind fun a651 => eqP (PV.tup (a651.map (fun u652 => PV.tup [PV.int u652.1, PV.int u652.2]))) (PV.tup (a.2.1.2.map (fun u653 => PV.tup [PV.int u653.1, PV.int u653.2])))) fun r656 => some ((fun r => r) r656)
theorem ok_is_renaming (T : Tx K mg) : FnOk P w K mg base CX0 1 T.a_is_renaming T.d_is_renaming ["first", "second", "value"] (spP (fun a : (Int × (List (Int × Int))) × ((Int × (List (Int × Int))) × (PV × Unit)) => [(prS intS (tupS (prS intS intS))) a.1, (prS intS (tupS (prS intS intS))) a.2.1, anyS a.2.2.1]) M_is_renaming (fun x => sh (boolS x))) :=
 fnd_pure (Δ := nonC 7) T.F_is_renaming sc_is_renaming (fun _ => rfl) (by decide) fun a => JB.cong (
 jb_ifr (jt_w (jw_or (jt_not (jt_val (jn_isiA (cn := "tuple") pT T.m_isinstance T.m_tuple (jn_var (E := anyS) (a := a.2.2.1) 2)))) (jw_or (jt_cmp oNe ov_neI (len_any T.m_len (jn_var (E := anyS) (a := a.2.2.1) 2)) (jn_ixT (E := intS) (g := fun z => z.1) 0 (jn_var (E := (prS intS (tupS (prS intS intS)))) (a := a.1) 0))) (jw_or1 (jt_cmp oNe ov_neI (len_any T.m_len (jn_var (E := anyS) (a := a.2.2.1) 2)) (jn_ixT (E := intS) (g := fun z => z.1) 0 (jn_var (E := (prS intS (tupS (prS intS intS)))) (a := a.2.1) 1))))))) (jb_ret (weak_none _) jn_bl) (fun _ => trivial)
 (jb_consO (Γl := fun s629 : Unit => [some (sh ((prS intS (tupS (prS intS intS))) a.1)), some (sh ((prS intS (tupS (prS intS intS))) a.2.1)), some (sh (anyS a.2.2.1)), none, none, none, none]) (T := fun r : Bool => Kd.rt (nonC 7) ((fun x => sh (boolS x)) r)) (fun r => r) (js_for (Γl := fun s629 : Unit => [some (sh ((prS intS (tupS (prS intS intS))) a.1)), some (sh ((prS intS (tupS (prS intS intS))) a.2.1)), some (sh (anyS a.2.2.1)), none, none, none, none]) (T := fun r : Bool => Kd.rt (nonC 7) ((fun x => sh (boolS x)) r)) () (ji_tup (jn_as as_tup (jn_var (E := anyS) (a := a.2.2.1) 2))) (jg_name (E := anyS) 3 sc_is_renaming.nd) (weak_mask [true, true, true, false, false, false, false] _) (fun _ => all_lt rfl) (fun _ => ⟨trivial, nofun, nofun⟩) fun x630 s631 =>
 jb_ifx (D' := (fun r : Bool => Kd.rt (nonC 7) ((fun x => sh (boolS x)) r))) Out.rt (jt_w (jw_or (jt_not (jt_val (jn_isiA (cn := "int") pI T.m_isinstance T.m_int (jn_var (E := anyS) (a := x630) 3)))) (jw_or1 (jt_val (jn_isiA (cn := "bool") pB T.m_isinstance T.m_bool (jn_var (E := anyS) (a := x630) 3)))))) (jb_ret (weak_none _) jn_bl) (fun _ => rfl) (fun _ => trivial)
 (jb_nil (x := Out.nx ()) rfl (weak_mask [true, true, true, false, false, false, false] _))) (fun _ => rfl) (fun _ => trivial) fun a635 =>
 jb_ifr (jt_cmp oNeD ov_neP (jn_any (ao_lst ao_int) (JN.frz (fz_lst (fun _ => fz_sh)) (sorted_intsT T.m_sorted (jn_as as_tupI (jn_var (E := anyS) (a := a.2.2.1) 2))))) (jn_any (ao_lst ao_int) (JN.frz (fz_lst (fun _ => fz_sh)) (list_rng T.m_list T.m_range (jn_ixT (E := intS) (g := fun z => z.1) 0 (jn_var (E := (prS intS (tupS (prS intS intS)))) (a := a.1) 0)))))) (jb_ret (weak_none _) jn_bl) (fun _ => trivial)
 (jb_cons (js_set 4 sc_is_renaming.nd (sorted_prs T.m_sorted (JN.frz (fz_lst (fun _ => fz_sh)) (jn_lc sc_is_renaming.nd (jc_map [("x", 5), ("y", 6)] (jic_of (ji_tup (jn_ixT (E := (tupS (prS intS intS))) (g := fun z => z.2) 1 (jn_var (E := (prS intS (tupS (prS intS intS)))) (a := a.1) 0)))) (show blkC ["first", "second", "value", "point", "images", "x", "y"] (defScope s_is_renaming) _ [("x", 5), ("y", 6)] = true by decide +kernel) (jg_pair (E := intS) (G := intS) 5 6 sc_is_renaming.nd) (by decide) (all_lt rfl) fun x643 => (jn_tupG (P := (prS intS intS)) (g := fun z => (z.1, z.2.1)) (ja_cons (jn_as as_int (jn_of (jr_ix oIxA iv_any (jr_of (jn_var (E := anyS) (a := a.2.2.1) 2)) (jn_var (E := intS) (a := x643.1) 5)))) (ja_cons (jn_as as_int (jn_of (jr_ix oIxA iv_any (jr_of (jn_var (E := anyS) (a := a.2.2.1) 2)) (jn_var (E := intS) (a := x643.2) 6)))) ja_nil)))))))) fun a651 =>
 jb_ret (weak_none _) (jn_cmp oEqD ov_eqP (jn_any (ao_tup (ao_pr ao_int ao_int)) (tup_own T.m_tuple (jr_var (R := (lstO (fun x => sh ((prS intS intS) x)))) (a := a651) 4))) (jn_any (ao_tup (ao_pr ao_int ao_int)) (jn_ixT (E := (tupS (prS intS intS))) (g := fun z => z.2) 1 (jn_var (E := (prS intS (tupS (prS intS intS)))) (a := a.2.1) 1))))))) (by unfold M_is_renaming; first | (dsimp only [CC.sb]; done) | (dsimp only [CC.sb]; rfl) | rfl)
def M_law_asked (a : (Int × (List (Int × Int))) × ((Int × (List (Int × Int))) × (PV × Unit))) : Option Bool :=
 (M_law_is_renaming (a.1, (a.2.1, (a.2.2.1, ())))).bind fun a625 => (((M_is_renaming (a.1, (a.2.1, (a.2.2.1, ())))).bind fun x658 => ((M_is_renaming (a.1, a.2.1, a.2.2.1, ())).bind fun x659 => some (x659, ())).bind fun y660 => some (x658, y660)).bind fun z661 => some (z661.1, z661.2.1)).bind fun a662 => bif a625 then bif decide (a662.1 = true) then some (decide (a662.2 = true)) else some false else bif decide (a662.1 = false) then some (decide (a662.2 = false)) else some false
theorem ok_law_asked (T : Tx K mg) : FnOk P w K mg base CX0 3 T.a__law_asked T.d__law_asked ["first", "second", "value"] (spP (fun a : (Int × (List (Int × Int))) × ((Int × (List (Int × Int))) × (PV × Unit)) => [(prS intS (tupS (prS intS intS))) a.1, (prS intS (tupS (prS intS intS))) a.2.1, anyS a.2.2.1]) M_law_asked (fun x => sh (boolS x))) :=
 fnd_pure (Δ := nonC 5) T.F__law_asked sc__law_asked (fun _ => rfl) (by decide) fun a => JB.cong (
 jb_cons (js_set 3 sc__law_asked.nd (jn_call (ok_law_is_renaming T) T.g__law_is_renaming T.F__law_is_renaming.kp T.b__law_is_renaming (Nat.le_of_ble_eq_true rfl) (ja_cons (jn_var (E := (prS intS (tupS (prS intS intS)))) (a := a.1) 0) (ja_cons (jn_var (E := (prS intS (tupS (prS intS intS)))) (a := a.2.1) 1) (ja_cons (jn_var (E := anyS) (a := a.2.2.1) 2) ja_nil))))) fun a625 =>
 jb_cons (js_set 4 sc__law_asked.nd (jn_tupG (P := (prS boolS boolS)) (g := fun z => (z.1, z.2.1)) (ja_cons (jn_call (ok_is_renaming T) T.g_is_renaming T.F_is_renaming.kp T.b_is_renaming (Nat.le_of_ble_eq_true rfl) (ja_cons (jn_var (E := (prS intS (tupS (prS intS intS)))) (a := a.1) 0) (ja_cons (jn_var (E := (prS intS (tupS (prS intS intS)))) (a := a.2.1) 1) (ja_cons (jn_var (E := anyS) (a := a.2.2.1) 2) ja_nil)))) (ja_cons (jn_call0N (fun z => (z.2.2.1, z.2.1, z.1, ())) (ok_is_renaming T) T.g_is_renaming T.F_is_renaming.kp T.q0_is_renaming (by intro z B zs h; exact hets_s (vs := []) (ps := []) trivial h rfl) (by intro _; rfl) (Nat.le_of_ble_eq_true rfl) (jk_cons (jn_var (E := anyS) (a := a.2.2.1) 2) (jk_cons (jn_var (E := (prS intS (tupS (prS intS intS)))) (a := a.2.1) 1) (jk_cons (jn_var (E := (prS intS (tupS (prS intS intS)))) (a := a.1) 0) jk_nil)))) ja_nil)))) fun a662 =>
 jb_ifr (jt_val (jn_var (E := boolS) (a := a625) 3)) (jb_ret (weak_none _) (jn_and (jn_cmp oIsB ov_isB (jn_ixT (E := boolS) (g := fun z => z.1) 0 (jn_var (E := (prS boolS boolS)) (a := a662) 4)) jn_bl) (jn_one (jn_cmp oIsB ov_isB (jn_ixT (E := boolS) (g := fun z => z.2) 1 (jn_var (E := (prS boolS boolS)) (a := a662) 4)) jn_bl)))) (fun _ => trivial)
 (jb_ret (weak_none _) (jn_and (jn_cmp oIsB ov_isB (jn_ixT (E := boolS) (g := fun z => z.1) 0 (jn_var (E := (prS boolS boolS)) (a := a662) 4)) jn_bl) (jn_one (jn_cmp oIsB ov_isB (jn_ixT (E := boolS) (g := fun z => z.2) 1 (jn_var (E := (prS boolS boolS)) (a := a662) 4)) jn_bl))))) (by unfold M_law_asked; first | (dsimp only [CC.sb]; done) | (dsimp only [CC.sb]; rfl) | rfl)
def M_law_marked (a : (List (Int × Int)) × Unit) : Option (List ((Int × Int) × Bool)) :=
 (foldGo (fun x674 s675 => (putMO s675 x674 true).bind fun a676 => some a676) a.1 []).bind fun a677 => some a677
theorem ok_law_marked (T : Tx K mg) : FnOk P w K mg base CX0 1 T.a__law_marked T.d__law_marked ["pairs"] (spP (fun a : (List (Int × Int)) × Unit => [(tupS (prS intS intS)) a.1]) M_law_marked (dtO (fun p : Int × Int => [Sum.inl p.1, Sum.inl p.2]) boolS)) :=
 fnd_pure (Δ := nonC 3) T.F__law_marked sc__law_marked (fun _ => rfl) (by decide) fun a => JB.cong (
 jb_cons (js_set 1 sc__law_marked.nd (jn_tnew (kt := (fun p : Int × Int => [Sum.inl p.1, Sum.inl p.2])) (E := boolS))) fun a672 =>
 jb_cons (js_forS (Γl := fun s673 : (List ((Int × Int) × Bool)) => [some (sh ((tupS (prS intS intS)) a.1)), some ((dtO (fun p : Int × Int => [Sum.inl p.1, Sum.inl p.2]) boolS) s673), none]) a672 (ji_tup (jn_var (E := (tupS (prS intS intS))) (a := a.1) 0)) (jg_name (E := (prS intS intS)) 2 sc__law_marked.nd) (weak_mask [true, true, false] _) (fun _ => all_lt rfl) fun x674 s675 =>
 jb_cons (js_tput (E := boolS) 1 kt_prII jn_bl (jn_var (E := (prS intS intS)) (a := x674) 2)) fun a676 =>
 jb_nil (x := a676) rfl (weak_mask [true, true, false] _)) fun a677 =>
 jb_retO (R := (dtO (fun p : Int × Int => [Sum.inl p.1, Sum.inl p.2]) boolS)) 1 (weak_none _)) (by unfold M_law_marked; first | (dsimp only [CC.sb]; done) | (dsimp only [CC.sb]; rfl) | rfl)
def M_law_one (a : (List (Int × Int)) × Unit) (s : ((List Int) × Int × Int × Int × Int × Int)) : Option ((Int × Int) × ((List Int) × Int × Int × Int × Int × Int)) :=
 ((M_law_draw ((a.1.length : Int), ()) s).bind fun r682 => some (r682.1, r682.2)).bind fun q683 => (atI a.1 q683.1).bind fun z684 => some (z684, q683.2)
theorem ok_law_one (T : Tx K mg) : FnOk P w K mg base CX0 3 T.a__law_one T.d__law_one ["st", "row"] (spS h0O (fun a : (List (Int × Int)) × Unit => [(tupS (prS intS intS)) a.1]) M_law_one (fun x => sh ((prS intS intS) x))) :=
 fnd_state T.F__law_one sc__law_one (fun _ => rfl) (by decide) fun a s => JB.cong (
 jb_retE (R := (fun x => sh ((prS intS intS) x))) (Γ := fun s680 : ((List Int) × Int × Int × Int × Int × Int) => [some (h0O s680), some (sh ((tupS (prS intS intS)) a.1))]) (s := s) (Δ := fun s => some (h0O s) :: nonC 1) (fun _ => (weak_mask [true, false] _)) (je_ix oIxT iv_tup (je_of (jn_var (E := (tupS (prS intS intS))) (a := a.1) 1)) fun s681 => (je_callS (O := h0O) 0 (fun s => s) (fun s u => u) (ok_law_draw T) T.g__law_draw T.F__law_draw.kp T.b__law_draw (Nat.le_of_ble_eq_true rfl) (jea_of (ja_cons (len_tup T.m_len (jn_var (E := (tupS (prS intS intS))) (a := a.1) 1)) ja_nil))))) (by unfold M_law_one; first | (dsimp only [CC.sb]; done) | (dsimp only [CC.sb]; rfl) | rfl)
def M_law_one_1 (a : (List Int) × Unit) (s : ((List Int) × Int × Int × Int × Int × Int)) : Option (Int × ((List Int) × Int × Int × Int × Int × Int)) :=
 ((M_law_draw ((a.1.length : Int), ()) s).bind fun r703 => some (r703.1, r703.2)).bind fun q704 => (atI a.1 q704.1).bind fun z705 => some (z705, q704.2)
theorem ok_law_one_1 (T : Tx K mg) : FnOk P w K mg base CX0 3 T.a__law_one T.d__law_one ["st", "row"] (spS h0O (fun a : (List Int) × Unit => [(lstS intS) a.1]) M_law_one_1 (fun x => sh (intS x))) :=
 fnd_state T.F__law_one sc__law_one (fun _ => rfl) (by decide) fun a s => JB.cong (
 jb_retE (R := (fun x => sh (intS x))) (Γ := fun s701 : ((List Int) × Int × Int × Int × Int × Int) => [some (h0O s701), some (sh ((lstS intS) a.1))]) (s := s) (Δ := fun s => some (h0O s) :: nonC 1) (fun _ => (weak_mask [true, false] _)) (je_ix oIxL iv_lst (je_of (jn_var (E := (lstS intS)) (a := a.1) 1)) fun s702 => (je_callS (O := h0O) 0 (fun s => s) (fun s u => u) (ok_law_draw T) T.g__law_draw T.F__law_draw.kp T.b__law_draw (Nat.le_of_ble_eq_true rfl) (jea_of (ja_cons (len_lst T.m_len (jn_var (E := (lstS intS)) (a := a.1) 1)) ja_nil))))) (by unfold M_law_one_1; first | (dsimp only [CC.sb]; done) | (dsimp only [CC.sb]; rfl) | rfl)
def M_law_one_cover (a : (Int × (List (Int × Int))) × Unit) (s : ((List Int) × Int × Int × Int × Int × Int)) : Option ((Int × Int) × ((List Int) × Int × Int × Int × Int × Int)) :=
 (M_law_marked (a.1.2, ())).bind fun a678 => (((M_law_one (a.1.2, ()) s).bind fun r685 => some (r685.1, r685.2)).bind fun q686 => some (q686.1.1, q686.2)).bind fun a687 => (compM (fun x688 => some (decide (x688.1 = a687.1))) (fun x688 => some x688.2) a.1.2).bind fun a689 => (compM (fun x690 => ((compM (fun x691 => some ((getM a678 (x691, x690)).isSome)) (fun x691 => some x691) a689).bind fun x692 => some (PV.lst (x692.map PV.int))).bind fun x695 => eqP x695 (PV.lst ([].map PV.int))) (fun x690 => some x690) a689).bind fun a696 => ((((M_law_one_1 (a696, ()) a687.2).bind fun r706 => some (r706.1, r706.2)).bind fun q708 => some ((q708.1, ()), q708.2)).bind fun q709 => some ((a687.1, q709.1), q709.2)).bind fun q710 => some ((q710.1.1, q710.1.2.1), q710.2)
theorem ok_law_one_cover (T : Tx K mg) : FnOk P w K mg base CX0 4 T.a__law_one_cover T.d__law_one_cover ["st", "order"] (spS h0O (fun a : (Int × (List (Int × Int))) × Unit => [(prS intS (tupS (prS intS intS))) a.1]) M_law_one_cover (fun x => sh ((prS intS intS) x))) :=
 fnd_state T.F__law_one_cover sc__law_one_cover (fun _ => rfl) (by decide) fun a s => JB.cong (
 jb_cons (js_set 2 sc__law_one_cover.nd (jn_call (ok_law_marked T) T.g__law_marked T.F__law_marked.kp T.b__law_marked (Nat.le_of_ble_eq_true rfl) (ja_cons (jn_ixT (E := (tupS (prS intS intS))) (g := fun z => z.2) 1 (jn_var (E := (prS intS (tupS (prS intS intS)))) (a := a.1) 1)) ja_nil))) fun a678 =>
 jb_cons (js_setE (Γ := fun s679 : ((List Int) × Int × Int × Int × Int × Int) => [some (h0O s679), some (sh ((prS intS (tupS (prS intS intS))) a.1)), some ((dtO (fun p : Int × Int => [Sum.inl p.1, Sum.inl p.2]) boolS) a678), none, none, none, none, none, none]) (s := s) 3 sc__law_one_cover.nd (je_ixT (E := intS) (g := fun z => z.1) 0 (je_callS (O := h0O) 0 (fun s => s) (fun s u => u) (ok_law_one T) T.g__law_one T.F__law_one.kp T.b__law_one (Nat.le_of_ble_eq_true rfl) (jea_of (ja_cons (jn_ixT (E := (tupS (prS intS intS))) (g := fun z => z.2) 1 (jn_var (E := (prS intS (tupS (prS intS intS)))) (a := a.1) 1)) ja_nil))))) fun a687 =>
 jb_cons (js_setLcC 4 sc__law_one_cover.nd (jn_lc sc__law_one_cover.nd (jc_of [("pair", 6)] (jic_of (ji_tup (jn_ixT (E := (tupS (prS intS intS))) (g := fun z => z.2) 1 (jn_var (E := (prS intS (tupS (prS intS intS)))) (a := a.1) 1)))) (show blkC ["st", "order", "marked", "x", "highs", "first", "pair", "y", "z"] (defScope s__law_one_cover) _ [("pair", 6)] = true by decide +kernel) (jg_name (E := (prS intS intS)) 6 sc__law_one_cover.nd) (by decide) (all_lt rfl) (fun x688 => jts_one (jt_cmp oEq ov_eqI (jn_ixT (E := intS) (g := fun z => z.1) 0 (jn_var (E := (prS intS intS)) (a := x688) 6)) (jn_var (E := intS) (a := a687.1) 3))) fun x688 => (jn_ixT (E := intS) (g := fun z => z.2) 1 (jn_var (E := (prS intS intS)) (a := x688) 6))))) fun a689 =>
 jb_cons (js_setLc 5 sc__law_one_cover.nd (jc_of [("y", 7)] (jic_own (jr_var (R := (lstO (fun x => sh (intS x)))) (a := a689) 4)) (show blkC ["st", "order", "marked", "x", "highs", "first", "pair", "y", "z"] (defScope s__law_one_cover) _ [("y", 7)] = true by decide +kernel) (jg_name (E := intS) 7 sc__law_one_cover.nd) (by decide) (all_lt rfl) (fun x690 => jts_one (jt_cmp oEqD ov_eqP (jn_any (ao_lst ao_int) (JN.frz (fz_lst (fun _ => fz_sh)) (jn_lc sc__law_one_cover.nd (jc_of [("z", 8)] (jic_own (jr_var (R := (lstO (fun x => sh (intS x)))) (a := a689) 4)) (show blkC ["st", "order", "marked", "x", "highs", "first", "pair", "y", "z"] (relS _ (defScope s__law_one_cover)) _ [("z", 8)] = true by decide +kernel) (jg_name (E := intS) 8 sc__law_one_cover.nd) (by decide) (all_lt rfl) (fun x691 => jts_one (jt_tin kt_prII rd_dtO (jn_tupG (P := (prS intS intS)) (g := fun z => (z.1, z.2.1)) (ja_cons (jn_var (E := intS) (a := x691) 8) (ja_cons (jn_var (E := intS) (a := x690) 7) ja_nil))) (jr_var (R := (dtO (fun p : Int × Int => [Sum.inl p.1, Sum.inl p.2]) boolS)) (a := a678) 2))) fun x691 => (jn_var (E := intS) (a := x691) 8))))) (jn_any (ao_lst ao_int) (JN.frz (fz_lst (fun _ => fz_sh)) (jn_nilLO (E := (fun x => sh (intS x)))))))) fun x690 => (jn_var (E := intS) (a := x690) 7))) fun a696 =>
 JB.frz (i := 5) (o := (lstO (fun x => sh (intS x))) a696) (p := (lstS intS) a696) rfl ((fz_lst (fun _ => fz_sh)) _) (jb_retE (R := (fun x => sh ((prS intS intS) x))) (Γ := fun s699 : ((List Int) × Int × Int × Int × Int × Int) => [some (h0O s699), some (sh ((prS intS (tupS (prS intS intS))) a.1)), some ((dtO (fun p : Int × Int => [Sum.inl p.1, Sum.inl p.2]) boolS) a678), some (sh (intS a687.1)), some ((lstO (fun x => sh (intS x))) a689), some (sh ((lstS intS) a696)), none, none, none]) (s := a687.2) (Δ := fun s => some (h0O s) :: nonC 8) (fun _ => (weak_mask [true, false, false, false, false, false, false, false, false] _)) (je_tupG (P := (prS intS intS)) (g := fun z => (z.1, z.2.1)) (jea_cons (je_of (jn_var (E := intS) (a := a687.1) 3)) fun s700 => (jea_cons (je_callS (O := h0O) 0 (fun s => s) (fun s u => u) (ok_law_one_1 T) T.g__law_one T.F__law_one.kp T.b__law_one (Nat.le_of_ble_eq_true rfl) (jea_of (ja_cons (jn_var (E := (lstS intS)) (a := a696) 5) ja_nil))) fun s707 => jea_nil))))) (by unfold M_law_one_cover; first | (dsimp only [CC.sb]; done) | (dsimp only [CC.sb]; rfl) | rfl)
def M_law_without (a : (Int × (List (Int × Int))) × ((Int × Int) × Unit)) : Option (Int × (List (Int × Int))) :=
 ((((compM (fun x715 => neP (PV.tup [PV.int x715.1, PV.int x715.2]) (PV.tup [PV.int a.2.1.1, PV.int a.2.1.2])) (fun x715 => some x715) a.1.2).bind fun x => some x).bind fun x716 => some (x716, ())).bind fun y717 => some (a.1.1, y717)).bind fun z718 => some (z718.1, z718.2.1)
theorem ok_law_without (T : Tx K mg) : FnOk P w K mg base CX0 1 T.a__law_without T.d__law_without ["order", "pair"] (spP (fun a : (Int × (List (Int × Int))) × ((Int × Int) × Unit) => [(prS intS (tupS (prS intS intS))) a.1, (prS intS intS) a.2.1]) M_law_without (fun x => sh ((prS intS (tupS (prS intS intS))) x))) :=
 fnd_pure (Δ := nonC 3) T.F__law_without sc__law_without (fun _ => rfl) (by decide) fun a => JB.cong (
 jb_ret (weak_none _) (jn_tupG (P := (prS intS (tupS (prS intS intS)))) (g := fun z => (z.1, z.2.1)) (ja_cons (jn_ixT (E := intS) (g := fun z => z.1) 0 (jn_var (E := (prS intS (tupS (prS intS intS)))) (a := a.1) 0)) (ja_cons (tup_lst T.m_tuple (JN.frz (fz_lst (fun _ => fz_sh)) (jn_lc sc__law_without.nd (jc_of [("other", 2)] (jic_of (ji_tup (jn_ixT (E := (tupS (prS intS intS))) (g := fun z => z.2) 1 (jn_var (E := (prS intS (tupS (prS intS intS)))) (a := a.1) 0)))) (show blkC ["order", "pair", "other"] (defScope s__law_without) _ [("other", 2)] = true by decide +kernel) (jg_name (E := (prS intS intS)) 2 sc__law_without.nd) (by decide) (all_lt rfl) (fun x715 => jts_one (jt_cmp oNeD ov_neP (jn_any (ao_pr ao_int ao_int) (jn_var (E := (prS intS intS)) (a := x715) 2)) (jn_any (ao_pr ao_int ao_int) (jn_var (E := (prS intS intS)) (a := a.2.1) 1)))) fun x715 => (jn_var (E := (prS intS intS)) (a := x715) 2))))) ja_nil)))) (by unfold M_law_without; first | (dsimp only [CC.sb]; done) | (dsimp only [CC.sb]; rfl) | rfl)
def M_law_loose (a : (Int × (List (Int × Int))) × Unit) : Option (List (Int × Int)) :=
 (M_law_marked (a.1.2, ())).bind fun a758 => ((rng 0 a.1.1).bind fun x775 => foldGo (fun x769 s770 => (((rng 0 a.1.1).bind fun x772 => compM (fun x771 => bif !decide (x769 = x771) then bif !(getM a758 (x769, x771)).isSome then some (!(getM a758 (x771, x769)).isSome) else some false else some false) (fun x771 => some (x769, x771)) x772).bind fun x773 => catM s770 x773).bind fun a774 => some a774) x775 []).bind fun a776 => some a776
theorem ok_law_loose (T : Tx K mg) : FnOk P w K mg base CX0 2 T.a__law_loose T.d__law_loose ["order"] (spP (fun a : (Int × (List (Int × Int))) × Unit => [(prS intS (tupS (prS intS intS))) a.1]) M_law_loose (fun x => sh ((lstS (prS intS intS)) x))) :=
 fnd_pure (Δ := nonC 5) T.F__law_loose sc__law_loose (fun _ => rfl) (by decide) fun a => JB.cong (
 jb_cons (js_set 1 sc__law_loose.nd (jn_call (ok_law_marked T) T.g__law_marked T.F__law_marked.kp T.b__law_marked (Nat.le_of_ble_eq_true rfl) (ja_cons (jn_ixT (E := (tupS (prS intS intS))) (g := fun z => z.2) 1 (jn_var (E := (prS intS (tupS (prS intS intS)))) (a := a.1) 0)) ja_nil))) fun a758 =>
 jb_cons (js_set 2 sc__law_loose.nd (jn_nilLO (E := (fun x => sh ((prS intS intS) x))))) fun a759 =>
 JB.frz (i := 2) (o := (lstO (fun x => sh ((prS intS intS) x))) a759) (p := (lstS (prS intS intS)) a759) rfl ((fz_lst (fun _ => fz_sh)) _) (jb_cons (js_forS (Γl := fun s768 : (List (Int × Int)) => [some (sh ((prS intS (tupS (prS intS intS))) a.1)), some ((dtO (fun p : Int × Int => [Sum.inl p.1, Sum.inl p.2]) boolS) a758), some (sh ((lstS (prS intS intS)) s768)), none, none]) a759 (ji_rng1 T.m_range (jn_ixT (E := intS) (g := fun z => z.1) 0 (jn_var (E := (prS intS (tupS (prS intS intS)))) (a := a.1) 0))) (jg_name (E := intS) 3 sc__law_loose.nd) (weak_mask [true, true, true, false, false] _) (fun _ => all_lt rfl) fun x769 s770 =>
 jb_cons (js_set 2 sc__law_loose.nd (jn_bin oCat ov_cat (jn_var (E := (lstS (prS intS intS))) (a := s770) 2) (JN.frz (fz_lst (fun _ => fz_sh)) (jn_lc sc__law_loose.nd (jc_of [("y", 4)] (jic_of (ji_rng1 T.m_range (jn_ixT (E := intS) (g := fun z => z.1) 0 (jn_var (E := (prS intS (tupS (prS intS intS)))) (a := a.1) 0)))) (show blkC ["order", "marked", "found", "x", "y"] (defScope s__law_loose) _ [("y", 4)] = true by decide +kernel) (jg_name (E := intS) 4 sc__law_loose.nd) (by decide) (all_lt rfl) (fun x771 => jts_one (jt_w (jw_and (jt_cmp oNe ov_neI (jn_var (E := intS) (a := x769) 3) (jn_var (E := intS) (a := x771) 4)) (jw_and (jt_tnin kt_prII rd_dtO (jn_tupG (P := (prS intS intS)) (g := fun z => (z.1, z.2.1)) (ja_cons (jn_var (E := intS) (a := x769) 3) (ja_cons (jn_var (E := intS) (a := x771) 4) ja_nil))) (jr_var (R := (dtO (fun p : Int × Int => [Sum.inl p.1, Sum.inl p.2]) boolS)) (a := a758) 1)) (jw_and1 (jt_tnin kt_prII rd_dtO (jn_tupG (P := (prS intS intS)) (g := fun z => (z.1, z.2.1)) (ja_cons (jn_var (E := intS) (a := x771) 4) (ja_cons (jn_var (E := intS) (a := x769) 3) ja_nil))) (jr_var (R := (dtO (fun p : Int × Int => [Sum.inl p.1, Sum.inl p.2]) boolS)) (a := a758) 1))))))) fun x771 => (jn_tupG (P := (prS intS intS)) (g := fun z => (z.1, z.2.1)) (ja_cons (jn_var (E := intS) (a := x769) 3) (ja_cons (jn_var (E := intS) (a := x771) 4) ja_nil)))))))) fun a774 =>
 JB.frz (i := 2) (o := (lstO (fun x => sh ((prS intS intS) x))) a774) (p := (lstS (prS intS intS)) a774) rfl ((fz_lst (fun _ => fz_sh)) _) (jb_nil (x := a774) rfl (weak_mask [true, true, true, false, false] _))) fun a776 =>
 jb_ret (weak_none _) (jn_var (E := (lstS (prS intS intS))) (a := a776) 2))) (by unfold M_law_loose; first | (dsimp only [CC.sb]; done) | (dsimp only [CC.sb]; rfl) | rfl)
def M_law_one_2 (a : (List (Int × Int)) × Unit) (s : ((List Int) × Int × Int × Int × Int × Int)) : Option ((Int × Int) × ((List Int) × Int × Int × Int × Int × Int)) :=
 ((M_law_draw ((a.1.length : Int), ()) s).bind fun r783 => some (r783.1, r783.2)).bind fun q784 => (atI a.1 q784.1).bind fun z785 => some (z785, q784.2)
theorem ok_law_one_2 (T : Tx K mg) : FnOk P w K mg base CX0 3 T.a__law_one T.d__law_one ["st", "row"] (spS h0O (fun a : (List (Int × Int)) × Unit => [(lstS (prS intS intS)) a.1]) M_law_one_2 (fun x => sh ((prS intS intS) x))) :=
 fnd_state T.F__law_one sc__law_one (fun _ => rfl) (by decide) fun a s => JB.cong (
 jb_retE (R := (fun x => sh ((prS intS intS) x))) (Γ := fun s781 : ((List Int) × Int × Int × Int × Int × Int) => [some (h0O s781), some (sh ((lstS (prS intS intS)) a.1))]) (s := s) (Δ := fun s => some (h0O s) :: nonC 1) (fun _ => (weak_mask [true, false] _)) (je_ix oIxL iv_lst (je_of (jn_var (E := (lstS (prS intS intS))) (a := a.1) 1)) fun s782 => (je_callS (O := h0O) 0 (fun s => s) (fun s u => u) (ok_law_draw T) T.g__law_draw T.F__law_draw.kp T.b__law_draw (Nat.le_of_ble_eq_true rfl) (jea_of (ja_cons (len_lst T.m_len (jn_var (E := (lstS (prS intS intS))) (a := a.1) 1)) ja_nil))))) (by unfold M_law_one_2; first | (dsimp only [CC.sb]; done) | (dsimp only [CC.sb]; rfl) | rfl)
def M_law_linked (a : (Int × (List (Int × Int))) × (Int × (Int × Unit))) : Option (Int × (List (Int × Int))) :=
 ((compM (fun x789 => some (decide (x789.2 = a.2.1))) (fun x789 => some x789.1) a.1.2).bind fun x790 => catM [a.2.1] x790).bind fun a791 => ((compM (fun x793 => some (decide (x793.1 = a.2.2.1))) (fun x793 => some x793.2) a.1.2).bind fun x794 => catM [a.2.2.1] x794).bind fun a795 => (M_law_marked (a.1.2, ())).bind fun a796 => (foldGo (fun x805 s806 => ((compM (fun x807 => some (!(getM a796 (x805, x807)).isSome)) (fun x807 => some (x805, x807)) a795).bind fun x808 => catM s806 x808).bind fun a809 => some a809) a791 a.1.2).bind fun a810 => some (a.1.1, sortP a810)
theorem ok_law_linked (T : Tx K mg) : FnOk P w K mg base CX0 2 T.a__law_linked T.d__law_linked ["order", "x", "y"] (spP (fun a : (Int × (List (Int × Int))) × (Int × (Int × Unit)) => [(prS intS (tupS (prS intS intS))) a.1, intS a.2.1, intS a.2.2.1]) M_law_linked (fun x => sh ((prS intS (tupS (prS intS intS))) x))) :=
 fnd_pure (Δ := nonC 10) T.F__law_linked sc__law_linked (fun _ => rfl) (by decide) fun a => JB.cong (
 jb_cons (js_set 3 sc__law_linked.nd (jn_bin oCat ov_cat (JN.frz (fz_lst (fun _ => fz_sh)) (jn_dispL (E := intS) (g := fun z => [z.1]) (ja_cons (jn_var (E := intS) (a := a.2.1) 1) ja_nil))) (JN.frz (fz_lst (fun _ => fz_sh)) (jn_lc sc__law_linked.nd (jc_of [("pair", 8)] (jic_of (ji_tup (jn_ixT (E := (tupS (prS intS intS))) (g := fun z => z.2) 1 (jn_var (E := (prS intS (tupS (prS intS intS)))) (a := a.1) 0)))) (show blkC ["order", "x", "y", "lows", "highs", "marked", "pairs", "low", "pair", "high"] (defScope s__law_linked) _ [("pair", 8)] = true by decide +kernel) (jg_name (E := (prS intS intS)) 8 sc__law_linked.nd) (by decide) (all_lt rfl) (fun x789 => jts_one (jt_cmp oEq ov_eqI (jn_ixT (E := intS) (g := fun z => z.2) 1 (jn_var (E := (prS intS intS)) (a := x789) 8)) (jn_var (E := intS) (a := a.2.1) 1))) fun x789 => (jn_ixT (E := intS) (g := fun z => z.1) 0 (jn_var (E := (prS intS intS)) (a := x789) 8))))))) fun a791 =>
 jb_cons (js_set 4 sc__law_linked.nd (jn_bin oCat ov_cat (JN.frz (fz_lst (fun _ => fz_sh)) (jn_dispL (E := intS) (g := fun z => [z.1]) (ja_cons (jn_var (E := intS) (a := a.2.2.1) 2) ja_nil))) (JN.frz (fz_lst (fun _ => fz_sh)) (jn_lc sc__law_linked.nd (jc_of [("pair", 8)] (jic_of (ji_tup (jn_ixT (E := (tupS (prS intS intS))) (g := fun z => z.2) 1 (jn_var (E := (prS intS (tupS (prS intS intS)))) (a := a.1) 0)))) (show blkC ["order", "x", "y", "lows", "highs", "marked", "pairs", "low", "pair", "high"] (defScope s__law_linked) _ [("pair", 8)] = true by decide +kernel) (jg_name (E := (prS intS intS)) 8 sc__law_linked.nd) (by decide) (all_lt rfl) (fun x793 => jts_one (jt_cmp oEq ov_eqI (jn_ixT (E := intS) (g := fun z => z.1) 0 (jn_var (E := (prS intS intS)) (a := x793) 8)) (jn_var (E := intS) (a := a.2.2.1) 2))) fun x793 => (jn_ixT (E := intS) (g := fun z => z.2) 1 (jn_var (E := (prS intS intS)) (a := x793) 8))))))) fun a795 =>
 jb_cons (js_set 5 sc__law_linked.nd (jn_call (ok_law_marked T) T.g__law_marked T.F__law_marked.kp T.b__law_marked (Nat.le_of_ble_eq_true rfl) (ja_cons (jn_ixT (E := (tupS (prS intS intS))) (g := fun z => z.2) 1 (jn_var (E := (prS intS (tupS (prS intS intS)))) (a := a.1) 0)) ja_nil))) fun a796 =>
 jb_cons (js_set 6 sc__law_linked.nd (list_tup T.m_list (jn_ixT (E := (tupS (prS intS intS))) (g := fun z => z.2) 1 (jn_var (E := (prS intS (tupS (prS intS intS)))) (a := a.1) 0)))) fun a797 =>
 JB.frz (i := 3) (o := (lstO (fun x => sh (intS x))) a791) (p := (lstS intS) a791) rfl ((fz_lst (fun _ => fz_sh)) _) (JB.frz (i := 6) (o := (lstO (fun x => sh ((prS intS intS) x))) a797) (p := (lstS (prS intS intS)) a797) rfl ((fz_lst (fun _ => fz_sh)) _) (jb_cons (js_forS (Γl := fun s804 : (List (Int × Int)) => [some (sh ((prS intS (tupS (prS intS intS))) a.1)), some (sh (intS a.2.1)), some (sh (intS a.2.2.1)), some (sh ((lstS intS) a791)), some ((lstO (fun x => sh (intS x))) a795), some ((dtO (fun p : Int × Int => [Sum.inl p.1, Sum.inl p.2]) boolS) a796), some (sh ((lstS (prS intS intS)) s804)), none, none, none]) a797 (ji_lst (jn_var (E := (lstS intS)) (a := a791) 3)) (jg_name (E := intS) 7 sc__law_linked.nd) (weak_mask [true, true, true, true, true, true, true, false, false, false] _) (fun _ => all_lt rfl) fun x805 s806 =>
 jb_cons (js_set 6 sc__law_linked.nd (jn_bin oCat ov_cat (jn_var (E := (lstS (prS intS intS))) (a := s806) 6) (JN.frz (fz_lst (fun _ => fz_sh)) (jn_lc sc__law_linked.nd (jc_of [("high", 9)] (jic_own (jr_var (R := (lstO (fun x => sh (intS x)))) (a := a795) 4)) (show blkC ["order", "x", "y", "lows", "highs", "marked", "pairs", "low", "pair", "high"] (defScope s__law_linked) _ [("high", 9)] = true by decide +kernel) (jg_name (E := intS) 9 sc__law_linked.nd) (by decide) (all_lt rfl) (fun x807 => jts_one (jt_tnin kt_prII rd_dtO (jn_tupG (P := (prS intS intS)) (g := fun z => (z.1, z.2.1)) (ja_cons (jn_var (E := intS) (a := x805) 7) (ja_cons (jn_var (E := intS) (a := x807) 9) ja_nil))) (jr_var (R := (dtO (fun p : Int × Int => [Sum.inl p.1, Sum.inl p.2]) boolS)) (a := a796) 5))) fun x807 => (jn_tupG (P := (prS intS intS)) (g := fun z => (z.1, z.2.1)) (ja_cons (jn_var (E := intS) (a := x805) 7) (ja_cons (jn_var (E := intS) (a := x807) 9) ja_nil)))))))) fun a809 =>
 JB.frz (i := 6) (o := (lstO (fun x => sh ((prS intS intS) x))) a809) (p := (lstS (prS intS intS)) a809) rfl ((fz_lst (fun _ => fz_sh)) _) (jb_nil (x := a809) rfl (weak_mask [true, true, true, true, true, true, true, false, false, false] _))) fun a810 =>
 jb_ret (weak_none _) (jn_tupG (P := (prS intS (tupS (prS intS intS)))) (g := fun z => (z.1, z.2.1)) (ja_cons (jn_ixT (E := intS) (g := fun z => z.1) 0 (jn_var (E := (prS intS (tupS (prS intS intS)))) (a := a.1) 0)) (ja_cons (tup_lst T.m_tuple (JN.frz (fz_lst (fun _ => fz_sh)) (sorted_prs T.m_sorted (jn_var (E := (lstS (prS intS intS))) (a := a810) 6)))) ja_nil)))))) (by unfold M_law_linked; first | (dsimp only [CC.sb]; done) | (dsimp only [CC.sb]; rfl) | rfl)
def M_law (a : (List Int) × Unit) : Option Bool :=
 (M_law_start (a.1, ())).bind fun a28 => ((((M_law_draw ((4 : Int), ()) a28).bind fun r67 => some (r67.1, r67.2)).bind fun q69 => some (decide (q69.1 = (0 : Int)), q69.2)).bind fun q286 => bif q286.1 then ((((M_law_draw ((65 : Int), ()) q286.2).bind fun r267 => some (r267.1, r267.2)).bind fun q269 => some ((q269.1, ()), q269.2)).bind fun q270 => (M_law_large q270.1 q270.2).bind fun r271 => some (r271.1, r271.2)).bind fun a272 => some (a272.2, a272.1.2, a272.1.1) else ((((M_law_draw ((8 : Int), ()) q286.2).bind fun r274 => some (r274.1, r274.2)).bind fun q281 => ((((M_law_draw ((3 : Int), ()) q281.2).bind fun r277 => some (r277.1, r277.2)).bind fun q278 => some ((2 : Int) + q278.1, q278.2)).bind fun q280 => some ((q280.1, ()), q280.2)).bind fun q282 => some ((q281.1, q282.1), q282.2)).bind fun q283 => (M_law_order q283.1 q283.2).bind fun r284 => some (r284.1, r284.2)).bind fun a285 => some (a285.2, a285.1.2, a285.1.1)).bind fun a287 => (((M_law_turned (a287.2.2.1, ()) a287.1).bind fun r290 => some (r290.1, r290.2)).bind fun q291 => some (q291.1, q291.2)).bind fun a292 => (M_law_renamed_1 (a287.2.2, (a292.1, ()))).bind fun a302 => (((M_law_values (a292.1, ()) a292.2).bind fun r586 => some (r586.1, r586.2)).bind fun q666 => loopGo (fun x588 s589 => ((M_law_asked (a287.2.2, (a302, (x588, ())))).bind fun x663 => some (!x663)).bind fun x665 => bif x665 then (some false).bind fun y664 => some (Out.rt y664) else some (Out.nx s589)) q666.1 q666.2).bind fun o857 => o857.k (fun a667 => ((neP (PV.tup (a302.2.map (fun u668 => PV.tup [PV.int u668.1, PV.int u668.2]))) (PV.tup ([].map PV.int))).bind fun x756 => bif x756 then (((((M_law_one_cover (a302, ()) a667).bind fun r737 => some (r737.1, r737.2)).bind fun q739 => some ((q739.1, ()), q739.2)).bind fun q740 => some ((a302, q740.1), q740.2)).bind fun q741 => (M_law_without q741.1).bind fun r742 => some (r742, q741.2)).bind fun a743 => (((M_law_asked (a287.2.2, (a743.1, (PV.tup (a292.1.map PV.int), ())))).bind fun x745 => some (!x745)).bind fun x753 => bif x753 then some true else ((((((rng 0 a287.2.2.1).bind fun x746 => some (PV.tup (x746.map PV.int))).bind fun x748 => some (x748, ())).bind fun y749 => some (a302, y749)).bind fun y750 => some (a743.1, y750)).bind fun z751 => M_law_asked z751).bind fun x752 => some (!x752)).bind fun x755 => bif x755 then (some false).bind fun y754 => some (Out.rt y754) else some (Out.nx a743.2) else some (Out.nx a667)).bind fun o855 => o855.k (fun a757 => (M_law_loose (a302, ())).bind fun a777 => ((neP (PV.lst (a777.map (fun u778 => PV.tup [PV.int u778.1, PV.int u778.2]))) (PV.lst ([].map PV.int))).bind fun x841 => bif x841 then ((M_law_one_2 (a777, ()) a757).bind fun r826 => some (r826.1, r826.2)).bind fun a827 => (M_law_linked (a302, (a827.1.1, (a827.1.2, ())))).bind fun a828 => (((M_law_asked (a287.2.2, (a828, (PV.tup (a292.1.map PV.int), ())))).bind fun x830 => some (!x830)).bind fun x838 => bif x838 then some true else ((((((rng 0 a287.2.2.1).bind fun x831 => some (PV.tup (x831.map PV.int))).bind fun x833 => some (x833, ())).bind fun y834 => some (a828, y834)).bind fun y835 => some (a302, y835)).bind fun z836 => M_law_asked z836).bind fun x837 => some (!x837)).bind fun x840 => bif x840 then (some false).bind fun y839 => some (Out.rt y839) else some (Out.nx a827.2) else some (Out.nx a757)).bind fun o853 => o853.k (fun a842 => ((((M_law_draw ((8 : Int), ()) a842).bind fun r844 => some (r844.1, r844.2)).bind fun q846 => some ((q846.1, ((2 : Int), ())), q846.2)).bind fun q847 => (M_law_order q847.1 q847.2).bind fun r848 => some (r848.1, r848.2)).bind fun a849 => (M_law_asked (a287.2.2, (a849.1.1, (PV.tup (a292.1.map PV.int), ())))).bind fun x852 => bif x852 then M_law_asked (a849.1.1, (a287.2.2, (PV.tup (a292.1.map PV.int), ()))) else some false) fun r854 => some ((fun r => r) r854)) fun r856 => some ((fun r => r) r856)) fun r858 => some ((fun r => r) r858)
theorem ok_law (T : Tx K mg) : FnOk P w K mg base CX0 5 T.a_law T.d_law ["script"] (spP (fun a : (List Int) × Unit => [(scrS K) a.1]) M_law (fun x => sh (boolS x))) :=
 fnd_pure (Δ := nonC 13) T.F_law sc_law (fun _ => rfl) (by decide) fun a => JB.cong (
 jb_cons (js_set 1 sc_law.nd (jn_call (ok_law_start T) T.g__law_start T.F__law_start.kp T.b__law_start (Nat.le_of_ble_eq_true rfl) (ja_cons (jn_var (E := (scrS K)) (a := a.1) 0) ja_nil))) fun a28 =>
 jb_cons (js_ifE (Γ := fun s29 : ((List Int) × Int × Int × Int × Int × Int) => [some (sh ((scrS K) a.1)), some (h0O s29), none, none, none, none, none, none, none, none, none, none, none]) (s := a28) (jte_cmp oEq ov_eqI (je_callS (O := h0O) 1 (fun s => s) (fun s u => u) (ok_law_draw T) T.g__law_draw T.F__law_draw.kp T.b__law_draw (Nat.le_of_ble_eq_true rfl) (jea_of (ja_cons jn_int ja_nil))) fun s68 => (je_of jn_int)) (D := fun v => Kd.nx ((fun v265 : ((List Int) × Int × Int × Int × Int × Int) × (List Int) × (Int × (List (Int × Int))) => [some (sh ((scrS K) a.1)), some (h0O v265.1), none, none, none, none, none, none, none, none, none, some (sh ((lstS intS) v265.2.1)), some (sh ((prS intS (tupS (prS intS intS))) v265.2.2))]) v)) (fun s70 => jb_cons (js_asgE (Γ := fun s266 : ((List Int) × Int × Int × Int × Int × Int) => [some (sh ((scrS K) a.1)), some (h0O s266), none, none, none, none, none, none, none, none, none, none, none]) (s := s70) (je_callS (O := h0O) 1 (fun s => s) (fun s u => u) (ok_law_large T) T.g__law_large T.F__law_large.kp T.b__law_large (Nat.le_of_ble_eq_true rfl) (jea_cons (je_callS (O := h0O) 1 (fun s => s) (fun s u => u) (ok_law_draw T) T.g__law_draw T.F__law_draw.kp T.b__law_draw (Nat.le_of_ble_eq_true rfl) (jea_of (ja_cons jn_int ja_nil))) fun s268 => jea_nil)) (jg_pair (E := (prS intS (tupS (prS intS intS)))) (G := (lstS intS)) 12 11 sc_law.nd) (fun _ => all_lt rfl)) fun a272 =>
 jb_nil (x := (a272.2, a272.1.2, a272.1.1)) rfl (weak_mask [true, true, false, false, false, false, false, false, false, false, false, true, true] _)) fun s70 => jb_cons (js_asgE (Γ := fun s273 : ((List Int) × Int × Int × Int × Int × Int) => [some (sh ((scrS K) a.1)), some (h0O s273), none, none, none, none, none, none, none, none, none, none, none]) (s := s70) (je_callS (O := h0O) 1 (fun s => s) (fun s u => u) (ok_law_order T) T.g__law_order T.F__law_order.kp T.b__law_order (Nat.le_of_ble_eq_true rfl) (jea_cons (je_callS (O := h0O) 1 (fun s => s) (fun s u => u) (ok_law_draw T) T.g__law_draw T.F__law_draw.kp T.b__law_draw (Nat.le_of_ble_eq_true rfl) (jea_of (ja_cons jn_int ja_nil))) fun s275 => (jea_cons (je_bin oAdd ov_add (je_of jn_int) fun s276 => (je_callS (O := h0O) 1 (fun s => s) (fun s u => u) (ok_law_draw T) T.g__law_draw T.F__law_draw.kp T.b__law_draw (Nat.le_of_ble_eq_true rfl) (jea_of (ja_cons jn_int ja_nil)))) fun s279 => jea_nil))) (jg_pair (E := (prS intS (tupS (prS intS intS)))) (G := (lstS intS)) 12 11 sc_law.nd) (fun _ => all_lt rfl)) fun a285 =>
 jb_nil (x := (a285.2, a285.1.2, a285.1.1)) rfl (weak_mask [true, true, false, false, false, false, false, false, false, false, false, true, true] _)) fun a287 =>
 jb_cons (js_set 2 sc_law.nd (jn_ixT (E := intS) (g := fun z => z.1) 0 (jn_var (E := (prS intS (tupS (prS intS intS)))) (a := a287.2.2) 12))) fun a288 =>
 jb_cons (js_setE (Γ := fun s289 : ((List Int) × Int × Int × Int × Int × Int) => [some (sh ((scrS K) a.1)), some (h0O s289), some (sh (intS a288)), none, none, none, none, none, none, none, none, some (sh ((lstS intS) a287.2.1)), some (sh ((prS intS (tupS (prS intS intS))) a287.2.2))]) (s := a287.1) 3 sc_law.nd (je_tup T.m_tuple (JE.frz (fz_lst (fun _ => fz_sh)) (je_callS (O := h0O) 1 (fun s => s) (fun s u => u) (ok_law_turned T) T.g__law_turned T.F__law_turned.kp T.b__law_turned (Nat.le_of_ble_eq_true rfl) (jea_of (ja_cons (jn_var (E := intS) (a := a288) 2) ja_nil)))))) fun a292 =>
 jb_cons (js_set 4 sc_law.nd (jn_call (ok_law_renamed_1 T) T.g__law_renamed T.F__law_renamed.kp T.b__law_renamed (Nat.le_of_ble_eq_true rfl) (ja_cons (jn_var (E := (prS intS (tupS (prS intS intS)))) (a := a287.2.2) 12) (ja_cons (jn_var (E := (tupS intS)) (a := a292.1) 3) ja_nil)))) fun a302 =>
 jb_consO (Γl := fun s587 : ((List Int) × Int × Int × Int × Int × Int) => [some (sh ((scrS K) a.1)), some (h0O s587), some (sh (intS a288)), some (sh ((tupS intS) a292.1)), some (sh ((prS intS (tupS (prS intS intS))) a302)), none, none, none, none, none, none, some (sh ((lstS intS) a287.2.1)), some (sh ((prS intS (tupS (prS intS intS))) a287.2.2))]) (T := fun r : Bool => Kd.rt (nonC 13) ((fun x => sh (boolS x)) r)) (fun r => r) (js_forE1 (Γ := fun s303 : ((List Int) × Int × Int × Int × Int × Int) => [some (sh ((scrS K) a.1)), some (h0O s303), some (sh (intS a288)), some (sh ((tupS intS) a292.1)), some (sh ((prS intS (tupS (prS intS intS))) a302)), none, none, none, none, none, none, some (sh ((lstS intS) a287.2.1)), some (sh ((prS intS (tupS (prS intS intS))) a287.2.2))]) (s := a292.2) (Γl := fun s587 : ((List Int) × Int × Int × Int × Int × Int) => [some (sh ((scrS K) a.1)), some (h0O s587), some (sh (intS a288)), some (sh ((tupS intS) a292.1)), some (sh ((prS intS (tupS (prS intS intS))) a302)), none, none, none, none, none, none, some (sh ((lstS intS) a287.2.1)), some (sh ((prS intS (tupS (prS intS intS))) a287.2.2))]) (T := fun r : Bool => Kd.rt (nonC 13) ((fun x => sh (boolS x)) r)) (fun t => t) (jie_lst (je_callS (O := h0O) 1 (fun s => s) (fun s u => u) (ok_law_values T) T.g__law_values T.F__law_values.kp T.b__law_values (Nat.le_of_ble_eq_true rfl) (jea_of (ja_cons (jn_var (E := (tupS intS)) (a := a292.1) 3) ja_nil)))) (jg_name (E := anyS) 5 sc_law.nd) (fun _ => (weak_mask [true, true, true, true, true, false, false, false, false, false, false, true, true] _)) (fun _ => all_lt rfl) (fun _ => ⟨trivial, nofun, nofun⟩) fun x588 s589 =>
 jb_ifx (D' := (fun r : Bool => Kd.rt (nonC 13) ((fun x => sh (boolS x)) r))) Out.rt (jt_not (jt_val (jn_call (ok_law_asked T) T.g__law_asked T.F__law_asked.kp T.b__law_asked (Nat.le_of_ble_eq_true rfl) (ja_cons (jn_var (E := (prS intS (tupS (prS intS intS)))) (a := a287.2.2) 12) (ja_cons (jn_var (E := (prS intS (tupS (prS intS intS)))) (a := a302) 4) (ja_cons (jn_var (E := anyS) (a := x588) 5) ja_nil)))))) (jb_ret (weak_none _) jn_bl) (fun _ => rfl) (fun _ => trivial)
 (jb_nil (x := Out.nx s589) rfl (weak_mask [true, true, true, true, true, false, false, false, false, false, false, true, true] _))) (fun _ => rfl) (fun _ => trivial) fun a667 =>
 jb_consO (Γl := fun v734 : ((List Int) × Int × Int × Int × Int × Int) => [some (sh ((scrS K) a.1)), some (h0O v734), some (sh (intS a288)), some (sh ((tupS intS) a292.1)), some (sh ((prS intS (tupS (prS intS intS))) a302)), none, none, none, none, none, none, some (sh ((lstS intS) a287.2.1)), some (sh ((prS intS (tupS (prS intS intS))) a287.2.2))]) (T := fun r : Bool => Kd.rt (nonC 13) ((fun x => sh (boolS x)) r)) (fun r => r) (js_if (D := DF (fun v734 : ((List Int) × Int × Int × Int × Int × Int) => [some (sh ((scrS K) a.1)), some (h0O v734), some (sh (intS a288)), some (sh ((tupS intS) a292.1)), some (sh ((prS intS (tupS (prS intS intS))) a302)), none, none, none, none, none, none, some (sh ((lstS intS) a287.2.1)), some (sh ((prS intS (tupS (prS intS intS))) a287.2.2))]) (fun r : Bool => Kd.rt (nonC 13) ((fun x => sh (boolS x)) r))) (jt_cmp oNeD ov_neP (jn_any (ao_tup (ao_pr ao_int ao_int)) (jn_ixT (E := (tupS (prS intS intS))) (g := fun z => z.2) 1 (jn_var (E := (prS intS (tupS (prS intS intS)))) (a := a302) 4))) (jn_any (ao_tup ao_int) (jn_nilT (E := intS)))) (jb_cons (js_setE (Γ := fun s735 : ((List Int) × Int × Int × Int × Int × Int) => [some (sh ((scrS K) a.1)), some (h0O s735), some (sh (intS a288)), some (sh ((tupS intS) a292.1)), some (sh ((prS intS (tupS (prS intS intS))) a302)), none, none, none, none, none, none, some (sh ((lstS intS) a287.2.1)), some (sh ((prS intS (tupS (prS intS intS))) a287.2.2))]) (s := a667) 7 sc_law.nd (je_call (ok_law_without T) T.g__law_without T.F__law_without.kp T.b__law_without (Nat.le_of_ble_eq_true rfl) (jea_cons (je_of (jn_var (E := (prS intS (tupS (prS intS intS)))) (a := a302) 4)) fun s736 => (jea_cons (je_callS (O := h0O) 1 (fun s => s) (fun s u => u) (ok_law_one_cover T) T.g__law_one_cover T.F__law_one_cover.kp T.b__law_one_cover (Nat.le_of_ble_eq_true rfl) (jea_of (ja_cons (jn_var (E := (prS intS (tupS (prS intS intS)))) (a := a302) 4) ja_nil))) fun s738 => jea_nil)))) fun a743 =>
 jb_ifx (D' := (fun r : Bool => Kd.rt (nonC 13) ((fun x => sh (boolS x)) r))) Out.rt (jt_w (jw_or (jt_not (jt_val (jn_call (ok_law_asked T) T.g__law_asked T.F__law_asked.kp T.b__law_asked (Nat.le_of_ble_eq_true rfl) (ja_cons (jn_var (E := (prS intS (tupS (prS intS intS)))) (a := a287.2.2) 12) (ja_cons (jn_var (E := (prS intS (tupS (prS intS intS)))) (a := a743.1) 7) (ja_cons (jn_any (ao_tup ao_int) (jn_var (E := (tupS intS)) (a := a292.1) 3)) ja_nil)))))) (jw_or1 (jt_not (jt_val (jn_call (ok_law_asked T) T.g__law_asked T.F__law_asked.kp T.b__law_asked (Nat.le_of_ble_eq_true rfl) (ja_cons (jn_var (E := (prS intS (tupS (prS intS intS)))) (a := a743.1) 7) (ja_cons (jn_var (E := (prS intS (tupS (prS intS intS)))) (a := a302) 4) (ja_cons (jn_any (ao_tup ao_int) (tup_rng T.m_tuple T.m_range (jn_var (E := intS) (a := a288) 2))) ja_nil))))))))) (jb_ret (weak_none _) jn_bl) (fun _ => rfl) (fun _ => trivial)
 (jb_nil (x := Out.nx a743.2) rfl (weak_mask [true, true, true, true, true, false, false, false, false, false, false, true, true] _))) (jb_nil (x := Out.nx a667) rfl (weak_mask [true, true, true, true, true, false, false, false, false, false, false, true, true] _))) (fun _ => rfl) (fun _ => trivial) fun a757 =>
 jb_cons (js_set 6 sc_law.nd (jn_call (ok_law_loose T) T.g__law_loose T.F__law_loose.kp T.b__law_loose (Nat.le_of_ble_eq_true rfl) (ja_cons (jn_var (E := (prS intS (tupS (prS intS intS)))) (a := a302) 4) ja_nil))) fun a777 =>
 jb_consO (Γl := fun v824 : ((List Int) × Int × Int × Int × Int × Int) => [some (sh ((scrS K) a.1)), some (h0O v824), some (sh (intS a288)), some (sh ((tupS intS) a292.1)), some (sh ((prS intS (tupS (prS intS intS))) a302)), none, some (sh ((lstS (prS intS intS)) a777)), none, none, none, none, some (sh ((lstS intS) a287.2.1)), some (sh ((prS intS (tupS (prS intS intS))) a287.2.2))]) (T := fun r : Bool => Kd.rt (nonC 13) ((fun x => sh (boolS x)) r)) (fun r => r) (js_if (D := DF (fun v824 : ((List Int) × Int × Int × Int × Int × Int) => [some (sh ((scrS K) a.1)), some (h0O v824), some (sh (intS a288)), some (sh ((tupS intS) a292.1)), some (sh ((prS intS (tupS (prS intS intS))) a302)), none, some (sh ((lstS (prS intS intS)) a777)), none, none, none, none, some (sh ((lstS intS) a287.2.1)), some (sh ((prS intS (tupS (prS intS intS))) a287.2.2))]) (fun r : Bool => Kd.rt (nonC 13) ((fun x => sh (boolS x)) r))) (jt_cmp oNeD ov_neP (jn_any (ao_lst (ao_pr ao_int ao_int)) (jn_var (E := (lstS (prS intS intS))) (a := a777) 6)) (jn_any (ao_lst ao_int) (JN.frz (fz_lst (fun _ => fz_sh)) (jn_nilLO (E := (fun x => sh (intS x))))))) (jb_cons (js_setE (Γ := fun s825 : ((List Int) × Int × Int × Int × Int × Int) => [some (sh ((scrS K) a.1)), some (h0O s825), some (sh (intS a288)), some (sh ((tupS intS) a292.1)), some (sh ((prS intS (tupS (prS intS intS))) a302)), none, some (sh ((lstS (prS intS intS)) a777)), none, none, none, none, some (sh ((lstS intS) a287.2.1)), some (sh ((prS intS (tupS (prS intS intS))) a287.2.2))]) (s := a757) 8 sc_law.nd (je_callS (O := h0O) 1 (fun s => s) (fun s u => u) (ok_law_one_2 T) T.g__law_one T.F__law_one.kp T.b__law_one (Nat.le_of_ble_eq_true rfl) (jea_of (ja_cons (jn_var (E := (lstS (prS intS intS))) (a := a777) 6) ja_nil)))) fun a827 =>
 jb_cons (js_set 9 sc_law.nd (jn_call (ok_law_linked T) T.g__law_linked T.F__law_linked.kp T.b__law_linked (Nat.le_of_ble_eq_true rfl) (ja_cons (jn_var (E := (prS intS (tupS (prS intS intS)))) (a := a302) 4) (ja_cons (jn_ixT (E := intS) (g := fun z => z.1) 0 (jn_var (E := (prS intS intS)) (a := a827.1) 8)) (ja_cons (jn_ixT (E := intS) (g := fun z => z.2) 1 (jn_var (E := (prS intS intS)) (a := a827.1) 8)) ja_nil))))) fun a828 =>
 jb_ifx (D' := (fun r : Bool => Kd.rt (nonC 13) ((fun x => sh (boolS x)) r))) Out.rt (jt_w (jw_or (jt_not (jt_val (jn_call (ok_law_asked T) T.g__law_asked T.F__law_asked.kp T.b__law_asked (Nat.le_of_ble_eq_true rfl) (ja_cons (jn_var (E := (prS intS (tupS (prS intS intS)))) (a := a287.2.2) 12) (ja_cons (jn_var (E := (prS intS (tupS (prS intS intS)))) (a := a828) 9) (ja_cons (jn_any (ao_tup ao_int) (jn_var (E := (tupS intS)) (a := a292.1) 3)) ja_nil)))))) (jw_or1 (jt_not (jt_val (jn_call (ok_law_asked T) T.g__law_asked T.F__law_asked.kp T.b__law_asked (Nat.le_of_ble_eq_true rfl) (ja_cons (jn_var (E := (prS intS (tupS (prS intS intS)))) (a := a302) 4) (ja_cons (jn_var (E := (prS intS (tupS (prS intS intS)))) (a := a828) 9) (ja_cons (jn_any (ao_tup ao_int) (tup_rng T.m_tuple T.m_range (jn_var (E := intS) (a := a288) 2))) ja_nil))))))))) (jb_ret (weak_none _) jn_bl) (fun _ => rfl) (fun _ => trivial)
 (jb_nil (x := Out.nx a827.2) rfl (weak_mask [true, true, true, true, true, false, true, false, false, false, false, true, true] _))) (jb_nil (x := Out.nx a757) rfl (weak_mask [true, true, true, true, true, false, true, false, false, false, false, true, true] _))) (fun _ => rfl) (fun _ => trivial) fun a842 =>
 jb_cons (js_asgE (Γ := fun s843 : ((List Int) × Int × Int × Int × Int × Int) => [some (sh ((scrS K) a.1)), some (h0O s843), some (sh (intS a288)), some (sh ((tupS intS) a292.1)), some (sh ((prS intS (tupS (prS intS intS))) a302)), none, some (sh ((lstS (prS intS intS)) a777)), none, none, none, none, some (sh ((lstS intS) a287.2.1)), some (sh ((prS intS (tupS (prS intS intS))) a287.2.2))]) (s := a842) (je_callS (O := h0O) 1 (fun s => s) (fun s u => u) (ok_law_order T) T.g__law_order T.F__law_order.kp T.b__law_order (Nat.le_of_ble_eq_true rfl) (jea_cons (je_callS (O := h0O) 1 (fun s => s) (fun s u => u) (ok_law_draw T) T.g__law_draw T.F__law_draw.kp T.b__law_draw (Nat.le_of_ble_eq_true rfl) (jea_of (ja_cons jn_int ja_nil))) fun s845 => (jea_of (ja_cons jn_int ja_nil)))) (jg_pair (E := (prS intS (tupS (prS intS intS)))) (G := (lstS intS)) 10 11 sc_law.nd) (fun _ => all_lt rfl)) fun a849 =>
 jb_ret (weak_none _) (jn_and (jn_call (ok_law_asked T) T.g__law_asked T.F__law_asked.kp T.b__law_asked (Nat.le_of_ble_eq_true rfl) (ja_cons (jn_var (E := (prS intS (tupS (prS intS intS)))) (a := a287.2.2) 12) (ja_cons (jn_var (E := (prS intS (tupS (prS intS intS)))) (a := a849.1.1) 10) (ja_cons (jn_any (ao_tup ao_int) (jn_var (E := (tupS intS)) (a := a292.1) 3)) ja_nil)))) (jn_one (jn_call (ok_law_asked T) T.g__law_asked T.F__law_asked.kp T.b__law_asked (Nat.le_of_ble_eq_true rfl) (ja_cons (jn_var (E := (prS intS (tupS (prS intS intS)))) (a := a849.1.1) 10) (ja_cons (jn_var (E := (prS intS (tupS (prS intS intS)))) (a := a287.2.2) 12) (ja_cons (jn_any (ao_tup ao_int) (jn_var (E := (tupS intS)) (a := a292.1) 3)) ja_nil))))))) (by unfold M_law; first | (dsimp only [CC.sb]; done) | (dsimp only [CC.sb]; rfl) | rfl)
end
def dd__law_mixed : He.DefD := ⟨("_law_mixed", none), "_law_mixed", "_law_mixed", defArgs s__law_mixed, defBody s__law_mixed, defScope s__law_mixed, [], []⟩
def dd__law_start : He.DefD := ⟨("_law_start", none), "_law_start", "_law_start", defArgs s__law_start, defBody s__law_start, defScope s__law_start, [], []⟩
def dd__law_draw : He.DefD := ⟨("_law_draw", none), "_law_draw", "_law_draw", defArgs s__law_draw, defBody s__law_draw, defScope s__law_draw, [], []⟩
def dd__law_turned : He.DefD := ⟨("_law_turned", none), "_law_turned", "_law_turned", defArgs s__law_turned, defBody s__law_turned, defScope s__law_turned, [], []⟩
def dd__law_renamed : He.DefD := ⟨("_law_renamed", none), "_law_renamed", "_law_renamed", defArgs s__law_renamed, defBody s__law_renamed, defScope s__law_renamed, [], []⟩
def dd__law_large : He.DefD := ⟨("_law_large", none), "_law_large", "_law_large", defArgs s__law_large, defBody s__law_large, defScope s__law_large, [], []⟩
def dd__law_order : He.DefD := ⟨("_law_order", none), "_law_order", "_law_order", defArgs s__law_order, defBody s__law_order, defScope s__law_order, [], []⟩
def dd__law_values : He.DefD := ⟨("_law_values", none), "_law_values", "_law_values", defArgs s__law_values, defBody s__law_values, defScope s__law_values, [], []⟩
def dd__law_is_row : He.DefD := ⟨("_law_is_row", none), "_law_is_row", "_law_is_row", defArgs s__law_is_row, defBody s__law_is_row, defScope s__law_is_row, [], []⟩
def dd__law_is_renaming : He.DefD := ⟨("_law_is_renaming", none), "_law_is_renaming", "_law_is_renaming", defArgs s__law_is_renaming, defBody s__law_is_renaming, defScope s__law_is_renaming, [], []⟩
def dd_is_renaming : He.DefD := ⟨("is_renaming", none), "is_renaming", "is_renaming", defArgs s_is_renaming, defBody s_is_renaming, defScope s_is_renaming, [], []⟩
def dd__law_asked : He.DefD := ⟨("_law_asked", none), "_law_asked", "_law_asked", defArgs s__law_asked, defBody s__law_asked, defScope s__law_asked, [], []⟩
def dd__law_marked : He.DefD := ⟨("_law_marked", none), "_law_marked", "_law_marked", defArgs s__law_marked, defBody s__law_marked, defScope s__law_marked, [], []⟩
def dd__law_one : He.DefD := ⟨("_law_one", none), "_law_one", "_law_one", defArgs s__law_one, defBody s__law_one, defScope s__law_one, [], []⟩
def dd__law_one_cover : He.DefD := ⟨("_law_one_cover", none), "_law_one_cover", "_law_one_cover", defArgs s__law_one_cover, defBody s__law_one_cover, defScope s__law_one_cover, [], []⟩
def dd__law_without : He.DefD := ⟨("_law_without", none), "_law_without", "_law_without", defArgs s__law_without, defBody s__law_without, defScope s__law_without, [], []⟩
def dd__law_loose : He.DefD := ⟨("_law_loose", none), "_law_loose", "_law_loose", defArgs s__law_loose, defBody s__law_loose, defScope s__law_loose, [], []⟩
def dd__law_linked : He.DefD := ⟨("_law_linked", none), "_law_linked", "_law_linked", defArgs s__law_linked, defBody s__law_linked, defScope s__law_linked, [], []⟩
def dd_law : He.DefD := ⟨("law", none), "law", "law", defArgs s_law, defBody s_law, defScope s_law, [], []⟩
def mo : List Tst := []
def fn : List He.DefD := ([dd__law_mixed, dd__law_start, dd__law_draw, dd__law_turned, dd__law_renamed, dd__law_large, dd__law_order, dd__law_values, dd__law_is_row, dd__law_is_renaming, dd_is_renaming, dd__law_asked, dd__law_marked, dd__law_one, dd__law_one_cover, dd__law_without, dd__law_loose, dd__law_linked, dd_law] : List He.DefD)
def fa : List He.Fa := ([.glo "_law_mixed", .glo "_law_start", .glo "_law_draw", .glo "_law_turned", .glo "_law_renamed", .glo "_law_large", .glo "_law_order", .glo "_law_values", .glo "_law_is_row", .glo "_law_is_renaming", .glo "is_renaming", .glo "_law_asked", .glo "_law_marked", .glo "_law_one", .glo "_law_one_cover", .glo "_law_without", .glo "_law_loose", .glo "_law_linked", .glo "law", .free "list", .free "len", .free "int", .free "abs", .free "range", .free "tuple", .free "sorted", .free "str", .free "isinstance", .free "bool"] : List He.Fa)
abbrev rw_ : PySem.W.OpenRow := PySem.W.OpenLaw.row PySem.Challenge.rw_chaincore_k30_just_renamings
abbrev hk : PySem.W.Hook := hookX 4 mo fa fn
def ob (s : PySem.W.SharedT) : Bool × He.AlD := obsXG 4 mo fa fn (HandSHeadRun.getT s)
theorem ob_eq (s : PySem.W.SharedT) : ob s = hk.obs s.abs := obsXG_eq (HandSHeadRun.getT_eq s)
def loose : List Str := (["is_renaming", "_law_mixed", "_law_start", "_law_draw", "_law_one", "_law_turned", "_law_order", "_law_renamed", "_law_marked", "_law_large", "_law_without", "_law_linked", "_law_loose", "_law_one_cover", "_law_is_row", "_law_is_renaming", "_law_values", "_law_asked"] : List Str)
theorem run (w : World) : HandSHeadRun.RunEq rw_ (PySem.W.view rw_.prog [20]) hk ob 2760 loose w := by
  intro os
  kernel_rfl
theorem facts {P : Program} {w : World} {K : PySem.W.Frag} {h : Heap} {mg : Str → Option Value} {f : Addr} (X : K.In h) (G : h.Ns mainGlobals mg) (hfa : mg ("law" : Str) = some (.ref f)) (c0 : SaysX mo fa fn K) :
    ∃ fd : FuncData, (∀ (s : Shared) (v : Value), BindsTo s fd ⟨[v], []⟩ [("script", v)]) ∧ ∀ base : Heap, K.In base → base.Ns mainGlobals mg → FnOk P w K mg base CX0 5 f fd ["script"] (spP (fun a : List Int × Unit => [scrS K a.1]) M_law fun b => sh (boolS b)) := by
  have c : He.SaysD fa fn K := c0.d
  obtain ⟨fd__law_mixed, F__law_mixed⟩ := c.def_ 0 (d := dd__law_mixed) rfl
  obtain ⟨fd__law_start, F__law_start⟩ := c.def_ 1 (d := dd__law_start) rfl
  obtain ⟨fd__law_draw, F__law_draw⟩ := c.def_ 2 (d := dd__law_draw) rfl
  obtain ⟨fd__law_turned, F__law_turned⟩ := c.def_ 3 (d := dd__law_turned) rfl
  obtain ⟨fd__law_renamed, F__law_renamed⟩ := c.def_ 4 (d := dd__law_renamed) rfl
  obtain ⟨fd__law_large, F__law_large⟩ := c.def_ 5 (d := dd__law_large) rfl
  obtain ⟨fd__law_order, F__law_order⟩ := c.def_ 6 (d := dd__law_order) rfl
  obtain ⟨fd__law_values, F__law_values⟩ := c.def_ 7 (d := dd__law_values) rfl
  obtain ⟨fd__law_is_row, F__law_is_row⟩ := c.def_ 8 (d := dd__law_is_row) rfl
  obtain ⟨fd__law_is_renaming, F__law_is_renaming⟩ := c.def_ 9 (d := dd__law_is_renaming) rfl
  obtain ⟨fd_is_renaming, F_is_renaming⟩ := c.def_ 10 (d := dd_is_renaming) rfl
  obtain ⟨fd__law_asked, F__law_asked⟩ := c.def_ 11 (d := dd__law_asked) rfl
  obtain ⟨fd__law_marked, F__law_marked⟩ := c.def_ 12 (d := dd__law_marked) rfl
  obtain ⟨fd__law_one, F__law_one⟩ := c.def_ 13 (d := dd__law_one) rfl
  obtain ⟨fd__law_one_cover, F__law_one_cover⟩ := c.def_ 14 (d := dd__law_one_cover) rfl
  obtain ⟨fd__law_without, F__law_without⟩ := c.def_ 15 (d := dd__law_without) rfl
  obtain ⟨fd__law_loose, F__law_loose⟩ := c.def_ 16 (d := dd__law_loose) rfl
  obtain ⟨fd__law_linked, F__law_linked⟩ := c.def_ 17 (d := dd__law_linked) rfl
  obtain ⟨fd_law, F_law⟩ := c.def_ 18 (d := dd_law) rfl
  have T : Tx K mg := { a__law_mixed := _, d__law_mixed := fd__law_mixed, F__law_mixed := F__law_mixed, b__law_mixed := FunD.bindsN F__law_mixed (fun _ _ _ _ _ _ us hl => match us, hl with | [_, _], _ => rfl), g__law_mixed := He.glo_ok X G (c.fact 0 (f := .glo "_law_mixed") rfl), a__law_start := _, d__law_start := fd__law_start, F__law_start := F__law_start, b__law_start := FunD.bindsN F__law_start (fun _ _ _ _ _ _ us hl => match us, hl with | [_], _ => rfl), g__law_start := He.glo_ok X G (c.fact 1 (f := .glo "_law_start") rfl), a__law_draw := _, d__law_draw := fd__law_draw, F__law_draw := F__law_draw, b__law_draw := FunD.bindsN F__law_draw (fun _ _ _ _ _ _ us hl => match us, hl with | [_, _], _ => rfl), g__law_draw := He.glo_ok X G (c.fact 2 (f := .glo "_law_draw") rfl), a__law_turned := _, d__law_turned := fd__law_turned, F__law_turned := F__law_turned, b__law_turned := FunD.bindsN F__law_turned (fun _ _ _ _ _ _ us hl => match us, hl with | [_, _], _ => rfl), g__law_turned := He.glo_ok X G (c.fact 3 (f := .glo "_law_turned") rfl), a__law_renamed := _, d__law_renamed := fd__law_renamed, F__law_renamed := F__law_renamed, b__law_renamed := FunD.bindsN F__law_renamed (fun _ _ _ _ _ _ us hl => match us, hl with | [_, _], _ => rfl), g__law_renamed := He.glo_ok X G (c.fact 4 (f := .glo "_law_renamed") rfl), a__law_large := _, d__law_large := fd__law_large, F__law_large := F__law_large, b__law_large := FunD.bindsN F__law_large (fun _ _ _ _ _ _ us hl => match us, hl with | [_, _], _ => rfl), g__law_large := He.glo_ok X G (c.fact 5 (f := .glo "_law_large") rfl), a__law_order := _, d__law_order := fd__law_order, F__law_order := F__law_order, b__law_order := FunD.bindsN F__law_order (fun _ _ _ _ _ _ us hl => match us, hl with | [_, _, _], _ => rfl), g__law_order := He.glo_ok X G (c.fact 6 (f := .glo "_law_order") rfl), a__law_values := _, d__law_values := fd__law_values, F__law_values := F__law_values, b__law_values := FunD.bindsN F__law_values (fun _ _ _ _ _ _ us hl => match us, hl with | [_, _], _ => rfl), g__law_values := He.glo_ok X G (c.fact 7 (f := .glo "_law_values") rfl), a__law_is_row := _, d__law_is_row := fd__law_is_row, F__law_is_row := F__law_is_row, b__law_is_row := FunD.bindsN F__law_is_row (fun _ _ _ _ _ _ us hl => match us, hl with | [_, _], _ => rfl), g__law_is_row := He.glo_ok X G (c.fact 8 (f := .glo "_law_is_row") rfl), a__law_is_renaming := _, d__law_is_renaming := fd__law_is_renaming, F__law_is_renaming := F__law_is_renaming, b__law_is_renaming := FunD.bindsN F__law_is_renaming (fun _ _ _ _ _ _ us hl => match us, hl with | [_, _, _], _ => rfl), g__law_is_renaming := He.glo_ok X G (c.fact 9 (f := .glo "_law_is_renaming") rfl), a_is_renaming := _, d_is_renaming := fd_is_renaming, F_is_renaming := F_is_renaming, b_is_renaming := FunD.bindsN F_is_renaming (fun _ _ _ _ _ _ us hl => match us, hl with | [_, _, _], _ => rfl), q0_is_renaming := kb_plain F_is_renaming 0 ["value", "second", "first"] [2, 1, 0] (fun _ _ _ _ _ _ us ws l1 l2 => match us, l1, ws, l2 with | [], _, [_, _, _], _ => rfl), g_is_renaming := He.glo_ok X G (c.fact 10 (f := .glo "is_renaming") rfl), a__law_asked := _, d__law_asked := fd__law_asked, F__law_asked := F__law_asked, b__law_asked := FunD.bindsN F__law_asked (fun _ _ _ _ _ _ us hl => match us, hl with | [_, _, _], _ => rfl), g__law_asked := He.glo_ok X G (c.fact 11 (f := .glo "_law_asked") rfl), a__law_marked := _, d__law_marked := fd__law_marked, F__law_marked := F__law_marked, b__law_marked := FunD.bindsN F__law_marked (fun _ _ _ _ _ _ us hl => match us, hl with | [_], _ => rfl), g__law_marked := He.glo_ok X G (c.fact 12 (f := .glo "_law_marked") rfl), a__law_one := _, d__law_one := fd__law_one, F__law_one := F__law_one, b__law_one := FunD.bindsN F__law_one (fun _ _ _ _ _ _ us hl => match us, hl with | [_, _], _ => rfl), g__law_one := He.glo_ok X G (c.fact 13 (f := .glo "_law_one") rfl), a__law_one_cover := _, d__law_one_cover := fd__law_one_cover, F__law_one_cover := F__law_one_cover, b__law_one_cover := FunD.bindsN F__law_one_cover (fun _ _ _ _ _ _ us hl => match us, hl with | [_, _], _ => rfl), g__law_one_cover := He.glo_ok X G (c.fact 14 (f := .glo "_law_one_cover") rfl), a__law_without := _, d__law_without := fd__law_without, F__law_without := F__law_without, b__law_without := FunD.bindsN F__law_without (fun _ _ _ _ _ _ us hl => match us, hl with | [_, _], _ => rfl), g__law_without := He.glo_ok X G (c.fact 15 (f := .glo "_law_without") rfl), a__law_loose := _, d__law_loose := fd__law_loose, F__law_loose := F__law_loose, b__law_loose := FunD.bindsN F__law_loose (fun _ _ _ _ _ _ us hl => match us, hl with | [_], _ => rfl), g__law_loose := He.glo_ok X G (c.fact 16 (f := .glo "_law_loose") rfl), a__law_linked := _, d__law_linked := fd__law_linked, F__law_linked := F__law_linked, b__law_linked := FunD.bindsN F__law_linked (fun _ _ _ _ _ _ us hl => match us, hl with | [_, _, _], _ => rfl), g__law_linked := He.glo_ok X G (c.fact 17 (f := .glo "_law_linked") rfl), a_law := _, d_law := fd_law, F_law := F_law, b_law := FunD.bindsN F_law (fun _ _ _ _ _ _ us hl => match us, hl with | [_], _ => rfl), g_law := He.glo_ok X G (c.fact 18 (f := .glo "law") rfl), m_list := He.free_ok X G (c.fact 19 (f := .free "list") rfl), m_len := He.free_ok X G (c.fact 20 (f := .free "len") rfl), m_int := He.free_ok X G (c.fact 21 (f := .free "int") rfl), m_abs := He.free_ok X G (c.fact 22 (f := .free "abs") rfl), m_range := He.free_ok X G (c.fact 23 (f := .free "range") rfl), m_tuple := He.free_ok X G (c.fact 24 (f := .free "tuple") rfl), m_sorted := He.free_ok X G (c.fact 25 (f := .free "sorted") rfl), m_str := He.free_ok X G (c.fact 26 (f := .free "str") rfl), m_isinstance := He.free_ok X G (c.fact 27 (f := .free "isinstance") rfl), m_bool := He.free_ok X G (c.fact 28 (f := .free "bool") rfl) }
  have e := hfa.symm.trans T.g_law
  cases e
  have b := FunD.bindsA (ps := ["script"]) T.F_law fun _ _ _ _ _ _ us hl => match us, hl with | [_], _ => rfl
  exact ⟨T.d_law, fun s v => b s [v] rfl, fun base _ _ => ok_law T⟩
end K30
set_option maxHeartbeats 1000000
/-! The program's answer and the law's. -/
namespace K30
open PySem PySem.Spec L2 CC
open PyProof.Rows hiding St
abbrev prV (p : Int × Int) : PV := PV.tup [PV.int p.1, PV.int p.2]
theorem sm_prs (ps : List (Int × Int)) : Sm 2 (.tup (ps.map prV)) := sm_tup fun x hx => by
  obtain ⟨p, _, rfl⟩ := List.mem_map.mp hx
  refine sm_tup fun y hy => ?_
  rcases List.mem_cons.mp hy with z | z
  · rw [z]; exact sm_int 0 _
  · rw [List.mem_singleton.mp z]; exact sm_int 0 _
theorem sm_ints (xs : List Int) : Sm 1 (.lst (xs.map PV.int)) := sm_lst fun x hx => by
  obtain ⟨p, _, rfl⟩ := List.mem_map.mp hx
  exact sm_int 0 _
theorem prs_eqv : ∀ xs ys : List (Int × Int), PyData.eqvAll (toDs (xs.map prV)) (toDs (ys.map prV)) = decide (xs = ys)
  | [], [] => rfl
  | [], y :: ys => by simp [toDs, PyData.eqvAll]
  | x :: xs, [] => by simp [toDs, PyData.eqvAll]
  | x :: xs, y :: ys => by
    obtain ⟨x1, x2⟩ := x
    obtain ⟨y1, y2⟩ := y
    simp only [List.map_cons, toDs, toD, PyData.eqvAll, PyData.eqv, prs_eqv xs ys, Bool.and_true]
    by_cases e1 : x1 = y1
    · by_cases e2 : x2 = y2
      · subst e1 e2; simp
      · simp [e2]
    · simp [e1]
theorem eqP_prsT (xs ys : List (Int × Int)) : eqP (.tup (xs.map prV)) (.tup (ys.map prV)) = some (decide (xs = ys)) := by
  unfold eqP
  rw [if_pos ⟨(sm_prs xs).sh (by omega), (sm_prs ys).sh (by omega)⟩]
  congr 1
  simp only [toD, PyData.eqv]
  exact prs_eqv xs ys
theorem sm_ord (n : Int) (ps : List (Int × Int)) : Sm 3 (.tup [.int n, .tup (ps.map prV)]) := sm_tup fun x hx => by
  rcases List.mem_cons.mp hx with z | z
  · rw [z]; exact sm_int 2 _
  · rw [List.mem_singleton.mp z]; exact sm_prs ps
theorem eqP_ord (n m : Int) (xs ys : List (Int × Int)) : eqP (.tup [.int n, .tup (xs.map prV)]) (.tup [.int m, .tup (ys.map prV)]) = some (decide (n = m) && decide (xs = ys)) := by
  unfold eqP
  rw [if_pos ⟨(sm_ord n xs).sh (by omega), (sm_ord m ys).sh (by omega)⟩]
  congr 1
  simp only [toD, toDs, PyData.eqv, PyData.eqvAll, Bool.and_true, prs_eqv]
  rfl
theorem neP_ints (xs ys : List Int) : neP (.lst (xs.map PV.int)) (.lst (ys.map PV.int)) = some (!decide (xs = ys)) := by
  have e : eqP (.lst (xs.map PV.int)) (.lst (ys.map PV.int)) = some (decide (xs = ys)) := by
    unfold eqP
    rw [if_pos ⟨(sm_ints xs).sh (by omega), (sm_ints ys).sh (by omega)⟩]
    congr 1
    simp only [toD, PyData.eqv]
    exact ints_eqv xs ys
  unfold neP
  rw [e]
  rfl
theorem rl_srt (n : Nat) : (rl n).Pairwise fun a b => leI a b = true := by
  refine List.pairwise_iff_getElem.mpr fun i j hi hj h => ?_
  have g1 := rl_get (n := n) (k := i) (by rw [rl_len] at hi; exact hi)
  have g2 := rl_get (n := n) (k := j) (by rw [rl_len] at hj; exact hj)
  rw [List.getElem?_eq_getElem hi] at g1
  rw [List.getElem?_eq_getElem hj] at g2
  rw [Option.some.inj g1, Option.some.inj g2]
  exact decide_eq_true (by omega)
theorem leI_an' : ∀ a b, leI a b = true → leI b a = true → a = b := fun a b h k => by
  have h := of_decide_eq_true h
  have k := of_decide_eq_true k
  omega
theorem leI_tot' : ∀ a b, leI a b = true ∨ leI b a = true := fun a b => by
  rcases Int.le_total a b with h | h
  · exact .inl (decide_eq_true h)
  · exact .inr (decide_eq_true h)
theorem leI_tr' : ∀ a b c, leI a b = true → leI b c = true → leI a c = true := fun a b c h k => by
  have h := of_decide_eq_true h
  have k := of_decide_eq_true k
  exact decide_eq_true (by omega)
theorem sort_rl {is : List Int} {n : Nat} : sortI is = rl n ↔ is.Perm (rl n) := by
  constructor
  · intro h
    exact (isort_perm leI is).symm.trans (h ▸ List.Perm.refl _)
  · intro h
    exact srt_uniq leI_an' (isort_srt leI_tot' leI_tr' is) (rl_srt n) ((isort_perm leI is).trans h)
/-- a value that has each of n numbers once -/
def Cnd (v : PV) (n : Nat) (is : List Int) : Prop := v = .tup (is.map PV.int) ∧ is.Perm (rl n)
/-- no truth value within -/
def NB (v : PV) : Prop := ∀ xs, v = .tup xs → xs.length ≤ 100000 ∧ ∀ x ∈ xs, ∀ b, x ≠ .bl b
theorem all_ints : ∀ {xs : List PV}, (∀ x ∈ xs, ∃ i, x = .int i) → ∃ is : List Int, xs = is.map PV.int
  | [], _ => ⟨[], rfl⟩
  | x :: xs, h => by
    obtain ⟨i, rfl⟩ := h x List.mem_cons_self
    obtain ⟨is, rfl⟩ := all_ints fun y hy => h y (List.mem_cons_of_mem _ hy)
    exact ⟨i :: is, rfl⟩
theorem not_int {x : PV} (nb : ∀ b, x ≠ .bl b) : pI x = true → ∃ i, x = .int i := fun h => by
  cases x with
  | int i => exact ⟨i, rfl⟩
  | bl b => exact (nb b rfl).elim
  | _ => cases h
theorem putM_keys {s : List (Int × Bool)} {k : Int} : (∀ i, i ∈ (putM s k true).map (·.1) ↔ i = k ∨ i ∈ s.map (·.1)) ∧ ((s.map (·.1)).Nodup → ((putM s k true).map (·.1)).Nodup) := by
  have hr : ∀ s : List (Int × Bool), (putR s k true).map (·.1) = s.map (·.1) := fun s => by
    induction s with
    | nil => rfl
    | cons q s ih =>
      show (if q.1 = k then (q.1, true) else q).1 :: (putR s k true).map (·.1) = _
      rw [ih]
      split <;> rfl
  have hg : ∀ s : List (Int × Bool), (getM s k).isSome = true ↔ k ∈ s.map (·.1) := fun s => by
    induction s with
    | nil => exact ⟨fun h => (by cases h), fun h => (List.not_mem_nil h).elim⟩
    | cons q s ih =>
      unfold getM
      by_cases e : q.1 = k
      · rw [if_pos e]
        exact ⟨fun _ => by rw [← e]; exact List.mem_cons_self, fun _ => rfl⟩
      · rw [if_neg e, ih, List.map_cons, List.mem_cons]
        exact ⟨.inr, fun h => h.resolve_left fun z => e z.symm⟩
  unfold putM
  split
  · rename_i h
    rw [hr]
    have hk := (hg s).mp h
    exact ⟨fun i => ⟨.inr, fun z => z.elim (fun z => z ▸ hk) id⟩, id⟩
  · rename_i h
    have hk : k ∉ s.map (·.1) := fun z => h ((hg s).mpr z)
    rw [List.map_append]
    constructor
    · intro i
      rw [List.mem_append]
      show i ∈ s.map (·.1) ∨ i ∈ [k] ↔ _
      rw [List.mem_singleton]
      exact Or.comm
    · intro nd
      refine List.nodup_append.mpr ⟨nd, List.nodup_cons.mpr ⟨List.not_mem_nil, List.nodup_nil⟩, fun a ha b hb => ?_⟩
      have : b = k := List.mem_singleton.mp hb
      rw [this]
      exact fun z => hk (z ▸ ha)
theorem nodup_len {α : Type} {l m : List α} (h : l.Nodup) (k : ∀ x ∈ l, x ∈ m) : l.length ≤ m.length := by
  by_cases z : l.length ≤ m.length
  · exact z
  · have := (nodup_perm h k (by omega)).length_eq
    omega
theorem ints_map (is : List Int) : (is.map PV.int).filterMap asI = is := by
  induction is with
  | nil => rfl
  | cons i is ih =>
    rw [List.map_cons, List.filterMap_cons]
    simp only [asI]
    rw [ih]
theorem int_inj {a b : Int} (h : PV.int a = PV.int b) : a = b := by
  cases h
  rfl
theorem row_ok {v : PV} {n : Nat} (hv : NB v) (hn : n ≤ 1000) : Ok (M_law_is_row (v, ((n : Int), ()))) fun b => b = true ↔ ∃ is, Cnd v n is := by
  unfold M_law_is_row
  cases v with
  | tup xs =>
    obtain ⟨hx, nb⟩ := hv xs rfl
    show Ok (Option.bind (some (!decide ((xs.length : Int) = (n : Int)))) _) _
    rw [CC.sb]
    refine .bif (fun e => .one ?_) fun e => ?_
    · have e : ¬ ((xs.length : Int) = (n : Int)) := fun z => by rw [decide_eq_true z] at e; cases e
      refine ⟨fun h => (by cases h), fun ⟨is, h1, h2⟩ => ?_⟩
      cases h1
      rw [List.length_map, h2.length_eq, rl_len] at e
      exact (e rfl).elim
    · have e : xs.length = n := by
        by_cases z : (xs.length : Int) = (n : Int)
        · omega
        · rw [decide_eq_false z] at e; cases e
      show Ok (Option.bind (foldGo _ xs []) _) _
      refine .bind (fold_ok (fun pre (s : List (Int × Bool)) => (s.map (·.1)).Nodup ∧ ∀ i, i ∈ s.map (·.1) ↔ (PV.int i ∈ pre ∧ i ∈ rl n)) ⟨List.nodup_nil, fun i => ⟨fun h => (List.not_mem_nil h).elim, fun h => (List.not_mem_nil h.1).elim⟩⟩ fun pre x s hm ⟨h1, h4⟩ => ?_) fun s ⟨h1, h4⟩ => .one ?_
      · have hl : s.length ≤ n := by
          have := nodup_len h1 fun i hi => ((h4 i).mp hi).2
          rw [List.length_map, rl_len] at this
          exact this
        have keep : (∀ i, PV.int i = x → i ∉ rl n) → ((s.map (·.1)).Nodup ∧ ∀ i, i ∈ s.map (·.1) ↔ (PV.int i ∈ pre ++ [x] ∧ i ∈ rl n)) := fun z => ⟨h1, fun i => by
          rw [h4 i, List.mem_append, List.mem_singleton]
          exact ⟨fun q => ⟨.inl q.1, q.2⟩, fun q => ⟨q.1.resolve_right fun y => z i y q.2, q.2⟩⟩⟩
        cases x with
        | int i =>
          show Ok (Option.bind (Option.bind (Option.bind (some (decide ((0 : Int) ≤ i))) fun x597 => bif x597 then (asI (.int i)).bind fun x596 => some (decide (x596 < (n : Int))) else some false) _) _) _
          by_cases hi : i ∈ rl n
          · obtain ⟨k, hk, rfl⟩ := rl_mem.mp hi
            rw [decide_eq_true (show (0 : Int) ≤ (k : Int) by omega), CC.sb]
            show Ok (Option.bind (Option.bind (some (decide ((k : Int) < (n : Int)))) _) _) _
            rw [decide_eq_true (show (k : Int) < (n : Int) by omega), CC.sb]
            show Ok (Option.bind (Option.bind (Option.bind (some (k : Int)) fun x601 => putMO s x601 true) _) _) _
            rw [CC.sb]
            unfold putMO
            rw [if_pos (show s.length < LIM by show s.length < 1000000; omega), CC.sb, CC.sb]
            obtain ⟨p1, p2⟩ := putM_keys (s := s) (k := (k : Int))
            refine .one ⟨p2 h1, fun j => ?_⟩
            rw [p1 j, h4 j, List.mem_append, List.mem_singleton]
            constructor
            · rintro (q | q)
              · exact ⟨.inr (by rw [q]), q ▸ hi⟩
              · exact ⟨.inl q.1, q.2⟩
            · rintro ⟨q | q, q2⟩
              · exact .inr ⟨q, q2⟩
              · exact .inl (int_inj q)
          · refine Ok.of_eq (x := s) ?_ (keep fun j hj => int_inj hj ▸ hi)
            by_cases h0 : (0 : Int) ≤ i
            · rw [decide_eq_true h0, CC.sb]
              show Option.bind (Option.bind (some (decide (i < (n : Int)))) _) _ = _
              rw [decide_eq_false fun z => hi (rl_mem.mpr ⟨i.toNat, by omega, by omega⟩)]
              rfl
            · rw [decide_eq_false h0]
              rfl
        | bl b => exact (nb _ hm b rfl).elim
        | non => exact .one (keep fun j hj => by cases hj)
        | str z => exact .one (keep fun j hj => by cases hj)
        | tup ys => exact .one (keep fun j hj => by cases hj)
        | lst ys => exact .one (keep fun j hj => by cases hj)
      · rw [decide_eq_true_eq]
        show (s.length : Int) = (n : Int) ↔ _
        constructor
        · intro hs
          have hs : s.length = n := by omega
          have pk := nodup_perm h1 (fun i hi => ((h4 i).mp hi).2) (by rw [rl_len, List.length_map]; omega)
          have ha : ∀ i ∈ rl n, PV.int i ∈ xs := fun i hi => ((h4 i).mp (pk.mem_iff.mpr hi)).1
          have nd : ((rl n).map PV.int).Nodup := List.Pairwise.map PV.int (fun a b h z => h (int_inj z)) (rl_nodup n)
          have pp : ((rl n).map PV.int).Perm xs := nodup_perm nd (fun x hx => by
            obtain ⟨i, hi, rfl⟩ := List.mem_map.mp hx
            exact ha i hi) (by rw [List.length_map, rl_len]; omega)
          obtain ⟨is, rfl⟩ := all_ints (xs := xs) fun x hx => by
            obtain ⟨i, _, rfl⟩ := List.mem_map.mp (pp.mem_iff.mpr hx)
            exact ⟨i, rfl⟩
          refine ⟨is, rfl, ?_⟩
          have := (pp.symm.filterMap asI)
          rwa [ints_map, ints_map] at this
        · rintro ⟨is, h5, h6⟩
          cases h5
          have pk : (s.map (·.1)).Perm (rl n) := (List.perm_ext_iff_of_nodup h1 (rl_nodup n)).mpr fun i => by
            rw [h4 i]
            exact ⟨fun z => z.2, fun z => ⟨List.mem_map.mpr ⟨i, h6.mem_iff.mpr z, rfl⟩, z⟩⟩
          have := pk.length_eq
          rw [List.length_map, rl_len] at this
          omega
  | non => exact .one ⟨fun h => (by cases h), fun ⟨is, h1, _⟩ => by cases h1⟩
  | bl b => exact .one ⟨fun h => (by cases h), fun ⟨is, h1, _⟩ => by cases h1⟩
  | int b => exact .one ⟨fun h => (by cases h), fun ⟨is, h1, _⟩ => by cases h1⟩
  | str b => exact .one ⟨fun h => (by cases h), fun ⟨is, h1, _⟩ => by cases h1⟩
  | lst b => exact .one ⟨fun h => (by cases h), fun ⟨is, h1, _⟩ => by cases h1⟩
/-- an order as it is handed in -/
structure OrO (w : Int × List (Int × Int)) (n : Nat) : Prop where
  sz : w.1 = (n : Int)
  le : n ≤ 64
  ps : ∀ p ∈ w.2, p.1 ∈ rl n ∧ p.2 ∈ rl n
  len : w.2.length ≤ 20000
def img (is : List Int) (ps : List (Int × Int)) : List (Int × Int) := ps.map fun p => ((is[p.1.toNat]?).getD 0, (is[p.2.toNat]?).getD 0)
theorem is_at {is : List Int} {n : Nat} (h : is.Perm (rl n)) {i : Int} (hi : i ∈ rl n) : atI is i = some ((is[i.toNat]?).getD 0) := by
  obtain ⟨k, hk, rfl⟩ := rl_mem.mp hi
  have : is.length = n := by rw [h.length_eq, rl_len]
  rw [CC.atI_nat (by omega), Int.toNat_natCast, List.getElem?_eq_getElem (by omega)]
  rfl
theorem renamed_ok {f : Int × List (Int × Int)} {n : Nat} {is : List Int} (hf : OrO f n) (h : is.Perm (rl n)) : M_law_renamed (f, (is, ())) = some (f.1, sortP (img is f.2)) := by
  unfold M_law_renamed
  have e : mapM (fun x158 : Int × Int => ((atI is x158.1).bind fun x159 => ((atI is x158.2).bind fun x160 => some (x160, ())).bind fun y161 => some (x159, y161)).bind fun z162 => some (z162.1, z162.2.1)) f.2 = some (img is f.2) := by
    refine mapM_is (by have := hf.len; omega) fun p hp => ?_
    obtain ⟨h1, h2⟩ := hf.ps p hp
    rw [is_at h h1, is_at h h2]
    rfl
  show Option.bind (Option.bind (Option.bind (Option.bind (Option.bind (mapM _ f.2) _) _) _) _) _ = _
  rw [e]
  rfl
theorem renamed_any {f : Int × List (Int × Int)} {n : Nat} {is : List Int} (hf : OrO f n) (h : is.Perm (rl n)) : M_law_renamed_2 (f, (PV.tup (is.map PV.int), ())) = some (f.1, sortP (img is f.2)) := by
  unfold M_law_renamed_2
  have ix : ∀ i ∈ rl n, (ixA (PV.tup (is.map PV.int)) i).bind (fun x => asI x) = some ((is[i.toNat]?).getD 0) := fun i hi => by
    obtain ⟨k, hk, rfl⟩ := rl_mem.mp hi
    have hl : is.length = n := by rw [h.length_eq, rl_len]
    show (atI (is.map PV.int) (k : Int)).bind _ = _
    rw [CC.atI_nat (by rw [List.length_map]; omega), List.getElem_map, Int.toNat_natCast, List.getElem?_eq_getElem (by omega)]
    rfl
  refine (run_eq (x := (f.1, sortP (img is f.2), ())) ?_).trans rfl
  refine (run_eq (x := (sortP (img is f.2), ())) ?_).trans rfl
  refine (run_eq (x := sortP (img is f.2)) ?_).trans rfl
  refine (run_eq (x := sortP (img is f.2)) ?_).trans rfl
  refine (run_eq (x := img is f.2) ?_).trans rfl
  refine mapM_is (by have := hf.len; show f.2.length ≤ _; omega) fun p hp => ?_
  obtain ⟨h1, h2⟩ := hf.ps p hp
  show Option.bind (Option.bind (Option.bind (ixA (PV.tup (is.map PV.int)) p.1) fun x => asI x) fun x => ((Option.bind ((ixA (PV.tup (is.map PV.int)) p.2)) fun x => asI x).bind fun y => some (y, ())).bind fun y => some (x, y)) _ = _
  rw [ix _ h1, ix _ h2]
  rfl
/-- what both tell -/
noncomputable def Rn (f g : Int × List (Int × Int)) (n m : Nat) (v : PV) : Bool := @decide (n = m ∧ ∃ is, Cnd v n is ∧ sortP (img is f.2) = g.2) (Classical.propDecidable _)
theorem Rn.yes {f g : Int × List (Int × Int)} {n m : Nat} {v : PV} : Rn f g n m v = true ↔ (n = m ∧ ∃ is, Cnd v n is ∧ sortP (img is f.2) = g.2) := by
  unfold Rn
  exact @decide_eq_true_iff _ (Classical.propDecidable _)
theorem cnd_uniq {v : PV} {n : Nat} {is js : List Int} (h : Cnd v n is) (k : Cnd v n js) : is = js := by
  have e := h.1.symm.trans k.1
  have e := PV.tup.inj e
  have := congrArg (List.filterMap asI) e
  rwa [ints_map, ints_map] at this
theorem law_ok' {f g : Int × List (Int × Int)} {n m : Nat} {v : PV} (hf : OrO f n) (hg : OrO g m) (hv : NB v) : M_law_is_renaming (f, (g, (v, ()))) = some (Rn f g n m v) := by
  refine Ok.eq_some ?_
  unfold M_law_is_renaming
  show Ok (Option.bind (bif !decide (f.1 = g.1) then some true else (M_law_is_row (v, (f.1, ()))).bind fun x606 => some (!x606)) _) _
  by_cases e : f.1 = g.1
  · have nm : n = m := by
      have := hf.sz.symm.trans (e.trans hg.sz)
      omega
    rw [decide_eq_true e]
    show Ok (Option.bind ((M_law_is_row (v, (f.1, ()))).bind fun x606 => some (!x606)) _) _
    rw [hf.sz]
    obtain ⟨b, hb, hc⟩ := row_ok (n := n) hv (by have := hf.le; omega)
    rw [hb, CC.sb, CC.sb]
    cases b with
    | false =>
      refine .one ?_
      show false = _
      refine (Bool.eq_false_iff.mpr fun z => ?_).symm
      obtain ⟨_, is, h1, _⟩ := Rn.yes.mp z
      cases hc.mpr ⟨is, h1⟩
    | true =>
      obtain ⟨is, h1, h2⟩ := hc.mp rfl
      subst h1
      show Ok (Option.bind (Option.bind (M_law_renamed_2 (f, (PV.tup (is.map PV.int), ()))) _) _) _
      rw [renamed_any hf h2, CC.sb, CC.sb]
      refine Ok.of_eq (eqP_ord f.1 g.1 _ _) ?_
      rw [decide_eq_true e, Bool.true_and]
      refine Bool.eq_iff_iff.mpr ?_
      rw [Rn.yes, decide_eq_true_eq]
      constructor
      · exact fun z => ⟨nm, is, ⟨rfl, h2⟩, z⟩
      · rintro ⟨_, js, h3, h4⟩
        rw [cnd_uniq (n := n) ⟨rfl, h2⟩ h3]
        exact h4
  · rw [decide_eq_false e]
    refine .one ?_
    show false = _
    refine (Bool.eq_false_iff.mpr fun z => ?_).symm
    obtain ⟨nm, _⟩ := Rn.yes.mp z
    exact e (by rw [hf.sz, hg.sz, nm])
end K30
set_option maxHeartbeats 1000000
/-! The program's answer. -/
namespace K30
open PySem PySem.Spec L2 CC
open PyProof.Rows hiding St
theorem ints_loop : ∀ {xs : List PV}, (∀ x ∈ xs, ∀ b, x ≠ .bl b) → Ok (loopGo (fun x628 (s629 : Unit) => (bif !(pI x628) then some true else some (pB x628)).bind fun x631 => bif x631 then (some false).bind fun y630 => some (Out.rt y630) else some (Out.nx ())) xs ()) fun o => (o = .nx () ∧ ∃ is : List Int, xs = is.map PV.int) ∨ (o = .rt false ∧ ¬ ∃ is : List Int, xs = is.map PV.int)
  | [], _ => .one (.inl ⟨rfl, [], rfl⟩)
  | x :: xs, nb => by
    have ih := ints_loop (xs := xs) fun y hy => nb y (List.mem_cons_of_mem _ hy)
    have no : (∀ i, x ≠ .int i) → ¬ ∃ is : List Int, x :: xs = is.map PV.int := fun h ⟨is, e⟩ => by
      cases is with
      | nil => cases e
      | cons i is =>
        rw [List.map_cons] at e
        exact h i (List.cons.inj e).1
    cases x with
    | int i =>
      obtain ⟨o, ho, hc⟩ := ih
      refine Ok.of_eq (x := o) ho ?_
      rcases hc with ⟨e, is, h⟩ | ⟨e, h⟩
      · exact .inl ⟨e, i :: is, by rw [h]; rfl⟩
      · refine .inr ⟨e, fun ⟨is, h'⟩ => h ?_⟩
        cases is with
        | nil => cases h'
        | cons j is => exact ⟨is, (List.cons.inj h').2⟩
    | bl b => exact (nb _ List.mem_cons_self b rfl).elim
    | non => exact .one (.inr ⟨rfl, no fun i z => by cases z⟩)
    | str z => exact .one (.inr ⟨rfl, no fun i z => by cases z⟩)
    | tup z => exact .one (.inr ⟨rfl, no fun i z => by cases z⟩)
    | lst z => exact .one (.inr ⟨rfl, no fun i z => by cases z⟩)
theorem no_cnd {f g : Int × List (Int × Int)} {n m : Nat} {v : PV} (h : ∀ is, n = m → ¬ Cnd v n is) : false = Rn f g n m v := (Bool.eq_false_iff.mpr fun z => by
  obtain ⟨e, is, h1, _⟩ := Rn.yes.mp z
  exact h is e h1).symm
theorem prog_ok {f g : Int × List (Int × Int)} {n m : Nat} {v : PV} (hf : OrO f n) (hg : OrO g m) (hv : NB v) : M_is_renaming (f, (g, (v, ()))) = some (Rn f g n m v) := by
  refine Ok.eq_some ?_
  unfold M_is_renaming
  cases v with
  | tup xs =>
    obtain ⟨hx, nb⟩ := hv xs rfl
    show Ok (Option.bind (Option.bind (some (!decide ((xs.length : Int) = f.1))) fun x626 => bif x626 then some true else (some (xs.length : Int)).bind fun x625 => some (!decide (x625 = g.1))) _) _
    rw [CC.sb]
    by_cases e1 : (xs.length : Int) = f.1
    · rw [decide_eq_true e1]
      show Ok (Option.bind (some (!decide ((xs.length : Int) = g.1))) _) _
      rw [CC.sb]
      by_cases e2 : (xs.length : Int) = g.1
      · rw [decide_eq_true e2]
        have en : xs.length = n := by rw [hf.sz] at e1; omega
        have nm : n = m := by rw [hg.sz] at e2; omega
        show Ok (Option.bind (loopGo _ xs ()) _) _
        refine .bind (ints_loop nb) fun o ho => ?_
        rcases ho with ⟨rfl, is, rfl⟩ | ⟨rfl, hno⟩
        · dsimp only [Out.k]
          have ea : asTI (PV.tup (is.map PV.int)) = some is := asIs_map is
          rw [ea, CC.sb, CC.sb, hf.sz, rng_nat (show n ≤ 1000000 by have := hf.le; omega), CC.sb, CC.sb, CC.sb, neP_ints, CC.sb]
          by_cases hp : is.Perm (rl n)
          · rw [decide_eq_true (sort_rl.mpr hp)]
            have ix : ∀ i ∈ rl n, (ixA (PV.tup (is.map PV.int)) i).bind (fun x => asI x) = some ((is[i.toNat]?).getD 0) := fun i hi => by
              obtain ⟨k, hk, rfl⟩ := rl_mem.mp hi
              have hl : is.length = n := by rw [hp.length_eq, rl_len]
              show (atI (is.map PV.int) (k : Int)).bind _ = _
              rw [CC.atI_nat (by rw [List.length_map]; omega), List.getElem_map, Int.toNat_natCast, List.getElem?_eq_getElem (by omega)]
              rfl
            have e : mapM (fun x641 : Int × Int => (((ixA (PV.tup (is.map PV.int)) x641.1).bind fun x642 => asI x642).bind fun x644 => (((ixA (PV.tup (is.map PV.int)) x641.2).bind fun x643 => asI x643).bind fun x645 => some (x645, ())).bind fun y646 => some (x644, y646)).bind fun z647 => some (z647.1, z647.2.1)) f.2 = some (img is f.2) := by
              refine mapM_is (by have := hf.len; omega) fun p hpm => ?_
              obtain ⟨h1, h2⟩ := hf.ps p hpm
              rw [ix _ h1, ix _ h2]
              rfl
            show Ok (Option.bind (Option.bind (mapM _ f.2) _) _) _
            rw [e, CC.sb, CC.sb]
            refine Ok.of_eq (eqP_prsT _ _) (Bool.eq_iff_iff.mpr ?_)
            rw [Rn.yes, decide_eq_true_eq]
            constructor
            · exact fun z => ⟨nm, is, ⟨rfl, hp⟩, z⟩
            · rintro ⟨_, js, h3, h4⟩
              rw [cnd_uniq (n := n) ⟨rfl, hp⟩ h3]
              exact h4
          · rw [decide_eq_false fun z => hp (sort_rl.mp z)]
            exact .one (no_cnd fun js _ h3 => hp (by rw [cnd_uniq (v := PV.tup (is.map PV.int)) (n := n) (is := is) (js := js) |> fun _ => (by
              have e := PV.tup.inj h3.1
              have := congrArg (List.filterMap asI) e
              rwa [ints_map, ints_map] at this : is = js)]; exact h3.2))
        · dsimp only [Out.k]
          exact .one (no_cnd fun js _ h3 => hno ⟨js, PV.tup.inj h3.1⟩)
      · rw [decide_eq_false e2]
        refine .one (no_cnd fun js nm h3 => e2 ?_)
        have := congrArg List.length (PV.tup.inj h3.1)
        rw [List.length_map, h3.2.length_eq, rl_len] at this
        rw [hg.sz, this, nm]
    · rw [decide_eq_false e1]
      refine .one (no_cnd fun js nm h3 => e1 ?_)
      have := congrArg List.length (PV.tup.inj h3.1)
      rw [List.length_map, h3.2.length_eq, rl_len] at this
      rw [hf.sz, this]
  | non => exact .one (no_cnd fun js _ h3 => by cases h3.1)
  | bl b => exact .one (no_cnd fun js _ h3 => by cases h3.1)
  | int b => exact .one (no_cnd fun js _ h3 => by cases h3.1)
  | str b => exact .one (no_cnd fun js _ h3 => by cases h3.1)
  | lst b => exact .one (no_cnd fun js _ h3 => by cases h3.1)
theorem asked_ok {f g : Int × List (Int × Int)} {n m : Nat} {v : PV} (hf : OrO f n) (hg : OrO g m) (hv : NB v) : M_law_asked (f, (g, (v, ()))) = some true := by
  unfold M_law_asked
  show Option.bind (M_law_is_renaming (f, (g, (v, ())))) _ = _
  rw [law_ok' hf hg hv, CC.sb]
  show Option.bind (Option.bind (Option.bind (M_is_renaming (f, (g, (v, ())))) fun x656 => ((M_is_renaming (f, g, v, ())).bind fun x657 => some (x657, ())).bind fun y658 => some (x656, y658)) _) _ = _
  rw [prog_ok hf hg hv, CC.sb, CC.sb, CC.sb, CC.sb, CC.sb]
  cases Rn f g n m v <;> rfl
end K30
set_option maxHeartbeats 2000000
/-! The draws. -/
namespace K30
open PySem PySem.Spec L2 CC
open PyProof.Rows hiding St
abbrev Bg := (List Int) × Int × Int × Int × Int × Int
def BI (s : Bg) : Prop := 0 ≤ s.2.1
theorem mixed_ok (x c : Int) : Ok (M_law_mixed (x, (c, ()))) fun _ => True := by
  unfold M_law_mixed
  simp only [bassoc, CC.sb]
  rw [mulO_r (by omega) (by omega), CC.sb, mulO_r (by omega) (by omega), CC.sb, modO_eq (by omega), CC.sb]
  generalize hf : (x * 48271 + c * 69621 + 13) % 2147483647 = f
  have f1 : 0 ≤ f := by rw [← hf]; exact mod_lo _ (by omega)
  have f2 : f < 2147483647 := by rw [← hf]; exact mod_hi _ (by omega)
  rw [mulO_l (by omega) (by omega), CC.sb, mulO_r (by omega) (by omega), CC.sb, modO_eq (by omega), CC.sb]
  generalize hg : (f * f + c * 40692 + 5) % 2147483399 = g
  have g1 : 0 ≤ g := by rw [← hg]; exact mod_lo _ (by omega)
  have g2 : g < 2147483399 := by rw [← hg]; exact mod_hi _ (by omega)
  rw [mulO_l (by omega) (by omega), CC.sb, modO_eq (by omega), CC.sb, mulO_r (by omega) (by omega), CC.sb, mulO_r (by omega) (by omega), CC.sb]
  exact .one trivial
theorem start_ok (ns : List Int) : Ok (M_law_start (ns, ())) BI := by
  unfold M_law_start
  exact .bind (fold_ok (fun _ _ => True) trivial fun pre x s _ _ => .bind (mixed_ok _ _) fun z _ => .one trivial) fun z _ => .one (Int.le_refl _)
theorem draw_ok {m : Int} {s : Bg} (hm : 0 < m) (h2 : m < 1073741824) (h : BI s) : Ok (M_law_draw (m, ()) s) fun r => (0 ≤ r.1 ∧ r.1 < m) ∧ BI r.2 := by
  have h : 0 ≤ s.2.1 := h
  unfold M_law_draw
  refine .bind (P := fun o : Out Bg (Int × Bg) => (∃ s', o = .nx s' ∧ BI s') ∨ ∃ r : Int × Bg, o = .rt r ∧ (0 ≤ r.1 ∧ r.1 < m) ∧ BI r.2) ?_ fun o ho => ?_
  · refine .bind (P := fun _ => True) (.bif (fun _ => .one trivial) fun _ => .one trivial) fun b _ => ?_
    refine .bif (fun _ => ?_) fun _ => .one (.inl ⟨_, rfl, h⟩)
    refine .bif (fun _ => ?_) fun e => ?_
    · simp only [bassoc, CC.sb]
      refine .bind (mixed_ok _ _) fun z _ => ?_
      rw [modO_eq hm, CC.sb]
      exact .one (.inr ⟨_, rfl, ⟨mod_lo _ hm, mod_hi _ hm⟩, h⟩)
    · have e := of_decide_eq_false e
      refine .bind (atI_mem h (by omega)) fun c _ => ?_
      rw [modO_eq (by omega), CC.sb, CC.sb]
      refine .bif (fun _ => ?_) fun _ => ?_
      · simp only [bassoc, CC.sb]
        refine .bind (mixed_ok _ _) fun z _ => ?_
        rw [modO_eq hm, CC.sb]
        exact .one (.inr ⟨_, rfl, ⟨mod_lo _ hm, mod_hi _ hm⟩, show (0 : Int) ≤ s.2.1 + 1 by omega⟩)
      · rw [divO_eq (by omega) (by omega), CC.sb]
        exact .one (.inl ⟨_, rfl, show (0 : Int) ≤ s.2.1 + 1 by omega⟩)
  · rcases ho with ⟨s', rfl, hs⟩ | ⟨r, rfl, hr⟩
    · dsimp only [Out.k]
      rw [modO_eq hm, CC.sb, divO_eq hm h2, CC.sb]
      exact .one ⟨⟨mod_lo _ hm, mod_hi _ hm⟩, hs⟩
    · exact .one hr
theorem draw_nat {m : Nat} {s : Bg} (hm : 0 < m) (h2 : m < 1073741824) (h : BI s) : Ok (M_law_draw ((m : Int), ()) s) fun r => (∃ k : Nat, r.1 = (k : Int) ∧ k < m) ∧ BI r.2 :=
  (draw_ok (by omega) (by omega) h).mono fun r hr => ⟨⟨r.1.toNat, by omega, by omega⟩, hr.2⟩
theorem turned_ok {n : Nat} {s : Bg} (hn : n ≤ 1000) (h : BI s) : Ok (M_law_turned ((n : Int), ()) s) fun w => w.1.Perm (rl n) ∧ BI w.2 := by
  unfold M_law_turned
  show Ok (Option.bind (rng 0 (n : Int)) _) _
  rw [rng_nat (show n ≤ 1000000 by omega), CC.sb]
  rw [CC.sb]
  refine .bind (foldR_ok (fun k (w : Bg × List Int × List Int) => BI w.1 ∧ w.2.1.length + k = n ∧ w.2.2.length = k ∧ (w.2.2 ++ w.2.1).Perm (rl n)) (s := (s, rl n, [])) ⟨h, by show (rl n).length + 0 = n; rw [rl_len]; rfl, rfl, List.Perm.refl _⟩ fun k w hk ⟨h1, h2, h3, h4⟩ => ?_) fun w ⟨h1, h2, h3, h4⟩ => .one ⟨?_, h1⟩
  · obtain ⟨s1, u, r⟩ := w
    have h2 : u.length + k = n := h2
    have h3 : r.length = k := h3
    have h4 : (r ++ u).Perm (rl n) := h4
    simp only [bassoc, CC.sb]
    refine .bind (draw_ok (m := (u.length : Int)) (by omega) (by omega) h1) fun q hq => ?_
    refine .bind (popAt_ok hq.1.1 hq.1.2 (by omega)) fun p hp => ?_
    rw [appM_eq (by show r.length < _; omega), CC.sb]
    refine .one ⟨hq.2, by show p.2.length + (k + 1) = n; have := hp.2; omega, by show (r ++ [p.1]).length = k + 1; rw [List.length_append, h3]; rfl, ?_⟩
    show ((r ++ [p.1]) ++ p.2).Perm (rl n)
    rw [List.append_assoc]
    exact (List.Perm.append_left r hp.1.symm).trans h4
  · have : w.2.1 = [] := List.length_eq_zero_iff.mp (by omega)
    rw [this, List.append_nil] at h4
    exact h4
/-- an order whose pairs go up -/
structure Od (w : Int × List (Int × Int)) (n : Nat) : Prop where
  o : OrO w n
  nd : w.2.Nodup
  up : ∃ f : Int → Int, ∀ p ∈ w.2, f p.1 < f p.2
theorem sortP_mem {ps : List (Int × Int)} {p : Int × Int} : p ∈ sortP ps ↔ p ∈ ps := (isort_perm leP ps).mem_iff
theorem sortP_len {ps : List (Int × Int)} : (sortP ps).length = ps.length := (isort_perm leP ps).length_eq
theorem in_nat {n k : Nat} (h : k < n) : ((k : Nat) : Int) ∈ rl n := rl_mem.mpr ⟨k, h, rfl⟩
theorem is_mem {is : List Int} {n : Nat} (h : is.Perm (rl n)) {i : Int} (hi : i ∈ rl n) : (is[i.toNat]?).getD 0 ∈ rl n ∧ (is.idxOf ((is[i.toNat]?).getD 0) : Int) = i := by
  obtain ⟨k, hk, rfl⟩ := rl_mem.mp hi
  have hl : is.length = n := by rw [h.length_eq, rl_len]
  rw [Int.toNat_natCast, List.getElem?_eq_getElem (by omega)]
  refine ⟨h.mem_iff.mp (List.getElem_mem _), ?_⟩
  show ((is.idxOf is[k] : Nat) : Int) = k
  rw [(h.nodup_iff.mpr (rl_nodup n)).idxOf_getElem]
theorem img_od {is : List Int} {n : Nat} {w : Int × List (Int × Int)} (h : is.Perm (rl n)) (hw : Od w n) : Od (w.1, sortP (img is w.2)) n := by
  obtain ⟨f, hf⟩ := hw.up
  refine ⟨⟨hw.o.sz, hw.o.le, fun p hp => ?_, by show (sortP (img is w.2)).length ≤ _; rw [sortP_len]; unfold img; rw [List.length_map]; exact hw.o.len⟩, ?_, fun x => f (is.idxOf x : Int), fun p hp => ?_⟩
  · obtain ⟨q, hq, rfl⟩ := List.mem_map.mp (sortP_mem.mp hp)
    obtain ⟨h1, h2⟩ := hw.o.ps q hq
    exact ⟨(is_mem h h1).1, (is_mem h h2).1⟩
  · refine (isort_perm leP (img is w.2)).nodup_iff.mpr ?_
    have inj : ∀ i ∈ rl n, ∀ j ∈ rl n, (is[i.toNat]?).getD 0 = (is[j.toNat]?).getD 0 → i = j := fun i hi j hj e => by
      have h1 := (is_mem h hi).2
      have h2 := (is_mem h hj).2
      rw [e] at h1
      exact h1.symm.trans h2
    unfold img
    refine List.pairwise_map.mpr (List.Pairwise.imp_of_mem (fun {p q} hp hq hne e => hne ?_) hw.nd)
    obtain ⟨p1, p2⟩ := hw.o.ps p hp
    obtain ⟨q1, q2⟩ := hw.o.ps q hq
    have e1 := congrArg Prod.fst e
    have e2 := congrArg Prod.snd e
    exact Prod.ext (inj _ p1 _ q1 e1) (inj _ p2 _ q2 e2)
  · obtain ⟨q, hq, rfl⟩ := List.mem_map.mp (sortP_mem.mp hp)
    obtain ⟨h1, h2⟩ := hw.o.ps q hq
    show f ((is.idxOf _ : Nat) : Int) < f ((is.idxOf _ : Nat) : Int)
    rw [(is_mem h h1).2, (is_mem h h2).2]
    exact hf q hq
theorem cat_ok {α : Type} {a b : List α} (h : a.length + b.length ≤ 1000000) : catM a b = some (a ++ b) := catM_eq h
end K30
set_option maxHeartbeats 2000000
/-! Drawn orders. -/
namespace K30
open PySem PySem.Spec L2 CC
open PyProof.Rows hiding St
/-- links that go up -/
def Ud (n : Nat) (p : Int × Int) : Prop := ∃ x y : Nat, p = ((x : Int), (y : Int)) ∧ x < y ∧ y < n
theorem emod_nat {z : Int} {m : Nat} (hm : 0 < m) : ∃ k : Nat, z % (m : Int) = (k : Int) ∧ k < m := by
  have h1 := Int.emod_nonneg z (b := (m : Int)) (by omega)
  have h2 := Int.emod_lt_of_pos z (b := (m : Int)) (by omega)
  exact ⟨(z % (m : Int)).toNat, by omega, by omega⟩
theorem rng3_up {lo hi c : Nat} (h1 : lo ≤ 1000) (h2 : hi ≤ 1000) (hc : 0 < c) (h3 : c ≤ 1000) : ∃ l, rng3 (lo : Int) (hi : Int) (c : Int) = some l ∧ (l.length ≤ hi ∧ l.Nodup) ∧ ∀ y ∈ l, ∃ k : Nat, y = (k : Int) ∧ lo ≤ k ∧ k < hi := by
  have hL : (LIM : Int) = 1000000 := rfl
  unfold rng3
  rw [if_pos (by rw [hL]; omega)]
  refine ⟨_, rfl, ⟨?_, ?_⟩, fun y hy => ?_⟩
  rotate_left
  · refine List.pairwise_map.mpr (List.Pairwise.imp (fun {i j} h e => h ?_) List.nodup_range)
    have e1 : (i : Int) * (c : Int) = (j : Int) * (c : Int) := by omega
    have := Int.eq_of_mul_eq_mul_right (show (c : Int) ≠ 0 by omega) e1
    omega
  rotate_left
  · rw [List.length_map, List.length_range]
    unfold Builtin.Range.rangeSize
    rw [if_pos (by omega)]
    split
    · have := Int.ediv_le_self (a := (hi : Int) - (lo : Int) - 1) (b := (c : Int)) (by omega)
      omega
    · omega
  · obtain ⟨i, hi', rfl⟩ := List.mem_map.mp hy
    have hi' := List.mem_range.mp hi'
    unfold Builtin.Range.rangeSize at hi'
    rw [if_pos (by omega)] at hi'
    split at hi'
    · have e0 : 0 ≤ ((hi : Int) - (lo : Int) - 1) / (c : Int) := Int.ediv_nonneg (by omega) (by omega)
      have e1 : (i : Int) ≤ ((hi : Int) - (lo : Int) - 1) / (c : Int) := by omega
      have e2 : (i : Int) * (c : Int) ≤ (hi : Int) - (lo : Int) - 1 := by
        have := Int.mul_le_mul_of_nonneg_right e1 (show (0 : Int) ≤ (c : Int) by omega)
        have h4 := Int.ediv_mul_le ((hi : Int) - (lo : Int) - 1) (show (c : Int) ≠ 0 by omega)
        omega
      have e3 : 0 ≤ (i : Int) * (c : Int) := Int.mul_nonneg (by omega) (by omega)
      exact ⟨((lo : Int) + (i : Int) * (c : Int)).toNat, by omega, by omega, by omega⟩
    · exact absurd hi' (by simp)
theorem large_ok {n : Nat} {s : Bg} (hn : n ≤ 64) (h : BI s) : Ok (M_law_large ((n : Int), ()) s) fun w => (Od w.1.1 n ∧ w.1.2.Perm (rl n)) ∧ BI w.2 := by
  unfold M_law_large
  simp only [bassoc, CC.sb, bind_id, bind_eta, rng_nat (n := n) (show n ≤ 1000000 by omega)]
  refine .bind (draw_nat (m := 8) (by omega) (by omega) h) fun w hw => ?_
  obtain ⟨⟨d, ed, hd⟩, hs⟩ := hw
  refine .bind (draw_nat (m := 2) (by omega) (by omega) hs) fun b hb => ?_
  obtain ⟨_, hs⟩ := hb
  rw [ed]
  refine .bind (foldR_ok (fun k (l : List (Int × Int)) => l.length ≤ k * 64 ∧ (∀ p ∈ l, Ud n p) ∧ l.Nodup ∧ ∀ p ∈ l, p.1 < (k : Int)) ⟨Nat.zero_le _, by simp, List.nodup_nil, by simp⟩ fun k l hk hl => ?_) fun l hl => ?_
  · have e1 : (1 : Int) + (d : Int) = ((d + 1 : Nat) : Int) := by omega
    rw [e1]
    have key : ∀ ys : List Int, ys.length ≤ n → ys.Nodup → (∀ y ∈ ys, ∃ j : Nat, y = (j : Int) ∧ k < j ∧ j < n) → Ok ((mapM (fun y => some ((k : Int), y)) ys).bind fun x => catM l x) fun l' => l'.length ≤ (k + 1) * 64 ∧ (∀ p ∈ l', Ud n p) ∧ l'.Nodup ∧ ∀ p ∈ l', p.1 < ((k + 1 : Nat) : Int) := fun ys h1 hnd h2 => by
      rw [mapM_is (g := fun y => ((k : Int), y)) (by omega) fun _ _ => rfl, CC.sb, catM_eq (by rw [List.length_map]; have := hl.1; omega)]
      refine .one ⟨by rw [List.length_append, List.length_map]; have := hl.1; omega, fun p hp => ?_, ?_, fun p hp => ?_⟩
      · rcases List.mem_append.mp hp with hp | hp
        · exact hl.2.1 p hp
        · obtain ⟨y, hy, rfl⟩ := List.mem_map.mp hp
          obtain ⟨j, rfl, hj0, hj⟩ := h2 y hy
          exact ⟨k, j, rfl, hj0, hj⟩
      · refine List.nodup_append.mpr ⟨hl.2.2.1, List.pairwise_map.mpr (hnd.imp fun {a b} h e => h (congrArg Prod.snd e)), fun a ha b hb e => ?_⟩
        obtain ⟨y, hy, rfl⟩ := List.mem_map.mp hb
        have := hl.2.2.2 a ha
        rw [e] at this
        have : (k : Int) < (k : Int) := this
        omega
      · rcases List.mem_append.mp hp with hp | hp
        · have := hl.2.2.2 p hp
          omega
        · obtain ⟨y, hy, rfl⟩ := List.mem_map.mp hp
          show (k : Int) < _
          omega
    refine .bif (fun _ => ?_) fun _ => ?_
    · obtain ⟨ys, e2, h1, h2⟩ := rng3_up (lo := k + (d + 1)) (hi := n) (c := d + 1) (by omega) (by omega) (by omega) (by omega)
      rw [show (k : Int) + ((d + 1 : Nat) : Int) = ((k + (d + 1) : Nat) : Int) by omega, e2, CC.sb]
      exact key ys h1.1 h1.2 fun y hy => by obtain ⟨j, e, hj0, hj⟩ := h2 y hy; exact ⟨j, e, by omega, hj⟩
    · rw [modO_eq (by omega), CC.sb]
      obtain ⟨j, ej, hj⟩ := emod_nat (z := (k : Int)) (m := d + 1) (by omega)
      rw [ej, show (k : Int) + ((d + 1 : Nat) : Int) - (j : Int) = ((k + (d + 1) - j : Nat) : Int) by omega, rng_lo (by omega) (by omega), CC.sb]
      refine key _ (by rw [rlo_len]; omega) (by unfold rlo; exact List.pairwise_map.mpr (List.Pairwise.imp (fun {a b} h e => h (by omega)) List.nodup_range)) fun y hy => ?_
      obtain ⟨i, hi, rfl⟩ := rlo_mem.mp hy
      exact ⟨_, rfl, by omega, by omega⟩
  · have hl1 : l.length ≤ 64 * 64 := Nat.le_trans hl.1 (Nat.mul_le_mul_right _ hn)
    refine .bind (turned_ok (by omega) hs) fun row hrow => ?_
    have o0 : Od ((n : Int), l) n := ⟨⟨rfl, hn, fun p hp => by
      obtain ⟨x, y, rfl, h1, h2⟩ := hl.2.1 p hp
      exact ⟨in_nat (by omega), in_nat h2⟩, by show l.length ≤ _; omega⟩, hl.2.2.1, fun x => x, fun p hp => by
      obtain ⟨x, y, rfl, h1, h2⟩ := hl.2.1 p hp
      show (x : Int) < (y : Int)
      omega⟩
    rw [renamed_ok o0.o hrow.1, CC.sb]
    exact .one ⟨⟨img_od hrow.1 o0, hrow.1⟩, hrow.2⟩
theorem order_ok {n t : Nat} {s : Bg} (hn : n ≤ 10) (ht : 0 < t) (ht2 : t < 1000) (h : BI s) : Ok (M_law_order ((n : Int), (t : Int), ()) s) fun w => (Od w.1.1 n ∧ w.1.2.Perm (rl n)) ∧ BI w.2 := by
  unfold M_law_order
  simp only [bassoc, CC.sb, bind_id, bind_eta, rng_nat (n := n) (show n ≤ 1000000 by omega)]
  refine .bind (turned_ok (by omega) h) fun row hrow => ?_
  obtain ⟨hN, hs⟩ := hrow
  have R := Rw.perm hN
  have inj : ∀ i j, i < n → j < n → rwv row.1 i = rwv row.1 j → i = j := fun i j hi hj e => by
    have nd : row.1.Nodup := hN.nodup_iff.mpr (rl_nodup n)
    have hl : row.1.length = n := by rw [hN.length_eq, rl_len]
    have a1 := (R.at hi).1
    have a2 := (R.at hj).1
    rw [CC.atI_nat (by omega)] at a1 a2
    have q : row.1[i]'(by omega) = row.1[j]'(by omega) := by rw [Option.some.inj a1, Option.some.inj a2, e]
    exact (List.getElem_inj nd).mp q
  -- what stands below the i-th of the row: some of those ahead, each once
  let Lw : Nat → List Int → Prop := fun i l => l.Nodup ∧ ∀ z ∈ l, ∃ k : Nat, k < i ∧ z = (rwv row.1 k : Int)
  have hlen : ∀ i l, i ≤ n → Lw i l → l.length ≤ i := fun i l hi h => by
    have := nodup_len (m := (List.range i).map fun k => (rwv row.1 k : Int)) h.1 fun z hz => by
      obtain ⟨k, hk, rfl⟩ := h.2 z hz
      exact List.mem_map.mpr ⟨k, List.mem_range.mpr hk, rfl⟩
    rwa [List.length_map, List.length_range] at this
  rw [mapM_is (g := fun _ => ([] : List Int)) (by rw [rl_len]; omega) fun _ _ => rfl, CC.sb]
  refine .bind (foldR_ok (fun j (w : Bg × List (List Int)) => BI w.1 ∧ w.2.length = n ∧ ∀ i, i < n → ∃ l, atI w.2 (rwv row.1 i : Int) = some l ∧ Lw i l) ⟨hs, by rw [List.length_map, rl_len], fun i hi => ⟨[], atI_nat? (by rw [List.getElem?_map, rl_get (R.at hi).2]; rfl), List.nodup_nil, by simp⟩⟩ fun j w hj hw => ?_) fun w hw => ?_
  · obtain ⟨w1, w2, w3⟩ := hw
    rw [rng_nat (n := j) (show j ≤ 1000000 by omega), CC.sb]
    refine .bind (foldR_ok (fun _ (u : Bg × List Int) => BI u.1 ∧ Lw j u.2) ⟨w1, List.nodup_nil, by simp⟩ fun k u hk hu => ?_) fun u hu => ?_
    · rw [show (j : Int) - 1 - (k : Int) = ((j - 1 - k : Nat) : Int) by omega, (R.at (x := j - 1 - k) (by omega)).1, CC.sb]
      obtain ⟨l, l1, l2⟩ := w3 (j - 1 - k) (by omega)
      refine .bind (P := fun q : Bool × Bg => BI q.2 ∧ (q.1 = true → (rwv row.1 (j - 1 - k) : Int) ∉ u.2)) (.bif (fun e => ?_) fun _ => .one ⟨hu.1, fun e => nomatch e⟩) fun q hq => ?_
      · refine .bind (draw_nat ht (by omega) hu.1) fun r hr => .one ⟨hr.2, fun _ => by simpa using e⟩
      · refine .bif (fun e => ?_) fun _ => .one ⟨hq.1, hu.2⟩
        have hx := hq.2 e
        have hl1 := hlen _ _ (by omega) l2
        have hl2 := hlen _ _ (by omega) hu.2
        rw [l1, CC.sb, catM_eq (by simp only [List.length_cons, List.length_nil]; omega), CC.sb, compM_eq (p := fun z => !decide (z ∈ u.2)) (g := fun z => z) (by simp only [List.length_append, List.length_cons, List.length_nil]; omega) (fun _ _ => rfl) fun _ _ _ => rfl, CC.sb, List.map_id']
        have hf := List.length_filter_le (fun z => !decide (z ∈ u.2)) ([(rwv row.1 (j - 1 - k) : Int)] ++ l)
        simp only [List.length_append, List.length_cons, List.length_nil] at hf
        rw [catM_eq (by omega), CC.sb]
        refine .one ⟨hq.1, ?_, fun z hz => ?_⟩
        · refine List.nodup_append.mpr ⟨hu.2.1, List.Pairwise.filter _ (?_ : List.Nodup ([(rwv row.1 (j - 1 - k) : Int)] ++ l)), fun a ha b hb e => ?_⟩
          · refine List.nodup_append.mpr ⟨List.nodup_cons.mpr ⟨List.not_mem_nil, List.nodup_nil⟩, l2.1, fun a ha b hb e => ?_⟩
            obtain ⟨i, hi, rfl⟩ := l2.2 b hb
            rw [List.mem_singleton.mp ha] at e
            have := inj (j - 1 - k) i (by omega) (by omega) (by omega)
            omega
          · have := (List.mem_filter.mp hb).2
            rw [← e] at this
            simp [ha] at this
        · rcases List.mem_append.mp hz with hz | hz
          · exact hu.2.2 z hz
          · rcases List.mem_append.mp (List.mem_filter.mp hz).1 with hz | hz
            · exact ⟨j - 1 - k, by omega, List.mem_singleton.mp hz⟩
            · obtain ⟨i, hi, e⟩ := l2.2 z hz
              exact ⟨i, by omega, e⟩
    · have hlt : rwv row.1 j < w.2.length := by rw [w2]; exact (R.at hj).2
      rw [(R.at hj).1, CC.sb, setAt_nat hlt, CC.sb]
      refine .one ⟨hu.1, by rw [List.length_set]; exact w2, fun i hi => ?_⟩
      by_cases e : i = j
      · subst e
        exact ⟨u.2, by rw [CC.atI_nat (k := rwv row.1 i) (by rw [List.length_set]; exact hlt), List.getElem_set_self], hu.2⟩
      · obtain ⟨l, l1, l2⟩ := w3 i hi
        refine ⟨l, ?_, l2⟩
        have hli : rwv row.1 i < w.2.length := by rw [w2]; exact (R.at hi).2
        rw [CC.atI_nat hli] at l1
        rw [CC.atI_nat (k := rwv row.1 i) (by rw [List.length_set]; exact hli), List.getElem_set_ne (fun q => e (inj i j hi hj q.symm))]
        exact l1
  · obtain ⟨w1, w2, w3⟩ := hw
    have ixr : ∀ c, c < n → (row.1.idxOf (rwv row.1 c : Int) : Int) = c := fun c hc => by
      have nd : row.1.Nodup := hN.nodup_iff.mpr (rl_nodup n)
      have hl : row.1.length = n := by rw [hN.length_eq, rl_len]
      have a1 := (R.at hc).1
      rw [CC.atI_nat (by omega)] at a1
      rw [← Option.some.inj a1]
      show ((row.1.idxOf row.1[c] : Nat) : Int) = c
      rw [nd.idxOf_getElem]
    refine .bind (foldR_ok (fun k (l : List (Int × Int)) => l.length ≤ k * 10 ∧ (∀ p ∈ l, ∃ c i, c < i ∧ i < n ∧ p = ((rwv row.1 c : Int), (rwv row.1 i : Int))) ∧ l.Nodup ∧ ∀ p ∈ l, p.2 < (k : Int)) ⟨Nat.zero_le _, by simp, List.nodup_nil, by simp⟩ fun k l hk hl => ?_) fun l hl => .one ⟨⟨⟨⟨rfl, by omega, fun p hm => ?_, ?_⟩, (isort_perm leP l).nodup_iff.mpr hl.2.2.1, fun x => (row.1.idxOf x : Int), fun p hm => ?_⟩, hN⟩, w1⟩
    · have hm : (k : Int) ∈ row.1 := hN.mem_iff.mpr (rl_mem.mpr ⟨k, hk, rfl⟩)
      obtain ⟨i, hi1, hi2⟩ := List.mem_iff_getElem.mp hm
      have hi : i < n := by rwa [hN.length_eq, rl_len] at hi1
      have ei := (R.at hi).1
      rw [CC.atI_nat hi1, hi2] at ei
      have ei := Option.some.inj ei
      obtain ⟨q, q1, q2⟩ := w3 i hi
      rw [← ei] at q1
      have hq := hlen _ _ (by omega) q2
      rw [q1, CC.sb, mapM_is (g := fun y => (y, (k : Int))) (by omega) fun _ _ => rfl, CC.sb, catM_eq (by rw [List.length_map]; have := hl.1; omega)]
      refine .one ⟨by rw [List.length_append, List.length_map]; have := hl.1; omega, fun p hp => ?_, ?_, fun p hp => ?_⟩
      · rcases List.mem_append.mp hp with hp | hp
        · exact hl.2.1 p hp
        · obtain ⟨y, hy, rfl⟩ := List.mem_map.mp hp
          obtain ⟨c, hc, rfl⟩ := q2.2 y hy
          exact ⟨c, i, hc, hi, by rw [← ei]⟩
      · refine List.nodup_append.mpr ⟨hl.2.2.1, List.pairwise_map.mpr (q2.1.imp fun {a b} h e => h (congrArg Prod.fst e)), fun a ha b hb e => ?_⟩
        obtain ⟨y, hy, rfl⟩ := List.mem_map.mp hb
        have := hl.2.2.2 a ha
        rw [e] at this
        have : (k : Int) < (k : Int) := this
        omega
      · rcases List.mem_append.mp hp with hp | hp
        · have := hl.2.2.2 p hp
          omega
        · obtain ⟨y, hy, rfl⟩ := List.mem_map.mp hp
          show (k : Int) < _
          omega
    · obtain ⟨c, i, h1, h2, rfl⟩ := hl.2.1 p (sortP_mem.mp hm)
      exact ⟨in_nat (R.at (by omega)).2, in_nat (R.at h2).2⟩
    · show (sortP l).length ≤ _
      rw [sortP_len]
      have := hl.1
      omega
    · obtain ⟨c, i, h1, h2, rfl⟩ := hl.2.1 p (sortP_mem.mp hm)
      show (row.1.idxOf (rwv row.1 c : Int) : Int) < (row.1.idxOf (rwv row.1 i : Int) : Int)
      rw [ixr c (by omega), ixr i h2]
      omega
end K30
set_option maxHeartbeats 4000000
/-! The values that are tried. -/
namespace K30
open PySem PySem.Spec L2 CC
open PyProof.Rows hiding St
def Nb (v : PV) : Prop := ∀ b, v ≠ .bl b
theorem nb_tup {xs : List PV} (h : xs.length ≤ 100000) (k : ∀ x ∈ xs, Nb x) : NB (.tup xs) := fun ys e => by
  cases e
  exact ⟨h, k⟩
theorem nb_ints {l : List Int} (h : l.length ≤ 100000) : NB (.tup (l.map PV.int)) := nb_tup (by rw [List.length_map]; exact h) fun x hx => by
  obtain ⟨i, _, rfl⟩ := List.mem_map.mp hx
  exact fun b z => by cases z
theorem nb_non : NB .non := fun xs z => by cases z
theorem nb_int (i : Int) : NB (.int i) := fun xs z => by cases z
theorem nb_str (i : Str) : NB (.str i) := fun xs z => by cases z
theorem Nb.int (i : Int) : Nb (.int i) := fun xs z => by cases z
theorem Nb.str (i : Str) : Nb (.str i) := fun xs z => by cases z
theorem Nb.tup (i : List PV) : Nb (.tup i) := fun xs z => by cases z
theorem Nb.non : Nb .non := fun xs z => by cases z
theorem rep_ok {α : Type} {xs : List α} {k : Nat} (h : xs.length * k ≤ 1000000) (hk : k ≤ 1000000) : repM xs (k : Int) = some (List.replicate k xs).flatten := by
  unfold repM
  rw [if_pos ⟨by rw [Int.toNat_natCast]; exact h, by omega, by omega⟩, Int.toNat_natCast]
theorem rep_mem {α : Type} {xs : List α} {k : Nat} {x : α} (h : x ∈ (List.replicate k xs).flatten) : x ∈ xs := by
  obtain ⟨l, h1, h2⟩ := List.mem_flatten.mp h
  rw [(List.mem_replicate.mp h1).2] at h2
  exact h2
theorem rep_len {α : Type} {xs : List α} {k : Nat} : (List.replicate k xs).flatten.length = k * xs.length := by
  induction k with
  | zero => simp
  | succ k ih =>
    rw [List.replicate_succ, List.flatten_cons, List.length_append, ih, Nat.add_mul, Nat.one_mul, Nat.add_comm]
theorem cut_len {α : Type} {xs : List α} {a b : Option Int} : (cutL xs a b).length ≤ xs.length := by
  unfold cutL
  rw [List.length_take, List.length_drop]
  omega
theorem strI_ok {i : Int} (h0 : 0 ≤ i) (h1 : i < 64) : ∃ z, strI i = some z := by
  unfold strI
  refine ⟨_, if_pos ?_⟩
  have : i.natAbs < 2 ^ 1920 := Nat.lt_of_lt_of_le (show i.natAbs < 2 ^ 6 by omega) (Nat.pow_le_pow_right (by omega) (by omega))
  by_cases z : i.natAbs = 0
  · rw [z]
    decide
  · exact (Nat.log2_lt z).mpr this
theorem pow_some : ∃ z, powO (10 : Int) (59 : Int) = some z := ⟨_, if_pos (by decide)⟩
theorem values_ok {n : Nat} {row : List Int} {s : Bg} (hn : n ≤ 64) (hr : row.Perm (rl n)) (h : BI s) : Ok (M_law_values (row, ()) s) fun w => (∀ v ∈ w.1, NB v) ∧ BI w.2 := by
  have hl : row.length = n := by rw [hr.length_eq, rl_len]
  have hv : ∀ x ∈ row, 0 ≤ x ∧ x < 64 := fun x hx => by
    obtain ⟨k, hk, rfl⟩ := rl_mem.mp (hr.mem_iff.mp hx)
    omega
  unfold M_law_values
  refine .bind (P := fun d : PV => NB d ∧ Nb d) ?_ fun d ⟨d1, d2⟩ => ?_
  · rw [show rng 0 (9 : Int) = some (rl 9) from rng_nat (n := 9) (by decide), CC.sb]
    refine fold_ok (fun _ d => NB d ∧ Nb d) ⟨nb_ints (by show row.length ≤ _; omega), Nb.tup _⟩ fun pre x d _ ⟨d1, d2⟩ => .one ⟨nb_tup (by simp) fun y hy => ?_, Nb.tup _⟩
    obtain ⟨z, hz, rfl⟩ := List.mem_map.mp hy
    rw [List.mem_singleton.mp hz]
    exact d2
  refine .bind (P := fun l : List PV => (∀ v ∈ l, NB v) ∧ l.length ≤ 11) ?_ fun l1 ⟨a1, a2⟩ => ?_
  · have e1 : rng 0 (row.length : Int) = some (rl row.length) := rng_nat (by show row.length ≤ 1000000; omega)
    have e2 : catM row [(row.length : Int)] = some (row ++ [(row.length : Int)]) := catM_eq (by show row.length + 1 ≤ _; omega)
    have lc := cut_len (xs := row) (a := none) (b := some (1 : Int))
    have lc2 := cut_len (xs := row) (a := some (1 : Int)) (b := none)
    have e3 : catM row (cutL row none (some (1 : Int))) = some (row ++ cutL row none (some (1 : Int))) := catM_eq (by omega)
    have e4 : repM [()] (row.length : Int) = some (List.replicate row.length [()]).flatten := rep_ok (by show 1 * row.length ≤ _; omega) (by omega)
    simp only [e1, e2, e3, e4, bassoc, CC.sb]
    refine .one ⟨?_, by simp⟩
    refine List.forall_mem_cons.mpr ⟨nb_ints (by omega), List.forall_mem_cons.mpr ⟨nb_ints (by rw [rl_len]; omega), List.forall_mem_cons.mpr ⟨nb_ints (by omega), List.forall_mem_cons.mpr ⟨nb_ints (by rw [List.length_append]; show row.length + 1 ≤ _; omega), List.forall_mem_cons.mpr ⟨nb_ints (by rw [List.length_append]; omega), List.forall_mem_cons.mpr ⟨nb_tup (by simp) (fun y hy => ?_), List.forall_mem_cons.mpr ⟨nb_non, List.forall_mem_cons.mpr ⟨nb_int _, List.forall_mem_cons.mpr ⟨nb_str _, List.forall_mem_cons.mpr ⟨nb_tup (by simp) (fun y hy => ?_), List.forall_mem_cons.mpr ⟨nb_tup ?_ (fun y hy => ?_), fun _ h => (List.not_mem_nil h).elim⟩⟩⟩⟩⟩⟩⟩⟩⟩⟩⟩
    · simp at hy
    · obtain ⟨z, hz, rfl⟩ := List.mem_map.mp hy
      exact Nb.tup _
    · rw [List.length_map, rep_len]
      show row.length * 1 ≤ _
      omega
    · obtain ⟨z, hz, rfl⟩ := List.mem_map.mp hy
      exact Nb.non
  refine .bind (P := fun l : List PV => (∀ v ∈ l, NB v) ∧ l.length ≤ 16) ?_ fun l2 ⟨b1, b2⟩ => ?_
  · have e1 : repM [d] (row.length : Int) = some (List.replicate row.length [d]).flatten := rep_ok (by show 1 * row.length ≤ _; omega) (by omega)
    have e2 : repM [(Str.ofString "0")] (row.length : Int) = some (List.replicate row.length [(Str.ofString "0")]).flatten := rep_ok (by show 1 * row.length ≤ _; omega) (by omega)
    have e3 : repM row (300 : Int) = some (List.replicate 300 row).flatten := rep_ok (k := 300) (by omega) (by omega)
    have e4 : repM [(0 : Int)] (9000 : Int) = some (List.replicate 9000 [(0 : Int)]).flatten := rep_ok (k := 9000) (by show 1 * 9000 ≤ _; omega) (by omega)
    simp only [e1, e2, e3, e4, bassoc, CC.sb]
    rw [catM_eq (by simp only [List.length_cons, List.length_nil]; omega)]
    refine .one ⟨fun v hv' => ?_, by rw [List.length_append]; simp only [List.length_cons, List.length_nil]; omega⟩
    rcases List.mem_append.mp hv' with z | z
    · exact a1 v z
    · revert v
      refine fun v hv' z => (List.forall_mem_cons (p := NB)).mpr ⟨nb_tup (by simp) (fun y hy => ?_), (List.forall_mem_cons (p := NB)).mpr ⟨nb_tup ?_ (fun y hy => ?_), (List.forall_mem_cons (p := NB)).mpr ⟨nb_tup ?_ (fun y hy => ?_), (List.forall_mem_cons (p := NB)).mpr ⟨nb_ints ?_, (List.forall_mem_cons (p := NB)).mpr ⟨nb_ints ?_, fun _ h => (List.not_mem_nil h).elim⟩⟩⟩⟩⟩ v z
      · obtain ⟨w, hw, rfl⟩ := List.mem_map.mp hy
        rw [List.mem_singleton.mp hw]
        exact d2
      · rw [List.length_map, rep_len]
        show row.length * 1 ≤ _
        omega
      · obtain ⟨w, hw, rfl⟩ := List.mem_map.mp hy
        rw [List.mem_singleton.mp (rep_mem hw)]
        exact d2
      · rw [List.length_map, rep_len]
        show row.length * 1 ≤ _
        omega
      · obtain ⟨w, hw, rfl⟩ := List.mem_map.mp hy
        exact Nb.str _
      · rw [rep_len]
        omega
      · rw [rep_len]
        show 9000 * 1 ≤ _
        omega
  refine .bind (P := fun w : Bg × List PV => BI w.1 ∧ ∀ v ∈ w.2, NB v) (.bif (fun e => ?_) fun _ => .one ⟨h, b1⟩) fun w hw => .one ⟨hw.2, hw.1⟩
  have e : (0 : Int) < (row.length : Int) := of_decide_eq_true e
  refine .bind (P := fun w : Int × Bg => (0 ≤ w.1 ∧ w.1 < (row.length : Int)) ∧ BI w.2) (.bind (draw_ok (m := (row.length : Int)) e (by omega) h) fun w hw => .one hw) fun i ⟨⟨i0, i1⟩, hi⟩ => ?_
  refine .bind (P := fun w : Int × Bg => (0 ≤ w.1 ∧ w.1 < (row.length : Int)) ∧ BI w.2) (.bind (draw_ok (m := (row.length : Int)) e (by omega) hi) fun w hw => .one hw) fun k ⟨⟨k0, k1⟩, hk⟩ => ?_
  obtain ⟨x, hx, hxm⟩ := atI_mem (xs := row) i0 i1
  obtain ⟨y, hy, hym⟩ := atI_mem (xs := row) k0 k1
  have c1 := cut_len (xs := row) (a := none) (b := some i.1)
  have c2 := cut_len (xs := row) (a := some (i.1 + (1 : Int))) (b := none)
  refine .bind (P := fun l : List PV => (∀ v ∈ l, NB v) ∧ l.length ≤ 17) ?_ fun l3 ⟨f1, f2⟩ => ?_
  · show Ok (Option.bind (Option.bind (Option.bind (Option.bind (Option.bind (Option.bind (atI row k.1) _) _) _) _) _) _) _
    rw [hy]
    simp only [bassoc, CC.sb]
    rw [catM_eq (by show _ + 1 ≤ _; omega), CC.sb, catM_eq (by rw [List.length_append]; show _ + 1 + _ ≤ _; omega), CC.sb, appM_eq (by omega)]
    refine .one ⟨fun v hv' => ?_, by rw [List.length_append, List.length_singleton]; omega⟩
    rcases List.mem_append.mp hv' with z | z
    · exact b1 v z
    · rw [List.mem_singleton.mp z]
      refine nb_ints ?_
      rw [List.length_append, List.length_append]
      show _ + 1 + _ ≤ _
      omega
  refine .bind (P := fun l : List PV => (∀ v ∈ l, Nb v) ∧ l.length ≤ 10) ?_ fun odd ⟨o1, o2⟩ => ?_
  · obtain ⟨p, hp⟩ := pow_some
    obtain ⟨z, hz⟩ := strI_ok (hv x hxm).1 (hv x hxm).2
    dsimp only
    simp only [hp, hx, hz, bassoc, CC.sb]
    refine .one ⟨?_, by simp⟩
    exact List.forall_mem_cons.mpr ⟨Nb.int _, List.forall_mem_cons.mpr ⟨Nb.int _, List.forall_mem_cons.mpr ⟨Nb.int _, List.forall_mem_cons.mpr ⟨Nb.int _, List.forall_mem_cons.mpr ⟨Nb.non, List.forall_mem_cons.mpr ⟨Nb.str _, List.forall_mem_cons.mpr ⟨Nb.tup _, List.forall_mem_cons.mpr ⟨Nb.tup _, List.forall_mem_cons.mpr ⟨Nb.int _, List.forall_mem_cons.mpr ⟨Nb.int _, fun _ h => (List.not_mem_nil h).elim⟩⟩⟩⟩⟩⟩⟩⟩⟩⟩
  refine .bind (P := fun l : List PV => (∀ v ∈ l, NB v) ∧ l.length ≤ 27) ?_ fun l4 ⟨g1, g2⟩ => ?_
  · let G : PV → PV := fun u => PV.tup (((List.map (fun z => PV.int z) (cutL row none (some i.1)) ++ [u]) ++ List.map (fun z => PV.int z) (cutL row (some (i.1 + (1 : Int))) none)).map fun u575 => u575)
    have e5 : mapM (fun x572 => ((catM (List.map (fun z => PV.int z) (cutL row none (some i.1))) [x572]).bind fun x573 => catM x573 (List.map (fun z => PV.int z) (cutL row (some (i.1 + (1 : Int))) none))).bind fun x574 => some (PV.tup (x574.map (fun u575 => u575)))) odd = some (odd.map G) := by
      refine mapM_is (by omega) fun u hu => ?_
      rw [catM_eq (by rw [List.length_map]; show _ + 1 ≤ _; omega), CC.sb, catM_eq (by rw [List.length_append, List.length_map, List.length_map]; show _ + 1 + _ ≤ _; omega), CC.sb]
    show Ok (Option.bind (mapM (fun x572 => ((catM (List.map (fun z => PV.int z) (cutL row none (some i.1))) [x572]).bind fun x573 => catM x573 (List.map (fun z => PV.int z) (cutL row (some (i.1 + (1 : Int))) none))).bind fun x574 => some (PV.tup (x574.map (fun u575 => u575)))) odd) _) _
    rw [e5, CC.sb, catM_eq (by rw [List.length_map]; omega)]
    refine .one ⟨fun v hv' => ?_, by rw [List.length_append, List.length_map]; omega⟩
    rcases List.mem_append.mp hv' with z | z
    · exact f1 v z
    · obtain ⟨u, hu, rfl⟩ := List.mem_map.mp z
      refine nb_tup ?_ fun q hq => ?_
      · rw [List.length_map, List.length_append, List.length_append, List.length_map, List.length_map]
        show _ + 1 + _ ≤ _
        omega
      · obtain ⟨q', hq', rfl⟩ := List.mem_map.mp hq
        rcases List.mem_append.mp hq' with y' | y'
        · rcases List.mem_append.mp y' with y' | y'
          · obtain ⟨j, _, rfl⟩ := List.mem_map.mp y'
            exact Nb.int _
          · rw [List.mem_singleton.mp y']
            exact o1 u hu
        · obtain ⟨j, _, rfl⟩ := List.mem_map.mp y'
          exact Nb.int _
  show Ok (Option.bind (Option.bind (atI row k.1) _) _) _
  rw [hy, CC.sb]
  obtain ⟨ki, eki⟩ := Int.eq_ofNat_of_zero_le i0
  obtain ⟨kk, ekk⟩ := Int.eq_ofNat_of_zero_le k0
  show Ok (Option.bind (setAt row i.1 y) _) _
  rw [eki, setAt_nat (by omega), CC.sb]
  have hx' : atI row (ki : Int) = some x := by rw [← eki]; exact hx
  show Ok (Option.bind (Option.bind (atI row (ki : Int)) _) _) _
  rw [hx', CC.sb]
  show Ok (Option.bind (setAt _ k.1 x) _) _
  rw [ekk, setAt_nat (by rw [List.length_set]; omega), CC.sb, appM_eq (by omega), CC.sb]
  refine .one ⟨hk, fun v hv' => ?_⟩
  rcases List.mem_append.mp hv' with z | z
  · exact g1 v z
  · rw [List.mem_singleton.mp z]
    refine nb_ints ?_
    rw [List.length_set, List.length_set]
    omega
end K30
set_option maxHeartbeats 2000000
/-! Changed orders. -/
namespace K30
open PySem PySem.Spec L2 CC
open PyProof.Rows hiding St
theorem getP_put {s : List ((Int × Int) × Bool)} {k j : Int × Int} (h : (getM (putM s k true) j).isSome = true) : j = k ∨ (getM s j).isSome = true := by
  have hr : ∀ s : List ((Int × Int) × Bool), (getM (putR s k true) j).isSome = (getM s j).isSome := fun s => by
    induction s with
    | nil => rfl
    | cons q s ih =>
      show (getM ((if q.1 = k then (q.1, true) else q) :: putR s k true) j).isSome = _
      unfold getM
      have e : (if q.1 = k then (q.1, true) else q).1 = q.1 := by split <;> rfl
      rw [e]
      by_cases z : q.1 = j
      · rw [if_pos z, if_pos z]
        rfl
      · rw [if_neg z, if_neg z]
        exact ih
  have hs : ∀ s : List ((Int × Int) × Bool), (getM (s ++ [(k, true)]) j).isSome = true → j = k ∨ (getM s j).isSome = true := fun s => by
    induction s with
    | nil =>
      intro h
      by_cases z : k = j
      · exact .inl z.symm
      · have : getM ([] ++ [(k, true)]) j = none := by
          show (if k = j then some true else none) = none
          rw [if_neg z]
        rw [this] at h
        cases h
    | cons q s ih =>
      intro h
      have h : (if q.1 = j then some q.2 else getM (s ++ [(k, true)]) j).isSome = true := h
      by_cases z : q.1 = j
      · right
        show (if q.1 = j then some q.2 else getM s j).isSome = true
        rw [if_pos z]
        rfl
      · rw [if_neg z] at h
        rcases ih h with q' | q'
        · exact .inl q'
        · right
          show (if q.1 = j then some q.2 else getM s j).isSome = true
          rw [if_neg z]
          exact q'
  unfold putM at h
  split at h
  · rw [hr] at h
    exact .inr h
  · exact hs s h
theorem marked_ok {ps : List (Int × Int)} (h : ps.length ≤ 20000) : Ok (M_law_marked (ps, ())) fun s => ∀ k, (getM s k).isSome = true → k ∈ ps := by
  unfold M_law_marked
  refine .bind (foldG_ok (Inv := fun j (s : List ((Int × Int) × Bool)) => s.length ≤ j ∧ ∀ k, (getM s k).isSome = true → k ∈ ps) ps 0 (s := []) ⟨Nat.le_refl _, fun k z => by cases z⟩ fun j x s hj ⟨h1, h2⟩ => ?_) fun s hs => .one hs.2
  have hjl := (List.getElem?_eq_some_iff.mp hj).1
  unfold putMO
  rw [if_pos (show s.length < LIM by show s.length < 1000000; omega), CC.sb]
  refine .one ⟨Nat.le_trans (putM_len s x true) (by omega), fun k hk => ?_⟩
  rcases getP_put hk with z | z
  · rw [z]
    exact List.mem_of_getElem? hj
  · exact h2 k z
theorem one_ok {xs : List (Int × Int)} {s : Bg} (h0 : 0 < xs.length) (h1 : xs.length ≤ 1000000) (h : BI s) : Ok (M_law_one (xs, ()) s) fun r => r.1 ∈ xs ∧ BI r.2 := by
  unfold M_law_one
  simp only [bassoc, CC.sb]
  exact .bind (draw_ok (by omega) (by show (xs.length : Int) < _; omega) h) fun r hr => .bind (atI_mem hr.1.1 hr.1.2) fun x hx => .one ⟨hx, hr.2⟩
theorem one1_ok {xs : List Int} {s : Bg} (h0 : 0 < xs.length) (h1 : xs.length ≤ 1000000) (h : BI s) : Ok (M_law_one_1 (xs, ()) s) fun r => r.1 ∈ xs ∧ BI r.2 := by
  unfold M_law_one_1
  simp only [bassoc, CC.sb]
  exact .bind (draw_ok (by omega) (by show (xs.length : Int) < _; omega) h) fun r hr => .bind (atI_mem hr.1.1 hr.1.2) fun x hx => .one ⟨hx, hr.2⟩
theorem one2_eq : M_law_one_2 = M_law_one := rfl
theorem least_of {f : Int → Int} : ∀ {l : List Int}, l ≠ [] → ∃ y ∈ l, ∀ z ∈ l, f y ≤ f z
  | [x], _ => ⟨x, List.mem_cons_self, fun z hz => by rw [List.mem_singleton.mp hz]; exact Int.le_refl _⟩
  | x :: y :: l, _ => by
    obtain ⟨m, hm, h⟩ := least_of (f := f) (l := y :: l) (List.cons_ne_nil _ _)
    by_cases e : f x ≤ f m
    · refine ⟨x, List.mem_cons_self, fun z hz => ?_⟩
      rcases List.mem_cons.mp hz with q | q
      · rw [q]; exact Int.le_refl _
      · have := h z q
        omega
    · refine ⟨m, List.mem_cons_of_mem _ hm, fun z hz => ?_⟩
      rcases List.mem_cons.mp hz with q | q
      · rw [q]; omega
      · exact h z q
theorem cover_ok {w : Int × List (Int × Int)} {n : Nat} {s : Bg} (hw : Od w n) (hne : w.2 ≠ []) (h : BI s) : Ok (M_law_one_cover (w, ()) s) fun r => BI r.2 := by
  have hlen := hw.o.len
  unfold M_law_one_cover
  refine .bind (marked_ok hlen) fun mk hmk => ?_
  refine .bind (P := fun q : Int × Bg => (∃ p ∈ w.2, p.1 = q.1) ∧ BI q.2) ?_ fun q ⟨⟨p, hp, ep⟩, hq⟩ => ?_
  · simp only [bassoc, CC.sb]
    exact .bind (one_ok (xs := w.2) (List.length_pos_iff.mpr hne) (by omega) h) fun r hr => .one ⟨⟨r.1, hr.1, rfl⟩, hr.2⟩
  have e1 : compM (fun x686 : Int × Int => some (decide (x686.1 = q.1))) (fun x686 => some x686.2) w.2 = some ((w.2.filter fun x => decide (x.1 = q.1)).map (·.2)) := compM_eq (by omega) (fun _ _ => rfl) fun _ _ _ => rfl
  show Ok (Option.bind (compM (fun x686 : Int × Int => some (decide (x686.1 = q.1))) (fun x686 => some x686.2) w.2) _) _
  rw [e1, CC.sb]
  have hin : p.2 ∈ (w.2.filter fun x => decide (x.1 = q.1)).map (·.2) := List.mem_map.mpr ⟨p, List.mem_filter.mpr ⟨hp, decide_eq_true ep⟩, rfl⟩
  have hll : ((w.2.filter fun x => decide (x.1 = q.1)).map (·.2)).length ≤ 20000 := by
    rw [List.length_map]
    exact Nat.le_trans (List.length_filter_le _ _) hlen
  generalize (w.2.filter fun x => decide (x.1 = q.1)).map (·.2) = l at hin hll
  have e2 : compM (fun x688 => ((compM (fun x689 => some ((getM mk (x689, x688)).isSome)) (fun x689 => some x689) l).bind fun x690 => some (PV.lst (x690.map PV.int))).bind fun x693 => eqP x693 (PV.lst ([].map PV.int))) (fun x688 => some x688) l = some (l.filter fun y => (l.filter fun z => (getM mk (z, y)).isSome).isEmpty) := by
    rw [compM_eq (p := fun y => (l.filter fun z => (getM mk (z, y)).isSome).isEmpty) (g := fun z => z) (by omega) (fun y hy => ?_) fun _ _ _ => rfl, List.map_id']
    rw [compM_eq (p := fun z => (getM mk (z, y)).isSome) (g := fun z => z) (by omega) (fun _ _ => rfl) fun _ _ _ => rfl, List.map_id', CC.sb, CC.sb]
    refine (eqP_lst0 (d := 0) (fun x hx => ?_) (by omega)).trans ?_
    · obtain ⟨i, _, rfl⟩ := List.mem_map.mp hx
      exact sm_int 0 _
    · cases l.filter fun z => (getM mk (z, y)).isSome <;> rfl
  show Ok (Option.bind (compM (fun x688 => ((compM (fun x689 => some ((getM mk (x689, x688)).isSome)) (fun x689 => some x689) l).bind fun x690 => some (PV.lst (x690.map PV.int))).bind fun x693 => eqP x693 (PV.lst ([].map PV.int))) (fun x688 => some x688) l) _) _
  rw [e2, CC.sb]
  obtain ⟨f, hf⟩ := hw.up
  obtain ⟨y, hy, hmin⟩ := least_of (f := f) (l := l) (List.ne_nil_of_mem hin)
  have hpos : 0 < (l.filter fun y => (l.filter fun z => (getM mk (z, y)).isSome).isEmpty).length := List.length_pos_of_mem (a := y) (List.mem_filter.mpr ⟨hy, by
    rw [List.isEmpty_iff, List.filter_eq_nil_iff]
    intro z hz hs
    have := hf _ (hmk (z, y) hs)
    have h2 := hmin z hz
    have h3 : f z < f y := this
    omega⟩)
  have hle : (l.filter fun y => (l.filter fun z => (getM mk (z, y)).isSome).isEmpty).length ≤ l.length := List.length_filter_le _ _
  simp only [bassoc, CC.sb]
  exact .bind (one1_ok hpos (by omega) hq) fun r hr => .one hr.2
theorem filt_ord {w : Int × List (Int × Int)} {n : Nat} {p : Int × Int → Bool} (hw : OrO w n) : OrO (w.1, w.2.filter p) n := ⟨hw.sz, hw.le, fun q hq => hw.ps q (List.mem_filter.mp hq).1, Nat.le_trans (List.length_filter_le _ _) hw.len⟩
theorem without_ok {w : Int × List (Int × Int)} {n : Nat} {p : Int × Int} (hw : OrO w n) : Ok (M_law_without (w, (p, ()))) fun g => OrO g n := by
  unfold M_law_without
  have hlen := hw.len
  have e : compM (fun x713 : Int × Int => neP (PV.tup [PV.int x713.1, PV.int x713.2]) (PV.tup [PV.int p.1, PV.int p.2])) (fun x713 => some x713) w.2 = some (w.2.filter fun x => !(decide (x.1 = p.1) && decide (x.2 = p.2))) := by
    rw [compM_eq (p := fun x => !(decide (x.1 = p.1) && decide (x.2 = p.2))) (g := fun z => z) (by omega) (fun x _ => ?_) fun _ _ _ => rfl, List.map_id']
    unfold neP
    rw [eqP_prs]
    rfl
  show Ok (Option.bind (Option.bind (Option.bind (Option.bind (compM (fun x713 : Int × Int => neP (PV.tup [PV.int x713.1, PV.int x713.2]) (PV.tup [PV.int p.1, PV.int p.2])) (fun x713 => some x713) w.2) _) _) _) _) _
  rw [e]
  exact .one (filt_ord hw)
theorem loose_ok {w : Int × List (Int × Int)} {n : Nat} (hw : OrO w n) : Ok (M_law_loose (w, ())) fun l => l.length ≤ n * n ∧ ∀ p ∈ l, p.1 ∈ rl n ∧ p.2 ∈ rl n := by
  have hlen := hw.len
  have hn := hw.le
  unfold M_law_loose
  refine .bind (marked_ok hlen) fun mk _ => ?_
  show Ok (Option.bind (Option.bind (rng 0 w.1) _) _) _
  rw [hw.sz, rng_nat (show n ≤ 1000000 by omega), CC.sb]
  refine .bind (foldR_ok (fun k (l : List (Int × Int)) => l.length ≤ k * n ∧ ∀ p ∈ l, p.1 ∈ rl n ∧ p.2 ∈ rl n) ⟨Nat.zero_le _, fun _ h => (List.not_mem_nil h).elim⟩ fun k l hk ⟨h1, h2⟩ => ?_) fun l hl => .one hl
  rw [CC.sb]
  have e : compM (fun x769 => bif !decide ((k : Int) = x769) then bif !(getM mk ((k : Int), x769)).isSome then some (!(getM mk (x769, (k : Int))).isSome) else some false else some false) (fun x769 => some ((k : Int), x769)) (rl n) = some (((rl n).filter fun y => !decide ((k : Int) = y) && (!(getM mk ((k : Int), y)).isSome && !(getM mk (y, (k : Int))).isSome)).map fun y => ((k : Int), y)) := by
    refine compM_eq (by rw [rl_len]; omega) (fun y _ => ?_) fun _ _ _ => rfl
    cases decide ((k : Int) = y) <;> cases (getM mk ((k : Int), y)).isSome <;> rfl
  show Ok (Option.bind (Option.bind (compM (fun x769 => bif !decide ((k : Int) = x769) then bif !(getM mk ((k : Int), x769)).isSome then some (!(getM mk (x769, (k : Int))).isSome) else some false else some false) (fun x769 => some ((k : Int), x769)) (rl n)) _) _) _
  have hf := List.length_filter_le (fun y => !decide ((k : Int) = y) && (!(getM mk ((k : Int), y)).isSome && !(getM mk (y, (k : Int))).isSome)) (rl n)
  rw [rl_len] at hf
  have hkn : k * n ≤ 64 * 64 := Nat.mul_le_mul (by omega) hn
  rw [e, CC.sb, catM_eq (by rw [List.length_map]; omega), CC.sb]
  refine .one ⟨by rw [List.length_append, List.length_map, Nat.add_mul, Nat.one_mul]; omega, fun p hp => ?_⟩
  rcases List.mem_append.mp hp with z | z
  · exact h2 p z
  · obtain ⟨y, hy, rfl⟩ := List.mem_map.mp z
    exact ⟨in_nat hk, (List.mem_filter.mp hy).1⟩
theorem linked_ok {w : Int × List (Int × Int)} {n : Nat} {x y : Int} (hd : Od w n) (hx : x ∈ rl n) (hy : y ∈ rl n) : Ok (M_law_linked (w, (x, (y, ())))) fun g => OrO g n := by
  have hw := hd.o
  have hn := hw.le
  have hlen : w.2.length ≤ n * n := by
    have := nodup_len (m := (rl n).flatMap fun a => (rl n).map fun b => (a, b)) hd.nd fun p hp => by
      obtain ⟨h1, h2⟩ := hw.ps p hp
      exact List.mem_flatMap.mpr ⟨p.1, h1, List.mem_map.mpr ⟨p.2, h2, rfl⟩⟩
    refine Nat.le_trans this (Nat.le_trans (flat_le (c := n) fun a _ => ?_) ?_)
    · rw [List.length_map, rl_len]
      exact Nat.le_refl _
    · rw [rl_len]
      exact Nat.le_refl _
  have hnn : n * n ≤ 64 * 64 := Nat.mul_le_mul hn hn
  unfold M_law_linked
  have l1 : ((w.2.filter fun q => decide (q.2 = x)).map (·.1)).length ≤ n := by
    have := nodup_len (l := (w.2.filter fun q => decide (q.2 = x)).map (·.1)) (m := rl n) (List.pairwise_map.mpr (List.Pairwise.imp_of_mem (fun {a b} ha hb hne e => hne (Prod.ext e ((of_decide_eq_true (List.mem_filter.mp ha).2).trans (of_decide_eq_true (List.mem_filter.mp hb).2).symm))) (hd.nd.filter _))) fun a ha => by
      obtain ⟨q, hq, rfl⟩ := List.mem_map.mp ha
      exact (hw.ps q (List.mem_filter.mp hq).1).1
    rwa [rl_len] at this
  have l2 : ((w.2.filter fun q => decide (q.1 = y)).map (·.2)).length ≤ n := by
    have := nodup_len (l := (w.2.filter fun q => decide (q.1 = y)).map (·.2)) (m := rl n) (List.pairwise_map.mpr (List.Pairwise.imp_of_mem (fun {a b} ha hb hne e => hne (Prod.ext ((of_decide_eq_true (List.mem_filter.mp ha).2).trans (of_decide_eq_true (List.mem_filter.mp hb).2).symm) e)) (hd.nd.filter _))) fun a ha => by
      obtain ⟨q, hq, rfl⟩ := List.mem_map.mp ha
      exact (hw.ps q (List.mem_filter.mp hq).1).2
    rwa [rl_len] at this
  have e1 : compM (fun x787 : Int × Int => some (decide (x787.2 = x))) (fun x787 => some x787.1) w.2 = some ((w.2.filter fun q => decide (q.2 = x)).map (·.1)) := compM_eq (by omega) (fun _ _ => rfl) fun _ _ _ => rfl
  have e2 : compM (fun x791 : Int × Int => some (decide (x791.1 = y))) (fun x791 => some x791.2) w.2 = some ((w.2.filter fun q => decide (q.1 = y)).map (·.2)) := compM_eq (by omega) (fun _ _ => rfl) fun _ _ _ => rfl
  have m1 : ∀ a ∈ (w.2.filter fun q => decide (q.2 = x)).map (·.1), a ∈ rl n := fun a ha => by
    obtain ⟨q, hq, rfl⟩ := List.mem_map.mp ha
    exact (hw.ps q (List.mem_filter.mp hq).1).1
  have m2 : ∀ a ∈ (w.2.filter fun q => decide (q.1 = y)).map (·.2), a ∈ rl n := fun a ha => by
    obtain ⟨q, hq, rfl⟩ := List.mem_map.mp ha
    exact (hw.ps q (List.mem_filter.mp hq).1).2
  show Ok (Option.bind (Option.bind (compM (fun x787 : Int × Int => some (decide (x787.2 = x))) (fun x787 => some x787.1) w.2) _) _) _
  rw [e1, CC.sb]
  show Ok (Option.bind (catM [x] _) _) _
  rw [catM_eq (by show 1 + _ ≤ _; omega), CC.sb]
  show Ok (Option.bind (Option.bind (compM (fun x791 : Int × Int => some (decide (x791.1 = y))) (fun x791 => some x791.2) w.2) _) _) _
  rw [e2, CC.sb]
  show Ok (Option.bind (catM [y] _) _) _
  rw [catM_eq (by show 1 + _ ≤ _; omega), CC.sb]
  generalize (w.2.filter fun q => decide (q.2 = x)).map (·.1) = A at l1 m1
  generalize (w.2.filter fun q => decide (q.1 = y)).map (·.2) = B at l2 m2
  have ma : ∀ a ∈ [x] ++ A, a ∈ rl n := fun a ha => by
    rcases List.mem_append.mp ha with z | z
    · rw [List.mem_singleton.mp z]; exact hx
    · exact m1 a z
  have mb : ∀ a ∈ [y] ++ B, a ∈ rl n := fun a ha => by
    rcases List.mem_append.mp ha with z | z
    · rw [List.mem_singleton.mp z]; exact hy
    · exact m2 a z
  have la : ([x] ++ A).length ≤ 65 := by rw [List.length_append]; show 1 + _ ≤ _; omega
  have lb : ([y] ++ B).length ≤ 65 := by rw [List.length_append]; show 1 + _ ≤ _; omega
  generalize [x] ++ A = lows at ma la
  generalize [y] ++ B = highs at mb lb
  refine .bind (marked_ok hw.len) fun mk _ => ?_
  refine .bind (foldG_ok (Inv := fun j (l : List (Int × Int)) => l.length ≤ n * n + j * 65 ∧ ∀ p ∈ l, p.1 ∈ rl n ∧ p.2 ∈ rl n) lows 0 (s := w.2) ⟨by omega, hw.ps⟩ fun j a l hj ⟨h1, h2⟩ => ?_) fun l ⟨h1, h2⟩ => .one ⟨hw.sz, hw.le, fun p hp => h2 p (sortP_mem.mp hp), ?_⟩
  · have hjl := (List.getElem?_eq_some_iff.mp hj).1
    have e : compM (fun x805 => some (!(getM mk (a, x805)).isSome)) (fun x805 => some (a, x805)) highs = some ((highs.filter fun b => !(getM mk (a, b)).isSome).map fun b => (a, b)) := compM_eq (by omega) (fun _ _ => rfl) fun _ _ _ => rfl
    have hf := List.length_filter_le (fun b => !(getM mk (a, b)).isSome) highs
    show Ok (Option.bind (Option.bind (compM (fun x805 => some (!(getM mk (a, x805)).isSome)) (fun x805 => some (a, x805)) highs) _) _) _
    rw [e, CC.sb, catM_eq (by rw [List.length_map]; omega), CC.sb]
    refine .one ⟨by rw [List.length_append, List.length_map]; omega, fun p hp => ?_⟩
    rcases List.mem_append.mp hp with z | z
    · exact h2 p z
    · obtain ⟨b, hb, rfl⟩ := List.mem_map.mp z
      exact ⟨ma a (List.mem_of_getElem? hj), mb b (List.mem_filter.mp hb).1⟩
  · show (sortP l).length ≤ _
    rw [sortP_len]
    omega
end K30
set_option maxHeartbeats 2000000
/-! The law. -/
namespace K30
open PySem PySem.Spec L2 CC
open PyProof.Rows hiding St
theorem renamed_1 : M_law_renamed_1 = M_law_renamed := rfl
theorem nb_row {n : Nat} {is : List Int} (hn : n ≤ 64) (h : is.Perm (rl n)) : NB (PV.tup (is.map PV.int)) := nb_ints (by rw [h.length_eq, rl_len]; omega)
theorem ne_prs {l : List (Int × Int)} : neP (PV.tup (l.map prV)) (PV.tup ([].map PV.int)) = some (!l.isEmpty) := by
  have e : eqP (PV.tup (l.map prV)) (PV.tup ([].map PV.int)) = some (l.map prV).isEmpty := eqP_tup0 (d := 1) (fun x hx => by
    obtain ⟨p, _, rfl⟩ := List.mem_map.mp hx
    refine sm_tup fun y hy => ?_
    rcases List.mem_cons.mp hy with z | z
    · rw [z]; exact sm_int 0 _
    · rw [List.mem_singleton.mp z]; exact sm_int 0 _) (by omega)
  unfold neP
  rw [e]
  cases l <;> rfl
theorem ne_prsL {l : List (Int × Int)} : neP (PV.lst (l.map prV)) (PV.lst ([].map PV.int)) = some (!l.isEmpty) := by
  have e : eqP (PV.lst (l.map prV)) (PV.lst ([].map PV.int)) = some (l.map prV).isEmpty := eqP_lst0 (d := 1) (fun x hx => by
    obtain ⟨p, _, rfl⟩ := List.mem_map.mp hx
    refine sm_tup fun y hy => ?_
    rcases List.mem_cons.mp hy with z | z
    · rw [z]; exact sm_int 0 _
    · rw [List.mem_singleton.mp z]; exact sm_int 0 _) (by omega)
  unfold neP
  rw [e]
  cases l <;> rfl
theorem loop_vals {f g : Int × List (Int × Int)} {n m : Nat} (hf : OrO f n) (hg : OrO g m) : ∀ {xs : List PV} {s : Bg}, (∀ v ∈ xs, NB v) → loopGo (fun x588 (s589 : Bg) => ((M_law_asked (f, (g, (x588, ())))).bind fun x661 => some (!x661)).bind fun x663 => bif x663 then (some false).bind fun y662 => some (Out.rt (ρ := Bool) y662) else some (Out.nx s589)) xs s = some (.nx s)
  | [], s, _ => rfl
  | x :: xs, s, h => by
    show Option.bind (Option.bind (Option.bind (M_law_asked (f, (g, (x, ())))) _) _) _ = _
    rw [asked_ok hf hg (h x List.mem_cons_self), CC.sb]
    exact loop_vals hf hg fun v hv => h v (List.mem_cons_of_mem _ hv)
theorem law_ok (ns : List Int) (h : ns.length ≤ 63) : M_law (ns, ()) = some true := by
  refine Ok.eq_some ?_
  unfold M_law
  refine .bind (start_ok ns) fun s hs => ?_
  refine .bind (P := fun w : Bg × List Int × (Int × List (Int × Int)) => BI w.1 ∧ ∃ n, Od w.2.2 n) ?_ fun a ⟨ha, n, hf⟩ => ?_
  · refine .bind (P := fun w : Bool × Bg => BI w.2) ?_ fun w hw => .bif (fun _ => ?_) fun _ => ?_
    · simp only [bassoc, CC.sb]
      exact .bind (draw_ok (by omega) (by omega) hs) fun q hq => .one hq.2
    · simp only [bassoc, CC.sb]
      refine .bind (draw_nat (m := 65) (by omega) (by omega) hw) fun q ⟨⟨k, e, hk⟩, hq⟩ => ?_
      rw [e]
      exact .bind (large_ok (by omega) hq) fun r hr => .one ⟨hr.2, k, hr.1.1⟩
    · simp only [bassoc, CC.sb]
      refine .bind (draw_nat (m := 8) (by omega) (by omega) hw) fun q ⟨⟨k, e, hk⟩, hq⟩ => ?_
      refine .bind (draw_nat (m := 3) (by omega) (by omega) hq) fun d ⟨⟨j, e2, hj⟩, hd⟩ => ?_
      rw [e, e2, show ((2 : Int) + (j : Int)) = ((2 + j : Nat) : Int) by omega]
      exact .bind (order_ok (by omega) (by omega) (by omega) hd) fun r hr => .one ⟨hr.2, k, hr.1.1⟩
  obtain ⟨s1, line, f⟩ := a
  have ha : BI s1 := ha
  have hf : Od f n := hf
  have hn := hf.o.le
  refine .bind (P := fun w : List Int × Bg => w.1.Perm (rl n) ∧ BI w.2) ?_ fun b ⟨hp, hb⟩ => ?_
  · show Ok (Option.bind (Option.bind (M_law_turned (f.1, ()) s1) _) _) _
    rw [hf.o.sz]
    simp only [bassoc, CC.sb]
    exact .bind (turned_ok (by omega) ha) fun w hw => .one hw
  obtain ⟨is, s2⟩ := b
  have hp : is.Perm (rl n) := hp
  have hb : BI s2 := hb
  show Ok (Option.bind (M_law_renamed_1 (f, (is, ()))) _) _
  rw [renamed_1, renamed_ok hf.o hp, CC.sb]
  have hg := img_od hp hf
  generalize (f.1, sortP (img is f.2)) = g at hg
  refine .bind (P := fun ou : Out Bg Bool => ∃ s', ou = .nx s' ∧ BI s') ?_ fun ou ⟨s3, eo, h3⟩ => ?_
  · refine .bind (P := fun w : List PV × Bg => (∀ v ∈ w.1, NB v) ∧ BI w.2) (.bind (values_ok hn hp hb) fun w hw => .one hw) fun w ⟨w1, w2⟩ => ?_
    exact Ok.of_eq (loop_vals hf.o hg.o w1) ⟨_, rfl, w2⟩
  subst eo
  dsimp only [Out.k]
  have id1 : ∀ {v1 v2 : Int × List (Int × Int)} {a b : Nat}, OrO v1 a → OrO v2 b → Ok (((((((rng 0 f.1).bind fun x744 => some (PV.tup (x744.map PV.int))).bind fun x746 => some (x746, ())).bind fun y747 => some (v2, y747)).bind fun y748 => some (v1, y748)).bind fun z749 => M_law_asked z749).bind fun x750 => some (!x750)) fun b => b = false := fun h1 h2 => by
    rw [hf.o.sz, rng_nat (show n ≤ 1000000 by omega), CC.sb, CC.sb, CC.sb, CC.sb, CC.sb, asked_ok h1 h2 (nb_ints (by rw [rl_len]; omega)), CC.sb]
    exact .one rfl
  refine .bind (P := fun ou : Out Bg Bool => ∃ s', ou = .nx s' ∧ BI s') ?_ fun ou ⟨s4, eo, h4⟩ => ?_
  · show Ok (Option.bind (neP (PV.tup (g.2.map prV)) (PV.tup ([].map PV.int))) _) _
    rw [ne_prs, CC.sb]
    refine .bif (fun e => ?_) fun _ => .one ⟨_, rfl, h3⟩
    have hne : g.2 ≠ [] := fun z => by rw [z] at e; cases e
    refine .bind (P := fun w : (Int × List (Int × Int)) × Bg => OrO w.1 n ∧ BI w.2) ?_ fun w ⟨w1, w2⟩ => ?_
    · simp only [bassoc, CC.sb]
      refine .bind (cover_ok hg hne h3) fun c hc => ?_
      exact .bind (without_ok hg.o) fun q hq => .one ⟨hq, hc⟩
    · rw [asked_ok hf.o w1 (nb_row hn hp), CC.sb, CC.sb]
      show Ok (Option.bind (Option.bind _ _) _) _
      refine .bind (id1 w1 hg.o) fun b hb => ?_
      rw [hb]
      exact .one ⟨_, rfl, w2⟩
  subst eo
  dsimp only [Out.k]
  refine .bind (loose_ok hg.o) fun l ⟨l1, l2⟩ => ?_
  refine .bind (P := fun ou : Out Bg Bool => ∃ s', ou = .nx s' ∧ BI s') ?_ fun ou ⟨s5, eo, h5⟩ => ?_
  · show Ok (Option.bind (neP (PV.lst (l.map prV)) (PV.lst ([].map PV.int))) _) _
    rw [ne_prsL, CC.sb]
    refine .bif (fun e => ?_) fun _ => .one ⟨_, rfl, h4⟩
    have hne : l ≠ [] := fun z => by rw [z] at e; cases e
    have hll : l.length ≤ 64 * 64 := Nat.le_trans l1 (Nat.mul_le_mul hn hn)
    refine .bind (P := fun w : (Int × Int) × Bg => w.1 ∈ l ∧ BI w.2) ?_ fun w ⟨w1, w2⟩ => ?_
    · rw [one2_eq]
      exact .bind (one_ok (List.length_pos_iff.mpr hne) (by omega) h4) fun r hr => .one hr
    · obtain ⟨hx, hy⟩ := l2 _ w1
      refine .bind (linked_ok hg hx hy) fun more hm => ?_
      rw [asked_ok hf.o hm (nb_row hn hp), CC.sb, CC.sb]
      show Ok (Option.bind (Option.bind _ _) _) _
      refine .bind (id1 hg.o hm) fun b hb => ?_
      rw [hb]
      exact .one ⟨_, rfl, w2⟩
  subst eo
  dsimp only [Out.k]
  refine .bind (P := fun w : ((Int × List (Int × Int)) × List Int) × Bg => ∃ k, Od w.1.1 k) ?_ fun w ⟨k, hk⟩ => ?_
  · simp only [bassoc, CC.sb]
    refine .bind (draw_nat (m := 8) (by omega) (by omega) h5) fun q ⟨⟨k, e, hk⟩, hq⟩ => ?_
    rw [e, show (2 : Int) = ((2 : Nat) : Int) from rfl]
    exact .bind (order_ok (by omega) (by omega) (by omega) hq) fun r hr => .one ⟨k, hr.1.1⟩
  · rw [asked_ok hf.o hk.o (nb_row hn hp), CC.sb]
    exact Ok.of_eq (asked_ok hk.o hf.o (nb_row hn hp)) rfl
end K30
open PySem PySem.W PySem.Calls PyProof.Rows in
set_option maxHeartbeats 0 in
theorem PySem.Challenge.cw_chaincore_k30_just_renamings_holds : PySem.Challenge.rw_chaincore_k30_just_renamings.Holds := by
  w_on; o_law
  refine HandSHeadRun.head_any (r := OpenLaw.row PySem.Challenge.rw_chaincore_k30_just_renamings) (q := view (OpenLaw.row PySem.Challenge.rw_chaincore_k30_just_renamings).prog [20]) (H := K30.hk) (ob := K30.ob) (M := 2760) (loose := K30.loose) (d := HandSHeadRun.topDef (OpenLaw.row PySem.Challenge.rw_chaincore_k30_just_renamings).prog 20) (kwd := []) K30.ob_eq
    (by kernel_rfl) (fun s => by kernel_rfl) K30.run (by kernel_rfl) (by kernel_rfl) (by kernel_rfl) (by rfl) (by first | assumption | decide +kernel) (by decide +kernel) ⟨rfl, rfl, rfl, rfl, rfl, by decide +kernel⟩ ?hw ?hc
  case hw => w_witness2
  case hc =>
    refine L2.walk_ofE (l := PySem.Challenge.rw_chaincore_k30_just_renamings) (n := 63) (k := 5) (x := "script") (CX := L2.CX0) rfl (by decide) (by kernel_rfl) ⟨rfl, by decide, by decide⟩ ?F (fun _ _ _ _ z => z)
    intro w mg fa h Y G hmg0
    obtain ⟨K, KX, c⟩ := Y
    have hmg : mg ("law" : PySem.Str) = some (.ref fa) := by
      have e : (HandSHeadRun.topDef (OpenLaw.row PySem.Challenge.rw_chaincore_k30_just_renamings).prog 20).name = ("law" : PySem.Str) := by kernel_rfl
      rw [← e]
      exact hmg0
    obtain ⟨fd, hb, hF⟩ := K30.facts (P := (PySem.Challenge.rw_chaincore_k30_just_renamings).prog) (w := w) KX G hmg c
    exact ⟨K, fd, _, KX, hb, fun H a ns hl _ hS => CC.law_in hS (K30.law_ok ns hl), hF⟩
