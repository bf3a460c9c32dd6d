import PyProof.Rows.All
import HandS.ForMost
import HandS.ForExc
import HandS.Wide
import HandS.Iter
import HandS.Rev
import KE.DataMinMax
import KE.DataCmp
import KE.DataEq
import KE.DataFind
import KE.SortData
import KE.KTupSum
import KE.KIndexOf
import KE.GoesEnum
import HandS.TupAny
import HandS.TupMul
import KE.DatumOrd
import HandS.IsInst
import HandS.TupLe
import HandS.EndBits
import HandS.Style
import HandS.SortKw
import HandS.TryOnly
import HandS.Conv
import HandS.TryElse
import HandS.ExcIs
import HandS.ExcField
import HandS.ExcInit
import HandS.ExcOwn
import HandS.ClsMeth
import KE.KExcIs
import HandS.DictTup
import KE.KDictDisplayH
import KE.KDictCopyH
import KE.KDictWalk
import KE.KDictSum
import KE.SortCalls
import PyProof.Transfer
import HandS.TupSets
import KE.GoesRev
import HandS.HotCalls
import HandS.Text
import HandS.Steps
import PyProof.StrBlock2
import KE.GoesRaise
import HandS.SetFor
import HandS.Strs
import PySem.Challenge.RW_tapepour_k37_whole_bounds_and_orders
set_option Elab.async false
set_option linter.all false
set_option maxRecDepth 100000
set_option maxHeartbeats 4000000
/-! TP, part 0: results, views, slots, judgements. -/
namespace TP
open PySem PySem.Spec L2

/-! ### results of a mirror -/
structure Exn where
  c : Str
  fs : List (Str × PyData)
inductive Res (α : Type) where
  | ok (a : α)
  | er (e : Exn)
  | bad
def Res.bind {α β : Type} (m : Res α) (f : α → Res β) : Res β := match m with
  | .ok a => f a
  | .er e => .er e
  | .bad => .bad
/-- a check: none is what the walk does not carry -/
def chk {α : Type} (o : Option α) : Res α := match o with
  | some a => .ok a
  | none => .bad
def Post {α : Type} (m : Res α) (P : α → Prop) (E : Exn → Prop) : Prop := match m with
  | .ok a => P a
  | .er e => E e
  | .bad => False
section
variable {α β : Type} {m : Res α} {f : α → Res β} {P P' : α → Prop} {E E' : Exn → Prop}
theorem Post.imp (h : Post m P E) (hp : ∀ a, P a → P' a) (he : ∀ e, E e → E' e) : Post m P' E' := by
  cases m with
  | ok a => exact hp a h
  | er e => exact he e h
  | bad => exact h
theorem Post.of_bind {P : β → Prop} (h : Post (m.bind f) P E) : Post m (fun a => Post (f a) P E) E := by
  cases m with
  | ok a => exact h
  | er e => exact h
  | bad => exact h
theorem Post.of_chk {o : Option α} (h : Post (chk o) P E) : ∃ a, o = some a ∧ P a := by
  cases o with
  | some a => exact ⟨a, rfl, h⟩
  | none => exact h.elim
@[simp] theorem chk_some (a : α) : chk (some a) = .ok a := rfl
@[simp] theorem chk_none : (chk none : Res α) = .bad := rfl
@[simp] theorem Res.bind_ok (a : α) : (Res.ok a).bind f = f a := rfl
@[simp] theorem Res.bind_er (e : Exn) : (Res.er e : Res α).bind f = .er e := rfl
@[simp] theorem Res.bind_bad : (Res.bad : Res α).bind f = .bad := rfl
theorem Res.bind_assoc {γ : Type} (m : Res α) (f : α → Res β) (g : β → Res γ) : (m.bind f).bind g = m.bind fun a => (f a).bind g := by
  cases m <;> rfl
end

/-! ### heaps -/
abbrev Fg := PySem.W.Frag
def Sub (H H' : Hp) : Prop := ∀ a o, H a = some o → H' a = some o
theorem Sub.refl (H : Hp) : Sub H H := fun _ _ h => h
theorem Sub.trans {H H1 H2 : Hp} (a : Sub H H1) (b : Sub H1 H2) : Sub H H2 := fun x o h => b x o (a x o h)
theorem Sub.new {H : Hp} {p : Addr} {o : HO} (h : H p = none) : Sub H (upd H p o) := fun a u e => by
  rw [upd_ne (ne_of_none e h)]
  exact e
theorem Sub.mut {H H' : Hp} {p : Addr} {o : HO} (e : Sub H H') (h : H p = none) : Sub H (upd H' p o) := fun a u ha => by
  rw [upd_ne (ne_of_none ha h)]
  exact e a u ha
theorem Sub.upd {H H' : Hp} {p : Addr} {o : HO} (e : Sub H H') : Sub (upd H p o) (upd H' p o) := fun a u ha => by
  by_cases z : a = p
  · subst z
    rw [upd_same] at ha ⊢
    exact ha
  · rw [upd_ne z] at ha ⊢
    exact e a u ha
theorem Sub.back {H H' : Hp} {p : Addr} (e : Sub H H') (h : H' p = none) : H p = none := by
  cases h1 : H p with
  | none => rfl
  | some o =>
    rw [e p o h1] at h
    cases h
theorem rd_sub {H H' : Hp} {a : Addr} {u : HO} (e : Sub H H') (h : Rd H a u) : Rd H' a u := by
  rcases h with h | ⟨o, h⟩
  · exact .inl (e a _ h)
  · exact .inr ⟨o, e a _ h⟩
theorem sqL_sub {K : Fg} {H H' : Hp} {a : Addr} {xs : List V} (e : Sub H H') (h : SqL K H a xs) : SqL K H' a xs := by
  rcases h with h | h
  · exact .inl (rd_sub e h)
  · exact .inr h
theorem sqT_sub {K : Fg} {H H' : Hp} {a : Addr} {xs : List V} (e : Sub H H') (h : SqT K H a xs) : SqT K H' a xs := by
  rcases h with h | h
  · exact .inl (rd_sub e h)
  · exact .inr h
mutual
theorem dp_sub {K : Fg} {H H' : Hp} (e : Sub H H') : ∀ {v : V} {d : PyData}, Dp K H v d → Dp K H' v d
  | _, _, .non => .non
  | _, _, .bl b => .bl b
  | _, _, .int i => .int i
  | _, _, .str x => .str x
  | _, _, .lst h t => .lst (sqL_sub e h) (dpAll_sub e t)
  | _, _, .tup h t => .tup (sqT_sub e h) (dpAll_sub e t)
theorem dpAll_sub {K : Fg} {H H' : Hp} (e : Sub H H') : ∀ {vs : List V} {ds : List PyData}, DpAll K H vs ds → DpAll K H' vs ds
  | _, _, .nil => .nil
  | _, _, .cons h t => .cons (dp_sub e h) (dpAll_sub e t)
end
theorem dpAll_len {K : Fg} {H : Hp} : ∀ {vs : List V} {ds : List PyData}, DpAll K H vs ds → vs.length = ds.length
  | _, _, .nil => rfl
  | _, _, .cons _ t => by
    rw [List.length_cons, List.length_cons, dpAll_len t]
theorem dpAll_get {K : Fg} {H : Hp} : ∀ {vs : List V} {ds : List PyData} {i : Nat} {d : PyData}, DpAll K H vs ds → ds[i]? = some d → ∃ v, vs[i]? = some v ∧ Dp K H v d
  | _, _, _, _, .nil, e => by simp at e
  | _, _, 0, _, .cons h _, e => by
    simp at e
    subst e
    exact ⟨_, rfl, h⟩
  | _, _, i + 1, d, .cons _ t, e => by
    obtain ⟨v, h1, h2⟩ := dpAll_get (i := i) (d := d) t (by simpa using e)
    exact ⟨v, by simpa using h1, h2⟩
theorem dpAll_app {K : Fg} {H : Hp} : ∀ {vs ws : List V} {ds es : List PyData}, DpAll K H vs ds → DpAll K H ws es → DpAll K H (vs ++ ws) (ds ++ es)
  | _, _, _, _, .nil, s => s
  | _, _, _, _, .cons h t, s => .cons h (dpAll_app t s)
theorem dpAll_drop {K : Fg} {H : Hp} : ∀ {vs : List V} {ds : List PyData} (n : Nat), DpAll K H vs ds → DpAll K H (vs.drop n) (ds.drop n)
  | _, _, 0, h => h
  | _, _, _ + 1, .nil => .nil
  | _, _, n + 1, .cons _ t => dpAll_drop n t
theorem dpAll_take {K : Fg} {H : Hp} : ∀ {vs : List V} {ds : List PyData} (n : Nat), DpAll K H vs ds → DpAll K H (vs.take n) (ds.take n)
  | _, _, 0, _ => .nil
  | _, _, _ + 1, .nil => .nil
  | _, _, n + 1, .cons h t => .cons h (dpAll_take n t)
theorem dp_int {K : Fg} {H : Hp} {v : V} {i : Int} (h : Dp K H v (.int i)) : v = .int i := by cases h; rfl
theorem dp_bl {K : Fg} {H : Hp} {v : V} {i : Bool} (h : Dp K H v (.bool i)) : v = .bl i := by cases h; rfl
theorem dp_str {K : Fg} {H : Hp} {v : V} {i : Str} (h : Dp K H v (.str i)) : v = .str i := by cases h; rfl
theorem dp_non {K : Fg} {H : Hp} {v : V} (h : Dp K H v .none) : v = .non := by cases h; rfl
theorem dp_lst {K : Fg} {H : Hp} {v : V} {ds : List PyData} (h : Dp K H v (.list ds)) : ∃ a xs, v = .ref a ∧ SqL K H a xs ∧ DpAll K H xs ds := by
  cases h with
  | lst h t => exact ⟨_, _, rfl, h, t⟩
theorem dp_tup {K : Fg} {H : Hp} {v : V} {ds : List PyData} (h : Dp K H v (.tuple ds)) : ∃ a xs, v = .ref a ∧ SqT K H a xs ∧ DpAll K H xs ds := by
  cases h with
  | tup h t => exact ⟨_, _, rfl, h, t⟩

/-! ### encodings -/
abbrev Enc (α : Type) := α → PyData
abbrev eI : Enc Int := PyData.int
abbrev eB : Enc Bool := PyData.bool
abbrev eS : Enc Str := PyData.str
abbrev eN : Enc Unit := fun _ => PyData.none
abbrev eA : Enc PyData := fun d => d
def eL {α : Type} (e : Enc α) : Enc (List α) := fun xs => .list (xs.map e)
/-- a tuple of any length, items of one kind -/
def eV {α : Type} (e : Enc α) : Enc (List α) := fun xs => .tuple (xs.map e)
def e2 {α β : Type} (e : Enc α) (f : Enc β) : Enc (α × β) := fun p => .tuple [e p.1, f p.2]
def e3 {α β γ : Type} (e : Enc α) (f : Enc β) (g : Enc γ) : Enc (α × β × γ) := fun p => .tuple [e p.1, f p.2.1, g p.2.2]
def e4 {α β γ δ : Type} (e : Enc α) (f : Enc β) (g : Enc γ) (h : Enc δ) : Enc (α × β × γ × δ) := fun p => .tuple [e p.1, f p.2.1, g p.2.2.1, h p.2.2.2]
def e0 : Enc Unit := fun _ => .tuple []
def e1 {α : Type} (e : Enc α) : Enc α := fun p => .tuple [e p]
def eO {α : Type} (e : Enc α) : Enc (Option α) := fun o => match o with
  | none => .none
  | some x => e x

/-! ### views: what may be read of a value -/
structure View (α : Type) where
  ok : Fg → Hp → Hp → V → α → Prop
  mono : ∀ {K : Fg} {F F' H H' : Hp} {v : V} {x : α}, ok K F H v x → Sub F F' → Sub H H' → ok K F' H' v x
/-- frozen data -/
def vD {α : Type} (e : Enc α) : View α := ⟨fun K F _ v x => Dp K F v (e x), fun h s _ => dp_sub s h⟩
/-- data that can be read now -/
def vH {α : Type} (e : Enc α) : View α := ⟨fun K _ H v x => Dp K H v (e x), fun h _ s => dp_sub s h⟩
/-- a list that can be read now, its items frozen -/
def vL {α : Type} (e : Enc α) : View (List α) := ⟨fun K F H v x => ∃ a vs, v = .ref a ∧ SqL K H a vs ∧ DpAll K F vs (x.map e), fun ⟨a, vs, h1, h2, h3⟩ s t => ⟨a, vs, h1, sqL_sub t h2, dpAll_sub s h3⟩⟩
def View.le {α : Type} (U U' : View α) : Prop := ∀ (K : Fg) (F H : Hp) (v : V) (x : α), Sub F H → U.ok K F H v x → U'.ok K F H v x
theorem le_DH {α : Type} {e : Enc α} : (vD e).le (vH e) := fun _ _ _ _ _ s h => dp_sub s h
theorem le_DL {α : Type} {e : Enc α} : (vD (eL e)).le (vL e) := fun _ _ _ _ _ s h => by
  obtain ⟨a, xs, rfl, q, t⟩ := dp_lst h
  exact ⟨a, xs, rfl, sqL_sub s q, t⟩
theorem le_LH {α : Type} {e : Enc α} : (vL e).le (vH (eL e)) := fun _ _ _ _ _ s h => by
  obtain ⟨a, xs, rfl, q, t⟩ := h
  exact .lst q (dpAll_sub s t)

/-! ### representations with a footprint of owned objects -/
structure Rp (α : Type) where
  ok : Fg → Hp → Hp → V → α → List Addr → Prop
  mono : ∀ {K : Fg} {F F' H H' : Hp} {v : V} {x : α} {A : List Addr}, ok K F H v x A → Sub F F' → (∀ a ∈ A, H' a = H a) → ok K F' H' v x A
  dom : ∀ {K : Fg} {F H : Hp} {v : V} {x : α} {A : List Addr}, ok K F H v x A → ∀ a ∈ A, H a ≠ none
def fz {α : Type} (e : Enc α) : Rp α where
  ok := fun K F _ v x A => A = [] ∧ Dp K F v (e x)
  mono := fun h s _ => ⟨h.1, dp_sub s h.2⟩
  dom := fun h a ha => by
    rw [h.1] at ha
    cases ha
def OkL {α : Type} (r : Rp α) (K : Fg) (F H : Hp) : List V → List α → List Addr → Prop
  | [], [], A => A = []
  | v :: vs, x :: xs, A => ∃ A1 A2, A = A1 ++ A2 ∧ r.ok K F H v x A1 ∧ OkL r K F H vs xs A2
  | _, _, _ => False
theorem OkL.mono {α : Type} {r : Rp α} {K : Fg} {F F' H H' : Hp} : ∀ {vs : List V} {xs : List α} {A : List Addr}, OkL r K F H vs xs A → Sub F F' → (∀ a ∈ A, H' a = H a) → OkL r K F' H' vs xs A
  | [], [], _, h, _, _ => h
  | v :: vs, x :: xs, _, ⟨A1, A2, e, h1, h2⟩, s, t => by
    subst e
    exact ⟨A1, A2, rfl, r.mono h1 s fun a ha => t a (List.mem_append_left _ ha), OkL.mono h2 s fun a ha => t a (List.mem_append_right _ ha)⟩
  | [], _ :: _, _, h, _, _ => h.elim
  | _ :: _, [], _, h, _, _ => h.elim
theorem OkL.dom {α : Type} {r : Rp α} {K : Fg} {F H : Hp} : ∀ {vs : List V} {xs : List α} {A : List Addr}, OkL r K F H vs xs A → ∀ a ∈ A, H a ≠ none
  | [], [], _, h => fun a ha => by
    have h' : _ = [] := h
    rw [h'] at ha
    cases ha
  | v :: vs, x :: xs, _, ⟨A1, A2, e, h1, h2⟩ => fun a ha => by
    subst e
    rcases List.mem_append.mp ha with z | z
    · exact r.dom h1 a z
    · exact OkL.dom h2 a z
  | [], _ :: _, _, h => h.elim
  | _ :: _, [], _, h => h.elim
/-- an owned list -/
def ow {α : Type} (r : Rp α) : Rp (List α) where
  ok := fun K F H v xs A => ∃ a vs A', v = .ref a ∧ H a = some (.lst vs) ∧ A = a :: A' ∧ OkL r K F H vs xs A'
  mono := fun ⟨a, vs, A', h1, h2, h3, h4⟩ s t => by
    subst h3
    exact ⟨a, vs, A', h1, (t a List.mem_cons_self).trans h2, rfl, h4.mono s fun b hb => t b (List.mem_cons_of_mem _ hb)⟩
  dom := fun ⟨a, vs, A', h1, h2, h3, h4⟩ b hb => by
    subst h3
    rcases List.mem_cons.mp hb with z | z
    · subst z
      rw [h2]
      exact fun z => nomatch z
    · exact h4.dom b z
theorem okL_fz {α : Type} {e : Enc α} {K : Fg} {F H : Hp} : ∀ {vs : List V} {xs : List α} {A : List Addr}, OkL (fz e) K F H vs xs A → A = [] ∧ DpAll K F vs (xs.map e)
  | [], [], _, h => ⟨h, .nil⟩
  | v :: vs, x :: xs, _, ⟨A1, A2, e, h1, h2⟩ => by
    obtain ⟨z, t⟩ := okL_fz h2
    subst e
    rw [h1.1, z]
    exact ⟨rfl, .cons h1.2 t⟩
  | [], _ :: _, _, h => h.elim
  | _ :: _, [], _, h => h.elim
theorem okL_of {α : Type} {e : Enc α} {K : Fg} {F H : Hp} : ∀ {vs : List V} {xs : List α}, DpAll K F vs (xs.map e) → OkL (fz e) K F H vs xs []
  | [], [], _ => rfl
  | v :: vs, x :: xs, .cons h t => ⟨[], [], rfl, ⟨rfl, h⟩, okL_of t⟩
  | [], _ :: _, h => nomatch h
  | _ :: _, [], h => nomatch h
theorem okL_len {α : Type} {r : Rp α} {K : Fg} {F H : Hp} : ∀ {vs : List V} {xs : List α} {A : List Addr}, OkL r K F H vs xs A → vs.length = xs.length
  | [], [], _, h => rfl
  | v :: vs, x :: xs, _, ⟨A1, A2, e, h1, h2⟩ => by
    rw [List.length_cons, List.length_cons, okL_len h2]
  | [], _ :: _, _, h => h.elim
  | _ :: _, [], _, h => h.elim
theorem okL_app {α : Type} {r : Rp α} {K : Fg} {F H : Hp} : ∀ {vs ws : List V} {xs ys : List α} {A B : List Addr}, OkL r K F H vs xs A → OkL r K F H ws ys B → OkL r K F H (vs ++ ws) (xs ++ ys) (A ++ B)
  | [], ws, [], ys, _, B, h, q => by
    have h' : _ = [] := h
    subst h'
    exact q
  | v :: vs, ws, x :: xs, ys, _, B, ⟨A1, A2, e, h1, h2⟩, q => by
    subst e
    exact ⟨A1, A2 ++ B, List.append_assoc _ _ _, h1, okL_app h2 q⟩
  | [], _, _ :: _, _, _, _, h, _ => h.elim
  | _ :: _, _, [], _, _, _, h, _ => h.elim
/-- a representation that can be read so -/
def Vw {α : Type} (r : Rp α) (U : View α) : Prop := ∀ (K : Fg) (F H : Hp) (v : V) (x : α) (A : List Addr), Sub F H → r.ok K F H v x A → U.ok K F H v x
theorem vw_fz {α : Type} {e : Enc α} : Vw (fz e) (vD e) := fun _ _ _ _ _ _ _ h => h.2
theorem vw_ow {α : Type} {e : Enc α} : Vw (ow (fz e)) (vL e) := fun _ _ _ _ _ _ _ ⟨a, vs, A', h1, h2, h3, h4⟩ => ⟨a, vs, h1, .of h2, (okL_fz h4).2⟩
theorem Vw.le {α : Type} {r : Rp α} {U U' : View α} (h : Vw r U) (l : U.le U') : Vw r U' := fun _ _ _ _ _ _ s q => l _ _ _ _ _ s (h _ _ _ _ _ _ s q)
/-- all lists within an owned tree read now -/
theorem okL_H {α : Type} {r : Rp α} {e : Enc α} (hr : Vw r (vH e)) {K : Fg} {F H : Hp} (s : Sub F H) : ∀ {vs : List V} {xs : List α} {A : List Addr}, OkL r K F H vs xs A → DpAll K H vs (xs.map e)
  | [], [], _, h => .nil
  | v :: vs, x :: xs, _, ⟨A1, A2, e, h1, h2⟩ => .cons (hr _ _ _ _ _ _ s h1) (okL_H hr s h2)
  | [], _ :: _, _, h => h.elim
  | _ :: _, [], _, h => h.elim
theorem vw_owH {α : Type} {r : Rp α} {e : Enc α} (hr : Vw r (vH e)) : Vw (ow r) (vH (eL e)) := fun _ _ _ _ _ _ s ⟨a, vs, A', h1, h2, h3, h4⟩ => by
  subst h1
  exact .lst (.of h2) (okL_H hr s h4)
/-- how an owned tree freezes -/
def Frz {α : Type} (r : Rp α) (e : Enc α) : Prop := ∀ (K : Fg) (F F' H : Hp) (v : V) (x : α) (A : List Addr), r.ok K F H v x A → Sub F F' → (∀ a ∈ A, F' a = H a) → Dp K F' v (e x)
theorem frz_fz {α : Type} {e : Enc α} : Frz (fz e) e := fun _ _ _ _ _ _ _ h s _ => dp_sub s h.2
theorem frzL {α : Type} {r : Rp α} {e : Enc α} (hr : Frz r e) {K : Fg} {F F' H : Hp} (s : Sub F F') : ∀ {vs : List V} {xs : List α} {A : List Addr}, OkL r K F H vs xs A → (∀ a ∈ A, F' a = H a) → DpAll K F' vs (xs.map e)
  | [], [], _, h, _ => .nil
  | v :: vs, x :: xs, _, ⟨A1, A2, e, h1, h2⟩, t => by
    subst e
    exact .cons (hr _ _ _ _ _ _ _ h1 s fun a ha => t a (List.mem_append_left _ ha)) (frzL hr s h2 fun a ha => t a (List.mem_append_right _ ha))
  | [], _ :: _, _, h, _ => h.elim
  | _ :: _, [], _, h, _ => h.elim
theorem frz_ow {α : Type} {r : Rp α} {e : Enc α} (hr : Frz r e) : Frz (ow r) (eL e) := fun _ _ _ _ _ _ _ ⟨a, vs, A', h1, h2, h3, h4⟩ s t => by
  subst h1 h3
  exact .lst (.of ((t a List.mem_cons_self).trans h2)) (frzL hr s h4 fun b hb => t b (List.mem_cons_of_mem _ hb))

/-! ### slots -/
inductive Sl : Type 1 where
  | nil
  | val {α : Type} (r : Rp α) (x : α)
def SlOk (K : Fg) (F H : Hp) : Option V → Sl → List Addr → Prop
  | _, .nil, A => A = []
  | some v, .val r x, A => r.ok K F H v x A
  | none, .val _ _, _ => False
def AtL (K : Fg) (F H : Hp) : L2.St → List Sl → List Addr → Prop
  | [], [], A => A = []
  | o :: σ, s :: S, A => ∃ A1 A2, A = A1 ++ A2 ∧ SlOk K F H o s A1 ∧ AtL K F H σ S A2
  | _, _, _ => False
structure At (K : Fg) (F H : Hp) (σ : L2.St) (S : List Sl) (A : List Addr) : Prop where
  fh : Sub F H
  nd : A.Nodup
  fo : ∀ a ∈ A, F a = none
  sl : AtL K F H σ S A
section
variable {K : Fg} {F F' H H' : Hp}
theorem SlOk.mono : ∀ {o : Option V} {s : Sl} {A : List Addr}, SlOk K F H o s A → Sub F F' → (∀ a ∈ A, H' a = H a) → SlOk K F' H' o s A
  | _, .nil, _, h, _, _ => h
  | some v, .val r x, _, h, s, t => r.mono h s t
  | none, .val _ _, _, h, _, _ => h.elim
theorem SlOk.dom : ∀ {o : Option V} {s : Sl} {A : List Addr}, SlOk K F H o s A → ∀ a ∈ A, H a ≠ none
  | _, .nil, _, h => fun a ha => by
    have h' : _ = [] := h
    rw [h'] at ha
    cases ha
  | some v, .val r x, _, h => r.dom h
  | none, .val _ _, _, h => h.elim
theorem AtL.mono : ∀ {σ : L2.St} {S : List Sl} {A : List Addr}, AtL K F H σ S A → Sub F F' → (∀ a ∈ A, H' a = H a) → AtL K F' H' σ S A
  | [], [], _, h, _, _ => h
  | o :: σ, x :: S, _, ⟨A1, A2, e, h1, h2⟩, s, t => by
    subst e
    exact ⟨A1, A2, rfl, h1.mono s fun a ha => t a (List.mem_append_left _ ha), AtL.mono h2 s fun a ha => t a (List.mem_append_right _ ha)⟩
  | [], _ :: _, _, h, _, _ => h.elim
  | _ :: _, [], _, h, _, _ => h.elim
theorem AtL.dom : ∀ {σ : L2.St} {S : List Sl} {A : List Addr}, AtL K F H σ S A → ∀ a ∈ A, H a ≠ none
  | [], [], _, h => fun a ha => by
    have h' : _ = [] := h
    rw [h'] at ha
    cases ha
  | o :: σ, x :: S, _, ⟨A1, A2, e, h1, h2⟩ => fun a ha => by
    subst e
    rcases List.mem_append.mp ha with z | z
    · exact h1.dom a z
    · exact AtL.dom h2 a z
  | [], _ :: _, _, h => h.elim
  | _ :: _, [], _, h => h.elim
theorem AtL.len : ∀ {σ : L2.St} {S : List Sl} {A : List Addr}, AtL K F H σ S A → σ.length = S.length
  | [], [], _, h => rfl
  | o :: σ, x :: S, _, ⟨A1, A2, e, h1, h2⟩ => by
    rw [List.length_cons, List.length_cons, AtL.len h2]
  | [], _ :: _, _, h => h.elim
  | _ :: _, [], _, h => h.elim
/-- one slot taken out, another thing put in -/
theorem AtL.at : ∀ {σ : L2.St} {S : List Sl} {A : List Addr} {i : Nat} {s : Sl}, AtL K F H σ S A → S[i]? = some s → ∃ o A1 Ai A2, σ[i]? = some o ∧ A = A1 ++ (Ai ++ A2) ∧ SlOk K F H o s Ai ∧
    ∀ (F' H' : Hp) (o' : Option V) (s' : Sl) (Ai' : List Addr), Sub F F' → (∀ a, a ∈ A1 ∨ a ∈ A2 → H' a = H a) → SlOk K F' H' o' s' Ai' → AtL K F' H' (σ.set i o') (S.set i s') (A1 ++ (Ai' ++ A2))
  | [], [], _, _, _, _, e => by simp at e
  | o :: σ, x :: S, _, 0, s, ⟨A1, A2, e, h1, h2⟩, z => by
    simp at z
    subst z e
    exact ⟨o, [], A1, A2, rfl, rfl, h1, fun F' H' o' s' Ai' sf sh h' => ⟨Ai', A2, rfl, h', h2.mono sf fun a ha => sh a (.inr ha)⟩⟩
  | o :: σ, x :: S, _, i + 1, s, ⟨A1, A2, e, h1, h2⟩, z => by
    obtain ⟨o', B1, Bi, B2, q1, q2, q3, q4⟩ := AtL.at (i := i) (s := s) h2 (by simpa using z)
    subst e q2
    refine ⟨o', A1 ++ B1, Bi, B2, by simpa using q1, by rw [List.append_assoc], q3, fun F' H' o2 s' Ai' sf sh h' => ?_⟩
    rw [List.append_assoc]
    exact ⟨A1, _, rfl, h1.mono sf fun a ha => sh a (.inl (List.mem_append_left _ ha)), q4 F' H' o2 s' Ai' sf (fun a ha => sh a (ha.imp (fun z => List.mem_append_right _ z) fun z => z)) h'⟩
  | [], _ :: _, _, _, _, h, _ => h.elim
  | _ :: _, [], _, _, _, h, _ => h.elim
end
end TP

set_option Elab.async false
set_option linter.all false
set_option maxRecDepth 100000
set_option maxHeartbeats 4000000
/-! TP, part 1: expressions. -/
namespace TP
open PySem PySem.Spec L2

/-- a step that only lays new objects -/
structure Pu (F H F' H' : Hp) : Prop where
  ff : Sub F F'
  hh : Sub H H'
  fh : Sub F' H'
  fo : ∀ a, H a ≠ none → F' a = F a
theorem Pu.refl {F H : Hp} (s : Sub F H) : Pu F H F H := ⟨.refl _, .refl _, s, fun _ _ => rfl⟩
theorem ne_none_sub {H H' : Hp} {a : Addr} (s : Sub H H') (h : H a ≠ none) : H' a ≠ none := fun z => h (s.back z)
theorem Pu.trans {F H F1 H1 F2 H2 : Hp} (a : Pu F H F1 H1) (b : Pu F1 H1 F2 H2) : Pu F H F2 H2 :=
  ⟨a.ff.trans b.ff, a.hh.trans b.hh, b.fh, fun x h => (b.fo x (ne_none_sub a.hh h)).trans (a.fo x h)⟩
theorem sub_eq {H H' : Hp} {a : Addr} (s : Sub H H') (h : H a ≠ none) : H' a = H a := by
  cases e : H a with
  | none => exact absurd e h
  | some o => exact s a o e
/-- a new frozen object -/
theorem Pu.new {F H : Hp} {p : Addr} {o : HO} (s : Sub F H) (h : H p = none) : Pu F H (upd F p o) (upd H p o) :=
  ⟨.new (s.back h), .new h, s.upd, fun a ha => by
    rw [upd_ne]
    intro z
    rw [z] at ha
    exact ha h⟩
/-- a new owned object -/
theorem Pu.newO {F H : Hp} {p : Addr} {o : HO} (s : Sub F H) (h : H p = none) : Pu F H F (upd H p o) :=
  ⟨.refl _, .new h, s.mut (s.back h), fun _ _ => rfl⟩
theorem At.pu {K : Fg} {F H F' H' : Hp} {σ : L2.St} {S : List Sl} {A : List Addr} (h : At K F H σ S A) (p : Pu F H F' H') : At K F' H' σ S A :=
  ⟨p.fh, h.nd, fun a ha => (p.fo a (h.sl.dom a ha)).trans (h.fo a ha), h.sl.mono p.ff fun a ha => sub_eq p.hh (h.sl.dom a ha)⟩
/-- the footprint Av of a value, apart from all that was there at H -/
structure Frs (F H F' : Hp) (Av : List Addr) : Prop where
  nd : Av.Nodup
  fr : ∀ a ∈ Av, H a = none
  fo : ∀ a ∈ Av, F' a = none
/-- an exception e lies there, of the class c, its own dict at d -/
def ExcOk (K : Fg) (mg : Str → Option Value) (F H : Hp) (e : Exn) (c : Value) (d : Option Addr) : Prop :=
  mg e.c = some c ∧ ((e.fs = [] ∧ d = none) ∨ ∃ a kvs, d = some a ∧ F a = some (.xd kvs) ∧ ∀ f x, (f, x) ∈ e.fs → ∃ v, kvs.lookup f = some v ∧ Dp K F v x)

section
variable (K : Fg) (mg : Str → Option Value) (W : WX)
def XEr (F H : Hp) (σ : L2.St) (e : Exn) : Prop := ∀ F' H' c d, Pu F H F' H' → ExcOk K mg F' H' e c d → W c d σ H'
/-- the value can be read so -/
def XB (S : List Sl) (te : TE) {α : Type} (U : View α) (m : Res α) : Prop :=
  ∀ F H σ A, At K F H σ S A → ∀ Q : VK, Post m (fun x => ∀ v F' H', Pu F H F' H' → U.ok K F' H' v x → Q v H') (XEr K mg W F H σ) → te σ H Q
/-- a new value of one's own -/
def XO (S : List Sl) (te : TE) {α : Type} (r : Rp α) (m : Res α) : Prop :=
  ∀ F H σ A, At K F H σ S A → ∀ Q : VK, Post m (fun x => ∀ v F' H' Av, Pu F H F' H' → r.ok K F' H' v x Av → Frs F H F' Av → Q v H') (XEr K mg W F H σ) → te σ H Q
/-- a test -/
def XT (S : List Sl) (tt : TT) (m : Res Bool) : Prop :=
  ∀ F H σ A, At K F H σ S A → ∀ Q : Bool → Hp → Prop, Post m (fun b => ∀ F' H', Pu F H F' H' → Q b H') (XEr K mg W F H σ) → tt σ H Q
/-- frozen arguments -/
def XA (S : List Sl) (ta : TA) {τ : Type} (D : τ → List PyData) (m : Res τ) : Prop :=
  ∀ F H σ A, At K F H σ S A → ∀ Q : List V → Hp → Prop, Post m (fun t => ∀ vs F' H', Pu F H F' H' → DpAll K F' vs (D t) → Q vs H') (XEr K mg W F H σ) → ta σ H Q
/-- a call's arguments, as the callee's slots -/
def XG (S : List Sl) (ta : TA) {τ : Type} (G : τ → List Sl) (m : Res τ) : Prop :=
  ∀ F H σ A, At K F H σ S A → ∀ Q : List V → Hp → Prop, Post m (fun t => ∀ vs F' H' Ag, Pu F H F' H' → AtL K F' H' (vs.map some) (G t) Ag → Frs F H F' Ag → Q vs H') (XEr K mg W F H σ) → ta σ H Q
end

section
variable {K : Fg} {mg : Str → Option Value} {W : WX} {S : List Sl} {te ta tb tc : TE} {tt : TT} {tr : TA} {α β γ δ τ : Type}
theorem XEr.pu {F H F1 H1 : Hp} {σ : L2.St} {e : Exn} (h : XEr K mg W F H σ e) (p : Pu F H F1 H1) : XEr K mg W F1 H1 σ e := fun F' H' c d q x => h F' H' c d (p.trans q) x
theorem XB.le {U U' : View α} {m : Res α} (h : XB K mg W S te U m) (l : U.le U') : XB K mg W S te U' m := fun F H σ A a Q q =>
  h F H σ A a Q (q.imp (fun x k v F' H' p u => k v F' H' p (l _ _ _ _ _ p.fh u)) fun _ z => z)
theorem XO.view {r : Rp α} {U : View α} {m : Res α} (h : XO K mg W S te r m) (l : Vw r U) : XB K mg W S te U m := fun F H σ A a Q q =>
  h F H σ A a Q (q.imp (fun x k v F' H' Av p u fr => k v F' H' p (l _ _ _ _ _ _ p.fh u)) fun _ z => z)
/-- F with the objects at A as they stand in H -/
noncomputable def addF (F H : Hp) (A : List Addr) : Hp := fun a => open Classical in if a ∈ A then H a else F a
theorem addF_in {F H : Hp} {A : List Addr} {a : Addr} (h : a ∈ A) : addF F H A a = H a := by
  unfold addF
  exact if_pos h
theorem addF_out {F H : Hp} {A : List Addr} {a : Addr} (h : a ∉ A) : addF F H A a = F a := by
  unfold addF
  exact if_neg h
theorem Pu.add {F H F' H' : Hp} {Av : List Addr} (p : Pu F H F' H') (f : Frs F H F' Av) : Pu F H (addF F' H' Av) H' where
  ff := fun a o h => by
    by_cases z : a ∈ Av
    · have q := f.fo a z
      rw [p.ff a o h] at q
      cases q
    · rw [addF_out z]
      exact p.ff a o h
  hh := p.hh
  fh := fun a o h => by
    by_cases z : a ∈ Av
    · rw [addF_in z] at h
      exact h
    · rw [addF_out z] at h
      exact p.fh a o h
  fo := fun a h => by
    by_cases z : a ∈ Av
    · exact absurd (f.fr a z) h
    · rw [addF_out z]
      exact p.fo a h
theorem sub_add {F' H' : Hp} {Av : List Addr} (f : ∀ a ∈ Av, F' a = none) : Sub F' (addF F' H' Av) := fun a o h => by
  by_cases z : a ∈ Av
  · rw [f a z] at h
    cases h
  · rw [addF_out z]
    exact h
/-- .. frozen at once -/
theorem XO.frz {r : Rp α} {e : Enc α} {m : Res α} (h : XO K mg W S te r m) (l : Frz r e) : XB K mg W S te (vD e) m := fun F H σ A a Q q =>
  h F H σ A a Q (q.imp (fun x k v F' H' Av p u fr => k v _ H' (p.add fr) (l _ _ _ _ _ _ _ u (sub_add fr.fo) fun a ha => addF_in ha)) fun _ z => z)
theorem XB.own {e : Enc α} {m : Res α} (h : XB K mg W S te (vD e) m) : XO K mg W S te (fz e) m := fun F H σ A a Q q =>
  h F H σ A a Q (q.imp (fun x k v F' H' p u => k v F' H' [] p ⟨rfl, u⟩ ⟨List.nodup_nil, fun _ z => (by cases z), fun _ z => (by cases z)⟩) fun _ z => z)
/-- frozen data of one kind told as of another -/
theorem XB.cast {e : Enc α} {f : Enc β} {m : Res α} (h : XB K mg W S te (vD e) m) (g : α → β) (hg : ∀ x, f (g x) = e x) : XB K mg W S te (vD f) (m.bind fun x => .ok (g x)) := fun F H σ A a Q q =>
  h F H σ A a Q ((Post.of_bind q).imp (fun x k v F' H' p u => k v F' H' p (show Dp K F' v (f (g x)) by
    rw [hg]
    exact u)) fun _ z => z)
theorem XB.castM {e : Enc α} {f : Enc β} {m : Res α} (h : XB K mg W S te (vD e) m) (g : α → Res β) (hg : ∀ x, match g x with | .ok y => f y = e x | .er _ => False | .bad => True) : XB K mg W S te (vD f) (m.bind g) := fun F H σ A a Q q =>
  h F H σ A a Q ((Post.of_bind q).imp (fun x k v F' H' p u => by
    have := hg x
    cases y : g x with
    | ok z =>
      rw [y] at this k
      refine k v F' H' p (show Dp K F' v (f z) from ?_)
      rw [this]
      exact u
    | er z =>
      rw [y] at this
      exact this.elim
    | bad =>
      rw [y] at k
      exact k.elim) fun _ z => z)

/-! ### names, constants -/
theorem XB.var {i : Nat} {r : Rp α} {U : View α} {x : α} (h : S[i]? = some (.val r x)) (l : Vw r U) : XB K mg W S (tVar i) U (.ok x) := fun F H σ A a Q q => by
  obtain ⟨o, A1, Ai, A2, e1, e2, e3, _⟩ := a.sl.at h
  cases o with
  | none => exact e3.elim
  | some v => exact ⟨v, e1, q v F H (.refl a.fh) (l _ _ _ _ _ _ a.fh e3)⟩
theorem XB.v {i : Nat} {e : Enc α} {x : α} (h : S[i]? = some (.val (fz e) x)) : XB K mg W S (tVar i) (vD e) (.ok x) := XB.var h vw_fz
theorem XB.vL {i : Nat} {e : Enc α} {x : List α} (h : S[i]? = some (.val (ow (fz e)) x)) : XB K mg W S (tVar i) (TP.vL e) (.ok x) := XB.var h vw_ow
theorem XB.int {i : Int} : XB K mg W S (tC (.int i)) (vD eI) (.ok i) := fun F H σ A a Q q => q _ F H (.refl a.fh) (.int i)
theorem XB.bl {i : Bool} : XB K mg W S (tC (.bl i)) (vD eB) (.ok i) := fun F H σ A a Q q => q _ F H (.refl a.fh) (.bl i)
theorem XB.str {i : Str} : XB K mg W S (tC (.str i)) (vD eS) (.ok i) := fun F H σ A a Q q => q _ F H (.refl a.fh) (.str i)
theorem XB.non : XB K mg W S (tC .non) (vD eN) (.ok ()) := fun F H σ A a Q q => q _ F H (.refl a.fh) .non

/-! ### operations -/
theorem Frs.pu {F H F1 H1 F2 : Hp} {Av : List Addr} (p : Pu F H F1 H1) (f : Frs F1 H1 F2 Av) : Frs F H F2 Av := ⟨f.nd, fun a ha => p.hh.back (f.fr a ha), f.fo⟩
/-- an operation on two values that gives a value that can be read as U3 -/
def Op (K : Fg) (r : R2) (U1 : View α) (U2 : View β) (U3 : View γ) (g : α → β → Option γ) : Prop :=
  ∀ F H v u x y z, Sub F H → U1.ok K F H v x → U2.ok K F H u y → g x y = some z → ∀ Q : VK, (∀ w F' H', Pu F H F' H' → U3.ok K F' H' w z → Q w H') → r v u H Q
/-- .. a new value of one's own -/
def OpO (K : Fg) (r : R2) (U1 : View α) (U2 : View β) (r3 : Rp γ) (g : α → β → Option γ) : Prop :=
  ∀ F H v u x y z, Sub F H → U1.ok K F H v x → U2.ok K F H u y → g x y = some z → ∀ Q : VK, (∀ w F' H' Av, Pu F H F' H' → r3.ok K F' H' w z Av → Frs F H F' Av → Q w H') → r v u H Q
/-- on one value -/
def Un1 (K : Fg) (r : V → Hp → VK → Prop) (U1 : View α) (U3 : View γ) (g : α → Option γ) : Prop :=
  ∀ F H v x z, Sub F H → U1.ok K F H v x → g x = some z → ∀ Q : VK, (∀ w F' H', Pu F H F' H' → U3.ok K F' H' w z → Q w H') → r v H Q
/-- a call of a known value with one, two values -/
def Cl1 (K : Fg) (r : List V → Hp → VK → Prop) (U1 : View α) (U3 : View γ) (g : α → Option γ) : Prop :=
  ∀ F H v x z, Sub F H → U1.ok K F H v x → g x = some z → ∀ Q : VK, (∀ w F' H', Pu F H F' H' → U3.ok K F' H' w z → Q w H') → r [v] H Q
def Cl1O (K : Fg) (r : List V → Hp → VK → Prop) (U1 : View α) (r3 : Rp γ) (g : α → Option γ) : Prop :=
  ∀ F H v x z, Sub F H → U1.ok K F H v x → g x = some z → ∀ Q : VK, (∀ w F' H' Av, Pu F H F' H' → r3.ok K F' H' w z Av → Frs F H F' Av → Q w H') → r [v] H Q
def Cl2 (K : Fg) (r : List V → Hp → VK → Prop) (U1 : View α) (U2 : View β) (U3 : View γ) (g : α → β → Option γ) : Prop :=
  ∀ F H v u x y z, Sub F H → U1.ok K F H v x → U2.ok K F H u y → g x y = some z → ∀ Q : VK, (∀ w F' H', Pu F H F' H' → U3.ok K F' H' w z → Q w H') → r [v, u] H Q
/-- two in a row -/
theorem XB.two {U1 : View α} {U2 : View β} {ma : Res α} {mb : Res β} {P : α → β → Prop} (ha : XB K mg W S ta U1 ma) (hb : XB K mg W S tb U2 mb) {F H : Hp} {σ : L2.St} {A : List Addr} (a : At K F H σ S A) {R : V → Hp → V → Hp → Prop}
    (q : Post ma (fun x => Post mb (P x) (XEr K mg W F H σ)) (XEr K mg W F H σ))
    (h : ∀ x y v u F2 H2, P x y → Pu F H F2 H2 → U1.ok K F2 H2 v x → U2.ok K F2 H2 u y → ∀ H1, R v H1 u H2) : ta σ H fun v H1 => tb σ H1 fun u H2 => R v H1 u H2 :=
  ha F H σ A a _ (q.imp (fun x k v F1 H1 p1 u1 => hb F1 H1 σ A (a.pu p1) _ (k.imp (fun y k2 w F2 H2 p2 u2 => h x y v w F2 H2 k2 (p1.trans p2) (U1.mono u1 p2.ff p2.hh) u2 H1) fun e z => z.pu p1)) fun e z => z)
theorem XB.op {r : R2} {U1 : View α} {U2 : View β} {U3 : View γ} {ma : Res α} {mb : Res β} {g : α → β → Option γ} (ho : Op K r U1 U2 U3 g) (ha : XB K mg W S ta U1 ma) (hb : XB K mg W S tb U2 mb) :
    XB K mg W S (tOp r ta tb) U3 (ma.bind fun x => mb.bind fun y => chk (g x y)) := fun F H σ A a Q q =>
  ha.two hb a ((Post.of_bind q).imp (fun x k => Post.of_bind k) fun e z => z) fun x y v u F2 H2 k p u1 u2 H1 => by
    obtain ⟨z, e, k⟩ := Post.of_chk k
    exact ho F2 H2 v u x y z p.fh u1 u2 e Q fun w F3 H3 p3 u3 => k w F3 H3 (p.trans p3) u3
theorem XO.op {r : R2} {U1 : View α} {U2 : View β} {r3 : Rp γ} {ma : Res α} {mb : Res β} {g : α → β → Option γ} (ho : OpO K r U1 U2 r3 g) (ha : XB K mg W S ta U1 ma) (hb : XB K mg W S tb U2 mb) :
    XO K mg W S (tOp r ta tb) r3 (ma.bind fun x => mb.bind fun y => chk (g x y)) := fun F H σ A a Q q =>
  ha.two hb a ((Post.of_bind q).imp (fun x k => Post.of_bind k) fun e z => z) fun x y v u F2 H2 k p u1 u2 H1 => by
    obtain ⟨z, e, k⟩ := Post.of_chk k
    exact ho F2 H2 v u x y z p.fh u1 u2 e Q fun w F3 H3 Av p3 u3 fr => k w F3 H3 Av (p.trans p3) u3 (fr.pu p)
theorem XB.un {r : V → Hp → VK → Prop} {U1 : View α} {U3 : View γ} {ma : Res α} {g : α → Option γ} (ho : Un1 K r U1 U3 g) (ha : XB K mg W S ta U1 ma) : XB K mg W S (tUn r ta) U3 (ma.bind fun x => chk (g x)) := fun F H σ A a Q q =>
  ha F H σ A a _ ((Post.of_bind q).imp (fun x k v F1 H1 p1 u1 => by
    obtain ⟨z, e, k⟩ := Post.of_chk k
    exact ho F1 H1 v x z p1.fh u1 e Q fun w F3 H3 p3 u3 => k w F3 H3 (p1.trans p3) u3) fun e z => z)
theorem XB.cl1 {r : List V → Hp → VK → Prop} {U1 : View α} {U3 : View γ} {ma : Res α} {g : α → Option γ} (ho : Cl1 K r U1 U3 g) (ha : XB K mg W S ta U1 ma) : XB K mg W S (tCB r (tCons ta tNil)) U3 (ma.bind fun x => chk (g x)) := fun F H σ A a Q q =>
  ha F H σ A a _ ((Post.of_bind q).imp (fun x k v F1 H1 p1 u1 => by
    obtain ⟨z, e, k⟩ := Post.of_chk k
    exact ho F1 H1 v x z p1.fh u1 e Q fun w F3 H3 p3 u3 => k w F3 H3 (p1.trans p3) u3) fun e z => z)
theorem XO.cl1 {r : List V → Hp → VK → Prop} {U1 : View α} {r3 : Rp γ} {ma : Res α} {g : α → Option γ} (ho : Cl1O K r U1 r3 g) (ha : XB K mg W S ta U1 ma) : XO K mg W S (tCB r (tCons ta tNil)) r3 (ma.bind fun x => chk (g x)) := fun F H σ A a Q q =>
  ha F H σ A a _ ((Post.of_bind q).imp (fun x k v F1 H1 p1 u1 => by
    obtain ⟨z, e, k⟩ := Post.of_chk k
    exact ho F1 H1 v x z p1.fh u1 e Q fun w F3 H3 Av p3 u3 fr => k w F3 H3 Av (p1.trans p3) u3 (fr.pu p1)) fun e z => z)
theorem XB.cl2 {r : List V → Hp → VK → Prop} {U1 : View α} {U2 : View β} {U3 : View γ} {ma : Res α} {mb : Res β} {g : α → β → Option γ} (ho : Cl2 K r U1 U2 U3 g) (ha : XB K mg W S ta U1 ma) (hb : XB K mg W S tb U2 mb) :
    XB K mg W S (tCB r (tCons ta (tCons tb tNil))) U3 (ma.bind fun x => mb.bind fun y => chk (g x y)) := fun F H σ A a Q q =>
  ha.two hb a ((Post.of_bind q).imp (fun x k => Post.of_bind k) fun e z => z) fun x y v u F2 H2 k p u1 u2 H1 => by
    obtain ⟨z, e, k⟩ := Post.of_chk k
    exact ho F2 H2 v u x y z p.fh u1 u2 e Q fun w F3 H3 p3 u3 => k w F3 H3 (p.trans p3) u3

/-! ### tests -/
theorem XT.tst {m : Res Bool} (h : XB K mg W S te (vD eB) m) : XT K mg W S (tTest te) m := fun F H σ A a Q q =>
  h F H σ A a _ (q.imp (fun b k v F' H' p u => ⟨b, dp_bl u, k F' H' p⟩) fun _ z => z)
theorem XT.tB {m : Res Bool} (h : XB K mg W S te (vD eB) m) : XT K mg W S (L2.tB te) m := fun F H σ A a Q q =>
  h F H σ A a _ (q.imp (fun b k v F' H' p u => ⟨b, dp_bl u, k F' H' p⟩) fun _ z => z)
theorem XT.not {m : Res Bool} (h : XT K mg W S tt m) : XT K mg W S (tNot tt) (m.bind fun b => .ok (!b)) := fun F H σ A a Q q =>
  h F H σ A a _ ((Post.of_bind q).imp (fun b k F' H' p => k F' H' p) fun _ z => z)
/-- m1 and then, if it is so, m2 -/
def andR (m1 m2 : Res Bool) : Res Bool := m1.bind fun b => if b then m2 else .ok false
def orR (m1 m2 : Res Bool) : Res Bool := m1.bind fun b => if b then .ok true else m2
theorem XT.and {t2 : TT} {m1 m2 : Res Bool} (h1 : XT K mg W S tt m1) (h2 : XT K mg W S t2 m2) : XT K mg W S (tAnd tt t2) (andR m1 m2) := fun F H σ A a Q q =>
  h1 F H σ A a _ ((Post.of_bind q).imp (fun b k F' H' p => by
    cases b with
    | true =>
      show t2 σ H' Q
      exact h2 F' H' σ A (a.pu p) Q (Post.imp k (fun c k2 F2 H2 p2 => k2 F2 H2 (p.trans p2)) fun e z => z.pu p)
    | false =>
      show Q false H'
      exact k F' H' p) fun _ z => z)
theorem XT.or {t2 : TT} {m1 m2 : Res Bool} (h1 : XT K mg W S tt m1) (h2 : XT K mg W S t2 m2) : XT K mg W S (tOr tt t2) (orR m1 m2) := fun F H σ A a Q q =>
  h1 F H σ A a _ ((Post.of_bind q).imp (fun b k F' H' p => by
    cases b with
    | false =>
      show t2 σ H' Q
      exact h2 F' H' σ A (a.pu p) Q (Post.imp k (fun c k2 F2 H2 p2 => k2 F2 H2 (p.trans p2)) fun e z => z.pu p)
    | true =>
      show Q true H'
      exact k F' H' p) fun _ z => z)
theorem XB.andV {m1 m2 : Res Bool} (h1 : XB K mg W S ta (vD eB) m1) (h2 : XB K mg W S tb (vD eB) m2) : XB K mg W S (tAndV ta tb) (vD eB) (andR m1 m2) := fun F H σ A a Q q =>
  h1 F H σ A a _ ((Post.of_bind q).imp (fun b k v F' H' p u => ⟨b, dp_bl u, by
    cases b with
    | true =>
      show tb σ H' Q
      exact h2 F' H' σ A (a.pu p) Q (Post.imp k (fun c k2 v2 F2 H2 p2 => k2 v2 F2 H2 (p.trans p2)) fun e z => z.pu p)
    | false =>
      show Q (.bl false) H'
      exact k _ F' H' p (.bl false)⟩) fun _ z => z)
theorem XB.orV {m1 m2 : Res Bool} (h1 : XB K mg W S ta (vD eB) m1) (h2 : XB K mg W S tb (vD eB) m2) : XB K mg W S (tOrV ta tb) (vD eB) (orR m1 m2) := fun F H σ A a Q q =>
  h1 F H σ A a _ ((Post.of_bind q).imp (fun b k v F' H' p u => ⟨b, dp_bl u, by
    cases b with
    | false =>
      show tb σ H' Q
      exact h2 F' H' σ A (a.pu p) Q (Post.imp k (fun c k2 v2 F2 H2 p2 => k2 v2 F2 H2 (p.trans p2)) fun e z => z.pu p)
    | true =>
      show Q (.bl true) H'
      exact k _ F' H' p (.bl true)⟩) fun _ z => z)
theorem XB.notV {m : Res Bool} (h : XB K mg W S ta (vD eB) m) : XB K mg W S (tNotV ta) (vD eB) (m.bind fun b => .ok (!b)) := fun F H σ A a Q q =>
  h F H σ A a _ ((Post.of_bind q).imp (fun b k v F' H' p u => ⟨b, dp_bl u, k _ F' H' p (.bl _)⟩) fun _ z => z)
def ifR {α : Type} (m : Res Bool) (x y : Res α) : Res α := m.bind fun b => if b then x else y
theorem XB.ifE {U : View α} {m : Res Bool} {x y : Res α} (h : XT K mg W S tt m) (h1 : XB K mg W S ta U x) (h2 : XB K mg W S tb U y) : XB K mg W S (tIf tt ta tb) U (ifR m x y) := fun F H σ A a Q q =>
  h F H σ A a _ ((Post.of_bind q).imp (fun b k F' H' p => by
    cases b with
    | true =>
      show ta σ H' Q
      exact h1 F' H' σ A (a.pu p) Q (Post.imp k (fun c k2 v2 F2 H2 p2 => k2 v2 F2 H2 (p.trans p2)) fun e z => z.pu p)
    | false =>
      show tb σ H' Q
      exact h2 F' H' σ A (a.pu p) Q (Post.imp k (fun c k2 v2 F2 H2 p2 => k2 v2 F2 H2 (p.trans p2)) fun e z => z.pu p)) fun _ z => z)
theorem XO.ifE {r : Rp α} {m : Res Bool} {x y : Res α} (h : XT K mg W S tt m) (h1 : XO K mg W S ta r x) (h2 : XO K mg W S tb r y) : XO K mg W S (tIf tt ta tb) r (ifR m x y) := fun F H σ A a Q q =>
  h F H σ A a _ ((Post.of_bind q).imp (fun b k F' H' p => by
    cases b with
    | true =>
      show ta σ H' Q
      exact h1 F' H' σ A (a.pu p) Q (Post.imp k (fun c k2 v2 F2 H2 Av p2 u fr => k2 v2 F2 H2 Av (p.trans p2) u (fr.pu p)) fun e z => z.pu p)
    | false =>
      show tb σ H' Q
      exact h2 F' H' σ A (a.pu p) Q (Post.imp k (fun c k2 v2 F2 H2 Av p2 u fr => k2 v2 F2 H2 Av (p.trans p2) u (fr.pu p)) fun e z => z.pu p)) fun _ z => z)

/-! ### arguments, displays, calls -/
theorem XA.nil : XA K mg W S tNil (fun _ : Unit => []) (.ok ()) := fun F H σ A a Q q => q [] F H (.refl a.fh) .nil
theorem XA.cons {e : Enc α} {D : τ → List PyData} {ma : Res α} {mr : Res τ} (ha : XB K mg W S ta (vD e) ma) (hr : XA K mg W S tr D mr) :
    XA K mg W S (tCons ta tr) (fun p : α × τ => e p.1 :: D p.2) (ma.bind fun x => mr.bind fun t => .ok (x, t)) := fun F H σ A a Q q =>
  ha F H σ A a _ ((Post.of_bind q).imp (fun x k v F1 H1 p1 u1 => hr F1 H1 σ A (a.pu p1) _ ((Post.of_bind k).imp (fun t k2 vs F2 H2 p2 u2 =>
    k2 (v :: vs) F2 H2 (p1.trans p2) (.cons (dp_sub p2.ff u1) u2)) fun e z => z.pu p1)) fun e z => z)
theorem XB.tup {D : τ → List PyData} {e : Enc α} {m : Res τ} {n : Nat} (h : XA K mg W S tr D m) (f : τ → α) (hf : ∀ t, e (f t) = .tuple (D t)) (hn : ∀ t, (D t).length = n := by intro _; rfl) (hz : n ≤ sizeLine := by decide) :
    XB K mg W S (tTup tr) (vD e) (m.bind fun t => .ok (f t)) := fun F H σ A a Q q =>
  h F H σ A a _ ((Post.of_bind q).imp (fun t k vs F1 H1 p1 u1 => ⟨by
    rw [dpAll_len u1, hn]
    exact hz, fun p hp => by
    refine k (.ref p) (upd F1 p (.tup vs)) _ (p1.trans (.new p1.fh hp)) (show Dp _ _ _ (e (f t)) from ?_)
    rw [hf]
    exact .tup (.of upd_same) (dpAll_sub (.new (p1.fh.back hp)) u1)⟩) fun e z => z)
theorem XO.lst {D : τ → List PyData} {e : Enc α} {m : Res τ} {n : Nat} (h : XA K mg W S tr D m) (f : τ → List α) (hf : ∀ t, (f t).map e = D t) (hn : ∀ t, (D t).length = n := by intro _; rfl) (hz : n ≤ sizeLine := by decide) :
    XO K mg W S (tLst tr) (ow (fz e)) (m.bind fun t => .ok (f t)) := fun F H σ A a Q q =>
  h F H σ A a _ ((Post.of_bind q).imp (fun t k vs F1 H1 p1 u1 => ⟨by
    rw [dpAll_len u1, hn]
    exact hz, fun p hp => by
    refine k (.ref p) F1 _ [p] (p1.trans (.newO p1.fh hp)) ⟨p, vs, [], rfl, upd_same, rfl, okL_of ?_⟩ ⟨by simp, fun a ha => ?_, fun a ha => ?_⟩
    · rw [hf]
      exact u1
    · have z : a = p := by simpa using ha
      rw [z]
      exact p1.hh.back hp
    · have z : a = p := by simpa using ha
      rw [z]
      exact p1.fh.back hp⟩) fun e z => z)
theorem XG.nil : XG K mg W S tNil (fun _ : Unit => []) (.ok ()) := fun F H σ A a Q q => q [] F H [] (.refl a.fh) rfl ⟨List.nodup_nil, fun _ z => (by cases z), fun _ z => (by cases z)⟩
theorem XG.cons {r : Rp α} {G : τ → List Sl} {ma : Res α} {mr : Res τ} (ha : XO K mg W S ta r ma) (hr : XG K mg W S tr G mr) :
    XG K mg W S (tCons ta tr) (fun p : α × τ => .val r p.1 :: G p.2) (ma.bind fun x => mr.bind fun t => .ok (x, t)) := fun F H σ A a Q q =>
  ha F H σ A a _ ((Post.of_bind q).imp (fun x k v F1 H1 A1 p1 u1 fr1 => hr F1 H1 σ A (a.pu p1) _ ((Post.of_bind k).imp (fun t k2 vs F2 H2 A2 p2 u2 fr2 => by
    have keep : ∀ a ∈ A1, H2 a = H1 a := fun a ha => sub_eq p2.hh (r.dom u1 a ha)
    refine k2 (v :: vs) F2 H2 (A1 ++ A2) (p1.trans p2) ⟨A1, A2, rfl, r.mono u1 p2.ff keep, u2⟩ ⟨?_, fun a ha => ?_, fun a ha => ?_⟩
    · refine List.nodup_append.mpr ⟨fr1.nd, fr2.nd, fun x hx y hy z => ?_⟩
      subst z
      exact r.dom u1 x hx (fr2.fr x hy)
    · rcases List.mem_append.mp ha with z | z
      · exact fr1.fr a z
      · exact p1.hh.back (fr2.fr a z)
    · rcases List.mem_append.mp ha with z | z
      · exact (p2.fo a (r.dom u1 a z)).trans (fr1.fo a z)
      · exact fr2.fo a z) fun e z => z.pu p1)) fun e z => z)
/-- .. where nothing may be raised -/
def Res.noer {α : Type} (m : Res α) : Res α := match m with
  | .ok a => .ok a
  | .er _ => .bad
  | .bad => .bad
end
end TP

set_option Elab.async false
set_option linter.all false
set_option maxRecDepth 100000
set_option maxHeartbeats 4000000
/-! TP, part 2: statements, loops. -/
namespace TP
open PySem PySem.Spec L2

/-- how a block ends: it goes on, returns, breaks, continues -/
inductive Fl (α β τ : Type) where
  | nx (s : τ)
  | rt (x : α)
  | bk (s : β)
  | ct (s : β)
/-- what may have changed: new objects, and those at A -/
structure Nx (F H : Hp) (A : List Addr) (F' H' : Hp) (A' : List Addr) : Prop where
  ff : Sub F F'
  hh : ∀ a o, H a = some o → a ∉ A → H' a = some o
  fo : ∀ a, H a ≠ none → a ∉ A → F' a = F a
  aa : ∀ a ∈ A', a ∈ A ∨ H a = none
  hs : ∀ a, H a ≠ none → H' a ≠ none
theorem Nx.trans {F H F1 H1 F2 H2 : Hp} {A A1 A2 : List Addr} (x : Nx F H A F1 H1 A1) (y : Nx F1 H1 A1 F2 H2 A2) : Nx F H A F2 H2 A2 := by
  have no : ∀ a, H a ≠ none → a ∉ A → a ∉ A1 := fun a h n z => (x.aa a z).elim n fun q => h q
  refine ⟨x.ff.trans y.ff, fun a o h n => ?_, fun a h n => ?_, fun a h => ?_, fun a h => y.hs a (x.hs a h)⟩
  · have h' : H a ≠ none := by
      rw [h]
      exact fun z => nomatch z
    exact y.hh a o (x.hh a o h n) (no a h' n)
  · exact (y.fo a (x.hs a h) (no a h n)).trans (x.fo a h n)
  · rcases y.aa a h with z | z
    · exact x.aa a z
    · refine .inr ?_
      cases e : H a with
      | none => rfl
      | some o => exact absurd z (x.hs a (by rw [e]; exact fun z => nomatch z))
theorem Pu.nx {F H F' H' : Hp} (p : Pu F H F' H') {A A' : List Addr} (aa : ∀ a ∈ A', a ∈ A ∨ H a = none) : Nx F H A F' H' A' :=
  ⟨p.ff, fun a o h _ => p.hh a o h, fun a h _ => p.fo a h, aa, fun a h => ne_none_sub p.hh h⟩
theorem Nx.refl {F H : Hp} {A : List Addr} : Nx F H A F H A := ⟨.refl _, fun _ _ h _ => h, fun _ _ _ => rfl, fun _ h => .inl h, fun _ h => h⟩
theorem Nx.less {F H F' H' : Hp} {A A' A2 : List Addr} (x : Nx F H A F' H' A') (s : ∀ a ∈ A2, a ∈ A') : Nx F H A F' H' A2 := ⟨x.ff, x.hh, x.fo, fun a h => x.aa a (s a h), x.hs⟩

section
variable (K : Fg) (mg : Str → Option Value) (W : WX)
variable {α β τ : Type}
def YOk (F H : Hp) (A : List Addr) (R : Rp α) (B : β → List Sl) (N : Option (τ → List Sl)) (D : Ends) : Fl α β τ → Prop
  | .nx s => match N with
    | some N => ∀ F' H' σ' A', Nx F H A F' H' A' → At K F' H' σ' (N s) A' → D.nx σ' H'
    | none => False
  | .ct s => ∀ F' H' σ' A', Nx F H A F' H' A' → At K F' H' σ' (B s) A' → D.ct σ' H'
  | .bk s => ∀ F' H' σ' A', Nx F H A F' H' A' → At K F' H' σ' (B s) A' → D.bk σ' H'
  | .rt x => ∀ F' H' v Av, Nx F H A F' H' Av → Sub F' H' → R.ok K F' H' v x Av → Av.Nodup → (∀ a ∈ Av, F' a = none) → D.rt v H'
def YEr (F H : Hp) (A : List Addr) (e : Exn) : Prop := ∀ F' H' σ' c d, Nx F H A F' H' [] → Sub F' H' → ExcOk K mg F' H' e c d → W c d σ' H'
/-- it does not go on -/
def NoNx (m : Res (Fl α β τ)) : Prop := ∀ s, m ≠ .ok (.nx s)
/-- the block t, from the slots S on, does what the mirror m says -/
structure Y (S : List Sl) (t : TS) (R : Rp α) (B : β → List Sl) (N : Option (τ → List Sl)) (m : Res (Fl α β τ)) : Prop where
  no : N = none → NoNx m
  run : ∀ F H σ A, At K F H σ S A → ∀ D : Ends, Post m (YOk K F H A R B N D) (YEr K mg W F H A) → t D σ H
/-- fewer slots known -/
def Wk (S S' : List Sl) : Prop := ∀ (K : Fg) (F H : Hp) (σ : L2.St) (A : List Addr), AtL K F H σ S A → ∃ A', AtL K F H σ S' A' ∧ List.Sublist A' A
end
section
variable {K : Fg} {mg : Str → Option Value} {W : WX} {S S' : List Sl} {te ta tb tc : TE} {tt : TT} {t t1 t2 u : TS}
variable {α β τ τ1 ι γ : Type} {R : Rp α} {B : β → List Sl} {N : Option (τ → List Sl)}
theorem NoNx.bind {m : Res ι} {k : ι → Res (Fl α β τ)} (h : ∀ x, NoNx (k x)) : NoNx (m.bind k) := fun s e => by
  cases m with
  | ok x => exact h x s e
  | er e' => cases e
  | bad => cases e
theorem NoNx.rt {x : α} : NoNx (.ok (.rt x) : Res (Fl α β τ)) := fun s e => by cases e
theorem NoNx.bk {x : β} : NoNx (.ok (.bk x) : Res (Fl α β τ)) := fun s e => by cases e
theorem NoNx.ct {x : β} : NoNx (.ok (.ct x) : Res (Fl α β τ)) := fun s e => by cases e
theorem NoNx.ifR {b : Res Bool} {m n : Res (Fl α β τ)} (h1 : NoNx m) (h2 : NoNx n) : NoNx (TP.ifR b m n) := .bind fun b => by
  cases b with
  | true => exact h1
  | false => exact h2
theorem YOk.from {F H F1 H1 : Hp} {A A1 : List Addr} {D : Ends} (n : Nx F H A F1 H1 A1) : ∀ {fl : Fl α β τ}, YOk K F H A R B N D fl → YOk K F1 H1 A1 R B N D fl
  | .nx s, h => by
    cases N with
    | none => exact h
    | some N => exact fun F' H' σ' A' x a => h F' H' σ' A' (n.trans x) a
  | .ct s, h => fun F' H' σ' A' x a => h F' H' σ' A' (n.trans x) a
  | .bk s, h => fun F' H' σ' A' x a => h F' H' σ' A' (n.trans x) a
  | .rt x, h => fun F' H' v Av y s r q z => h F' H' v Av (n.trans y) s r q z
theorem YEr.from {F H F1 H1 : Hp} {A A1 : List Addr} {e : Exn} (n : Nx F H A F1 H1 A1) (h : YEr K mg W F H A e) : YEr K mg W F1 H1 A1 e := fun F' H' σ' c d x q => h F' H' σ' c d (n.trans x) q
theorem YEr.x {F H : Hp} {A : List Addr} {e : Exn} {σ : L2.St} (h : YEr K mg W F H A e) : XEr K mg W F H σ e := fun F' H' c d p x => h F' H' σ c d (p.nx fun _ z => (by cases z)) p.fh x
theorem Post.from {F H F1 H1 : Hp} {A A1 : List Addr} {D : Ends} {m : Res (Fl α β τ)} (n : Nx F H A F1 H1 A1) (h : Post m (YOk K F H A R B N D) (YEr K mg W F H A)) : Post m (YOk K F1 H1 A1 R B N D) (YEr K mg W F1 H1 A1) :=
  h.imp (fun _ q => q.from n) fun _ q => q.from n
/-- a slot set -/
theorem At.set {F H F' H' : Hp} {σ : L2.St} {A Av : List Addr} {i : Nat} {r : Rp ι} {x : ι} {v : V} (a : At K F H σ S A) (p : Pu F H F' H') (hr : r.ok K F' H' v x Av) (fr : Frs F H F' Av) (hi : i < S.length) :
    ∃ A', At K F' H' (σ.set i (some v)) (S.set i (.val r x)) A' ∧ Nx F H A F' H' A' := by
  obtain ⟨o, A1, Ai, A2, e1, e2, e3, e4⟩ := a.sl.at (i := i) (s := S[i]) (by simp [hi])
  have d := a.sl.dom
  subst e2
  have nd := a.nd
  have fo := a.fo
  have in1 : ∀ z ∈ A1, z ∈ A1 ++ (Ai ++ A2) := fun z h => List.mem_append_left _ h
  have in2 : ∀ z ∈ A2, z ∈ A1 ++ (Ai ++ A2) := fun z h => List.mem_append_right _ (List.mem_append_right _ h)
  have n1 := List.nodup_append.mp nd
  have n2 := List.nodup_append.mp n1.2.1
  refine ⟨A1 ++ (Av ++ A2), ⟨p.fh, ?_, fun z hz => ?_, e4 F' H' (some v) (.val r x) Av p.ff (fun z h => sub_eq p.hh (d z (h.elim (in1 z) (in2 z)))) hr⟩, p.nx fun z hz => ?_⟩
  · refine List.nodup_append.mpr ⟨n1.1, List.nodup_append.mpr ⟨fr.nd, n2.2.1, fun y hy w hw q => ?_⟩, fun y hy w hw q => ?_⟩
    · subst q
      exact d y (in2 y hw) (fr.fr y hy)
    · subst q
      rcases List.mem_append.mp hw with h | h
      · exact d y (in1 y hy) (fr.fr y h)
      · exact n1.2.2 y hy y (List.mem_append_right _ h) rfl
  · rcases List.mem_append.mp hz with h | h
    · exact (p.fo z (d z (in1 z h))).trans (fo z (in1 z h))
    · rcases List.mem_append.mp h with h | h
      · exact fr.fo z h
      · exact (p.fo z (d z (in2 z h))).trans (fo z (in2 z h))
  · rcases List.mem_append.mp hz with h | h
    · exact .inl (in1 z h)
    · rcases List.mem_append.mp h with h | h
      · exact .inr (fr.fr z h)
      · exact .inl (in2 z h)
theorem lt_some {i : Nat} (h : S[i]?.isSome = true) : i < S.length := by
  cases e : S[i]? with
  | none => rw [e] at h; cases h
  | some s => exact (List.getElem?_eq_some_iff.mp e).1
theorem frs0 {F H F' : Hp} : Frs F H F' [] := ⟨List.nodup_nil, fun _ z => (by cases z), fun _ z => (by cases z)⟩
theorem At.setF {F H F' H' : Hp} {σ : L2.St} {A : List Addr} {i : Nat} {e : Enc ι} {x : ι} {v : V} (a : At K F H σ S A) (p : Pu F H F' H') (hr : Dp K F' v (e x)) (hi : i < S.length) :
    ∃ A', At K F' H' (σ.set i (some v)) (S.set i (.val (fz e) x)) A' ∧ Nx F H A F' H' A' := a.set (r := fz e) p ⟨rfl, hr⟩ frs0 hi

/-! ### statements in a row -/
theorem Y.asgO {i : Nat} {r : Rp ι} {me : Res ι} {k : ι → Res (Fl α β τ)} (he : XO K mg W S te r me) (hu : ∀ x, Y K mg W (S.set i (.val r x)) u R B N (k x)) (hi : S[i]?.isSome = true) :
    Y K mg W S (tSeq (tAsg te (gName i)) u) R B N (me.bind k) := ⟨fun h => .bind fun x => (hu x).no h, fun F H σ A a D q =>
  he F H σ A a _ ((Post.of_bind q).imp (fun x k2 v F' H' Av p hr fr => by
    obtain ⟨A', a', n⟩ := a.set p hr fr (lt_some hi)
    exact (hu x).run F' H' _ A' a' D (k2.from n)) fun e z => z.x)⟩
theorem Y.asg {i : Nat} {e : Enc ι} {me : Res ι} {k : ι → Res (Fl α β τ)} (he : XB K mg W S te (vD e) me) (hu : ∀ x, Y K mg W (S.set i (.val (fz e) x)) u R B N (k x)) (hi : S[i]?.isSome = true) :
    Y K mg W S (tSeq (tAsg te (gName i)) u) R B N (me.bind k) := Y.asgO he.own hu hi
theorem Y.drop {U : View ι} {me : Res ι} {k : ι → Res (Fl α β τ)} (he : XB K mg W S te U me) (hu : ∀ x, Y K mg W S u R B N (k x)) :
    Y K mg W S (tSeq (tDrop te) u) R B N (me.bind k) := ⟨fun h => .bind fun x => (hu x).no h, fun F H σ A a D q =>
  he F H σ A a _ ((Post.of_bind q).imp (fun x k2 v F' H' p hr => (hu x).run F' H' σ A (a.pu p) D (k2.from (p.nx fun _ z => .inl z))) fun e z => z.x)⟩
theorem Y.ret {me : Res α} (he : XO K mg W S te R me) : Y K mg W S (tSeq (tRet te) u) R B N (me.bind fun x => .ok (.rt x)) := ⟨fun _ => .bind fun _ => .rt, fun F H σ A a D q =>
  he F H σ A a _ ((Post.of_bind q).imp (fun x k2 v F' H' Av p hr fr => k2 F' H' v Av (p.nx fun z h => .inr (fr.fr z h)) p.fh hr fr.nd fr.fo) fun e z => z.x)⟩
/-- return of a variable: it is handed over -/
theorem Y.retV {i : Nat} {x : α} (h : S[i]? = some (.val R x)) : Y K mg W S (tSeq (tRet (tVar i)) u) R B N (.ok (.rt x)) := ⟨fun _ => .rt, fun F H σ A a D q => by
  obtain ⟨o, A1, Ai, A2, e1, e2, e3, _⟩ := a.sl.at h
  cases o with
  | none => exact e3.elim
  | some v =>
    have n1 := List.nodup_append.mp (e2 ▸ a.nd)
    have n2 := List.nodup_append.mp n1.2.1
    have ins : ∀ z ∈ Ai, z ∈ A := fun z hz => by
      rw [e2]
      exact List.mem_append_right _ (List.mem_append_left _ hz)
    exact ⟨v, e1, q F H v Ai (Nx.refl.less ins) a.fh e3 n2.1 fun z hz => a.fo z (ins z hz)⟩⟩
theorem Y.retN {R : Rp Unit} (hR : R = fz eN) : Y K mg W S (tSeq tRetN u) R B N (.ok (.rt ())) := ⟨fun _ => .rt, fun F H σ A a D q => by
  subst hR
  exact q F H .non [] (Nx.refl.less fun _ z => (by cases z)) a.fh ⟨rfl, .non⟩ List.nodup_nil fun _ z => (by cases z)⟩
theorem Y.brk {s : β} (w : Wk S (B s)) : Y K mg W S (tSeq tBreak u) R B N (.ok (.bk s)) := ⟨fun _ => .bk, fun F H σ A a D q => by
  obtain ⟨A', h, sub⟩ := w K F H σ A a.sl
  exact q F H σ A' (Nx.refl.less fun z hz => sub.mem hz) ⟨a.fh, a.nd.sublist sub, fun z hz => a.fo z (sub.mem hz), h⟩⟩
theorem Y.cont {s : β} (w : Wk S (B s)) : Y K mg W S (tSeq tCont u) R B N (.ok (.ct s)) := ⟨fun _ => .ct, fun F H σ A a D q => by
  obtain ⟨A', h, sub⟩ := w K F H σ A a.sl
  exact q F H σ A' (Nx.refl.less fun z hz => sub.mem hz) ⟨a.fh, a.nd.sublist sub, fun z hz => a.fo z (sub.mem hz), h⟩⟩
theorem Y.nx {N : τ → List Sl} {s : τ} (w : Wk S (N s)) : Y K mg W S tNext R B (some N) (.ok (.nx s)) := ⟨fun h => (nomatch h), fun F H σ A a D q => by
  obtain ⟨A', h, sub⟩ := w K F H σ A a.sl
  exact q F H σ A' (Nx.refl.less fun z hz => sub.mem hz) ⟨a.fh, a.nd.sublist sub, fun z hz => a.fo z (sub.mem hz), h⟩⟩
theorem Y.pass {m : Res (Fl α β τ)} (h : Y K mg W S u R B N m) : Y K mg W S (tSeq tNext u) R B N m := ⟨h.no, h.run⟩
theorem Wk.refl : Wk S S := fun _ _ _ _ A h => ⟨A, h, .refl _⟩
theorem Wk.nil : Wk [] [] := .refl
theorem Wk.keep {s : Sl} (h : Wk S S') : Wk (s :: S) (s :: S') := fun K F H σ A x => by
  cases σ with
  | nil => exact x.elim
  | cons o σ =>
    obtain ⟨A1, A2, e, h1, h2⟩ := x
    obtain ⟨A', h3, sub⟩ := h K F H σ A2 h2
    subst e
    exact ⟨A1 ++ A', ⟨A1, A', rfl, h1, h3⟩, List.Sublist.append (.refl _) sub⟩
theorem Wk.drop {s : Sl} (h : Wk S S') : Wk (s :: S) (.nil :: S') := fun K F H σ A x => by
  cases σ with
  | nil => exact x.elim
  | cons o σ =>
    obtain ⟨A1, A2, e, h1, h2⟩ := x
    obtain ⟨A', h3, sub⟩ := h K F H σ A2 h2
    subst e
    exact ⟨A', ⟨[], A', rfl, rfl, h3⟩, sub.trans (List.sublist_append_right _ _)⟩
theorem Wk.trans {S2 : List Sl} (h : Wk S S') (k : Wk S' S2) : Wk S S2 := fun K F H σ A x => by
  obtain ⟨A1, h1, s1⟩ := h K F H σ A x
  obtain ⟨A2, h2, s2⟩ := k K F H σ A1 h1
  exact ⟨A2, h2, s2.trans s1⟩
/-- told as of another kind -/
theorem Wk.as {e : Enc ι} {f : Enc γ} {x : ι} {y : γ} (q : e x = f y) (h : Wk S S') : Wk (.val (fz e) x :: S) (.val (fz f) y :: S') := fun K F H σ A z => by
  cases σ with
  | nil => exact z.elim
  | cons o σ =>
    obtain ⟨A1, A2, e, h1, h2⟩ := z
    obtain ⟨A', h3, sub⟩ := h K F H σ A2 h2
    subst e
    cases o with
    | none => exact h1.elim
    | some v =>
      refine ⟨A1 ++ A', ⟨A1, A', rfl, ⟨h1.1, ?_⟩, h3⟩, List.Sublist.append (.refl _) sub⟩
      rw [← q]
      exact h1.2
theorem Wk.nils : ∀ {S : List Sl} {n : Nat}, S.length = n → Wk S (List.replicate n .nil)
  | [], 0, _ => .refl
  | s :: S, n + 1, h => .drop (Wk.nils (by simpa using h))
theorem Y.wk {m : Res (Fl α β τ)} (w : Wk S S') (h : Y K mg W S' t R B N m) : Y K mg W S t R B N m := ⟨h.no, fun F H σ A a D q => by
  obtain ⟨A', h1, sub⟩ := w K F H σ A a.sl
  exact h.run F H σ A' ⟨a.fh, a.nd.sublist sub, fun z hz => a.fo z (sub.mem hz), h1⟩ D (q.from (Nx.refl.less fun z hz => sub.mem hz))⟩
/-- an owned variable freezes -/
theorem Y.frz {i : Nat} {r : Rp ι} {e : Enc ι} {x : ι} {m : Res (Fl α β τ)} (hs : S[i]? = some (.val r x)) (l : Frz r e) (h : Y K mg W (S.set i (.val (fz e) x)) t R B N m) : Y K mg W S t R B N m := ⟨h.no, fun F H σ A a D q => by
  obtain ⟨o, A1, Ai, A2, e1, e2, e3, e4⟩ := a.sl.at hs
  cases o with
  | none => exact e3.elim
  | some v =>
    have d := a.sl.dom
    subst e2
    have fo := a.fo
    have n1 := List.nodup_append.mp a.nd
    have n2 := List.nodup_append.mp n1.2.1
    have in1 : ∀ z ∈ A1, z ∈ A1 ++ (Ai ++ A2) := fun z h => List.mem_append_left _ h
    have inI : ∀ z ∈ Ai, z ∈ A1 ++ (Ai ++ A2) := fun z h => List.mem_append_right _ (List.mem_append_left _ h)
    have in2 : ∀ z ∈ A2, z ∈ A1 ++ (Ai ++ A2) := fun z h => List.mem_append_right _ (List.mem_append_right _ h)
    have hf : Sub F (addF F H Ai) := sub_add fun z hz => fo z (inI z hz)
    have hv : Dp K (addF F H Ai) v (e x) := l _ _ _ _ _ _ _ e3 hf fun z hz => addF_in hz
    have key := e4 (addF F H Ai) H (some v) (.val (fz e) x) [] hf (fun _ _ => rfl) ⟨rfl, hv⟩
    have es : σ.set i (some v) = σ := by
      refine List.ext_getElem? fun j => ?_
      by_cases z : i = j
      · subst z
        rw [e1, List.getElem?_set_self (by
          obtain ⟨hl, _⟩ := List.getElem?_eq_some_iff.mp e1
          exact hl)]
      · rw [List.getElem?_set_ne z]
    rw [es] at key
    have sub : List.Sublist (A1 ++ ([] ++ A2)) (A1 ++ (Ai ++ A2)) := List.Sublist.append (.refl _) (List.sublist_append_right _ _)
    have notI : ∀ z, z ∈ A1 ++ ([] ++ A2) → z ∉ Ai := fun z hz hi => by
      rcases List.mem_append.mp hz with h | h
      · exact n1.2.2 z h z (List.mem_append_left _ hi) rfl
      · exact n2.2.2 z hi z (by simpa using h) rfl
    refine h.run (addF F H Ai) H σ (A1 ++ ([] ++ A2)) ⟨fun z o hz => ?_, a.nd.sublist sub, fun z hz => ?_, key⟩ D (q.from ⟨hf, fun _ _ h _ => h, fun z _ hn => addF_out fun hi => hn (inI z hi), fun z hz => .inl (sub.mem hz), fun _ h => h⟩)
    · by_cases hi : z ∈ Ai
      · rw [addF_in hi] at hz
        exact hz
      · rw [addF_out hi] at hz
        exact a.fh z o hz
    · rw [addF_out (notI z hz)]
      exact fo z (sub.mem hz)⟩

/-! ### blocks joined -/
def Res.flb {α β τ1 τ : Type} (m : Res (Fl α β τ1)) (k : τ1 → Res (Fl α β τ)) : Res (Fl α β τ) := m.bind fun fl => match fl with
  | .nx s => k s
  | .rt x => .ok (.rt x)
  | .bk s => .ok (.bk s)
  | .ct s => .ok (.ct s)
theorem NoNx.flb {m : Res (Fl α β τ1)} {k : τ1 → Res (Fl α β τ)} (h : ∀ s, NoNx (k s)) : NoNx (m.flb k) := .bind fun fl => match fl with
  | .nx s => h s
  | .rt x => .rt
  | .bk s => .bk
  | .ct s => .ct
theorem Y.seq {N1 : τ1 → List Sl} {m1 : Res (Fl α β τ1)} {k : τ1 → Res (Fl α β τ)} (h1 : Y K mg W S t R B (some N1) m1) (hu : ∀ s, Y K mg W (N1 s) u R B N (k s)) : Y K mg W S (tSeq t u) R B N (m1.flb k) := ⟨fun h => .flb fun s => (hu s).no h, fun F H σ A a D q =>
  h1.run F H σ A a _ ((Post.of_bind q).imp (fun fl k2 => match fl, k2 with
    | .nx s, k2 => fun F' H' σ' A' n a' => (hu s).run F' H' σ' A' a' D (Post.from n k2)
    | .rt x, k2 => k2
    | .bk s, k2 => k2
    | .ct s, k2 => k2) fun e z => z)⟩
theorem YOk.any {F H : Hp} {A : List Addr} {D : Ends} {X : L2.St → Hp → Prop} {N' : Option (τ → List Sl)} : ∀ {fl : Fl α β τ}, (∀ s, fl ≠ .nx s) → YOk K F H A R B N D fl → YOk K F H A R B N' { D with nx := X } fl
  | .nx s, h, _ => absurd rfl (h s)
  | .ct s, _, h => h
  | .bk s, _, h => h
  | .rt x, _, h => h
theorem Post.any {F H : Hp} {A : List Addr} {D : Ends} {X : L2.St → Hp → Prop} {N' : Option (τ → List Sl)} {m : Res (Fl α β τ)} (no : NoNx m) (h : Post m (YOk K F H A R B N D) (YEr K mg W F H A)) : Post m (YOk K F H A R B N' { D with nx := X }) (YEr K mg W F H A) := by
  cases m with
  | ok fl => exact YOk.any (fun s e => no s (by rw [e])) h
  | er e => exact h
  | bad => exact h
/-- a statement that does not go on; what stands behind it is not looked at -/
theorem Y.seqT {m : Res (Fl α β τ)} (h1 : Y K mg W S t R B (none : Option (τ → List Sl)) m) : Y K mg W S (tSeq t u) R B N m := ⟨fun _ => h1.no rfl, fun F H σ A a D q =>
  h1.run F H σ A a _ (Post.any (h1.no rfl) q)⟩
theorem Y.if0 {mb : Res Bool} {m1 m2 : Res (Fl α β τ)} (hb : XT K mg W S tt mb) (h1 : Y K mg W S t R B N m1) (h2 : Y K mg W S u R B N m2) : Y K mg W S (tIfS tt t u) R B N (ifR mb m1 m2) := ⟨fun h => .ifR (h1.no h) (h2.no h), fun F H σ A a D q =>
  hb F H σ A a _ ((Post.of_bind q).imp (fun b k F' H' p => by
    have n : Nx F H A F' H' A := p.nx fun _ z => .inl z
    cases b with
    | true =>
      show t D σ H'
      exact h1.run F' H' σ A (a.pu p) D (Post.from n k)
    | false =>
      show u D σ H'
      exact h2.run F' H' σ A (a.pu p) D (Post.from n k)) fun _ z => z.x)⟩
/-- if c: a block that does not go on; the rest -/
theorem Y.ifT {mb : Res Bool} {m1 m2 : Res (Fl α β τ)} (hb : XT K mg W S tt mb) (h1 : Y K mg W S t R B (none : Option (τ → List Sl)) m1) (h2 : Y K mg W S u R B N m2) : Y K mg W S (tSeq (tIfS tt t tNext) u) R B N (ifR mb m1 m2) := ⟨fun h => .ifR (h1.no rfl) (h2.no h), fun F H σ A a D q =>
  hb F H σ A a _ ((Post.of_bind q).imp (fun b k F' H' p => by
    have n : Nx F H A F' H' A := p.nx fun _ z => .inl z
    cases b with
    | true =>
      show t { D with nx := u D } σ H'
      exact h1.run F' H' σ A (a.pu p) _ (Post.any (h1.no rfl) (Post.from n k))
    | false =>
      show u D σ H'
      exact h2.run F' H' σ A (a.pu p) D (Post.from n k)) fun _ z => z.x)⟩
/-- if c: ..; else: a block that does not go on; the rest -/
theorem Y.ifF {mb : Res Bool} {m1 m2 : Res (Fl α β τ)} (hb : XT K mg W S tt mb) (h1 : Y K mg W S (tSeq t1 u) R B N m1) (h2 : Y K mg W S t2 R B (none : Option (τ → List Sl)) m2) : Y K mg W S (tSeq (tIfS tt t1 t2) u) R B N (ifR mb m1 m2) := ⟨fun h => .ifR (h1.no h) (h2.no rfl), fun F H σ A a D q =>
  hb F H σ A a _ ((Post.of_bind q).imp (fun b k F' H' p => by
    have n : Nx F H A F' H' A := p.nx fun _ z => .inl z
    cases b with
    | true =>
      show t1 { D with nx := u D } σ H'
      exact h1.run F' H' σ A (a.pu p) _ (Post.from n k)
    | false =>
      show t2 { D with nx := u D } σ H'
      exact h2.run F' H' σ A (a.pu p) _ (Post.any (h2.no rfl) (Post.from n k))) fun _ z => z.x)⟩
/-- if c: a block that does not go on; else: ..; the rest -/
theorem Y.ifTE {mb : Res Bool} {m1 m2 : Res (Fl α β τ)} (hb : XT K mg W S tt mb) (h1 : Y K mg W S t1 R B (none : Option (τ → List Sl)) m1) (h2 : Y K mg W S (tSeq t2 u) R B N m2) : Y K mg W S (tSeq (tIfS tt t1 t2) u) R B N (ifR mb m1 m2) := ⟨fun h => .ifR (h1.no rfl) (h2.no h), fun F H σ A a D q =>
  hb F H σ A a _ ((Post.of_bind q).imp (fun b k F' H' p => by
    have n : Nx F H A F' H' A := p.nx fun _ z => .inl z
    cases b with
    | true =>
      show t1 { D with nx := u D } σ H'
      exact h1.run F' H' σ A (a.pu p) _ (Post.any (h1.no rfl) (Post.from n k))
    | false =>
      show t2 { D with nx := u D } σ H'
      exact h2.run F' H' σ A (a.pu p) _ (Post.from n k)) fun _ z => z.x)⟩

/-! ### what a loop walks -/
/-- the iterator J gives the frozen items xs -/
def Walk (K : Fg) (e : Enc ι) (J : It) (F : Hp) (xs : List ι) : Prop := ∀ F2 H2, Sub F F2 → Sub F2 H2 → ∀ i : Nat, (xs.length ≤ i → J.stop i H2) ∧
  ∀ x, xs[i]? = some x → J.go i H2 ∧ ∀ v H', J.yld i H2 v H' → ∃ F', Pu F2 H2 F' H' ∧ Dp K F' v (e x)
def XI (K : Fg) (mg : Str → Option Value) (W : WX) (S : List Sl) (wi : TI) (e : Enc ι) (m : Res (List ι)) : Prop :=
  ∀ F H σ A, At K F H σ S A → ∀ Q : It → Hp → Prop, Post m (fun xs => ∀ J F' H', Pu F H F' H' → Walk K e J F' xs → Q J H') (XEr K mg W F H σ) → wi σ H Q
theorem XI.list {e : Enc ι} {m : Res (List ι)} (h : XB K mg W S te (vD (eL e)) m) : XI K mg W S (iList K te) e m := fun F H σ A a Q q =>
  h F H σ A a _ (q.imp (fun xs k v F' H' p u => by
    obtain ⟨a, vs, rfl, h1, h2⟩ := dp_lst u
    refine ⟨a, rfl, ⟨vs, sqL_sub p.fh h1⟩, k _ F' H' p fun F2 H2 s1 s2 i => ⟨fun hi => ⟨vs, sqL_sub (s1.trans s2) h1, by
      rw [dpAll_len h2, List.length_map]
      exact hi⟩, fun x hx => ?_⟩⟩
    obtain ⟨v, h3, h4⟩ := dpAll_get (d := e x) h2 (by rw [List.getElem?_map, hx]; rfl)
    refine ⟨⟨vs, v, sqL_sub (s1.trans s2) h1, h3⟩, fun w H' y => ?_⟩
    obtain ⟨rfl, hy⟩ := y
    refine ⟨F2, .refl s2, ?_⟩
    have := hy vs (sqL_sub (s1.trans s2) h1)
    rw [h3] at this
    cases this
    exact dp_sub s1 h4) fun _ z => z)
theorem XI.tup {e : Enc ι} {m : Res (List ι)} (h : XB K mg W S te (vD (eV e)) m) : XI K mg W S (iTup K te) e m := fun F H σ A a Q q =>
  h F H σ A a _ (q.imp (fun xs k v F' H' p u => by
    obtain ⟨a, vs, rfl, h1, h2⟩ := dp_tup u
    refine ⟨a, rfl, ⟨vs, sqT_sub p.fh h1⟩, k _ F' H' p fun F2 H2 s1 s2 i => ⟨fun hi => ⟨vs, sqT_sub (s1.trans s2) h1, by
      rw [dpAll_len h2, List.length_map]
      exact hi⟩, fun x hx => ?_⟩⟩
    obtain ⟨v, h3, h4⟩ := dpAll_get (d := e x) h2 (by rw [List.getElem?_map, hx]; rfl)
    refine ⟨⟨vs, v, sqT_sub (s1.trans s2) h1, h3⟩, fun w H' y => ?_⟩
    obtain ⟨rfl, hy⟩ := y
    refine ⟨F2, .refl s2, ?_⟩
    have := hy vs (sqT_sub (s1.trans s2) h1)
    rw [h3] at this
    cases this
    exact dp_sub s1 h4) fun _ z => z)
/-- lo, lo + 1, .. below hi -/
@[irreducible] def rangeL (lo hi : Int) : List Int := (List.range (hi - lo).toNat).map fun i => lo + (i : Nat)
@[irreducible] def okRange (lo hi : Int) : Option (List Int) := if -(2 ^ 62) ≤ lo ∧ lo < 2 ^ 62 ∧ -(2 ^ 62) ≤ hi ∧ hi < 2 ^ 62 then some (rangeL lo hi) else none
theorem walk_range {lo hi : Int} {F : Hp} : Walk K eI (Itr lo (hi - lo).toNat) F (rangeL lo hi) := fun F2 H2 s1 s2 i => by
  have el : (rangeL lo hi).length = (hi - lo).toNat := by
    unfold rangeL
    rw [List.length_map, List.length_range]
  refine ⟨fun h => by
    rw [el] at h
    exact h, fun x hx => ?_⟩
  have hi : i < (hi - lo).toNat := by
    have := (List.getElem?_eq_some_iff.mp hx).1
    rw [el] at this
    exact this
  unfold rangeL at hx
  rw [List.getElem?_map, List.getElem?_range hi] at hx
  refine ⟨hi, fun v H' y => ?_⟩
  obtain ⟨rfl, rfl⟩ := y
  have hx' : lo + (i : Int) = x := Option.some.inj hx
  subst hx'
  exact ⟨F2, .refl s2, .int _⟩
theorem XI.rng1 {m : Res Int} (h : XB K mg W S te (vD eI) m) : XI K mg W S (iRng1 (tCons te tNil)) eI (m.bind fun n => chk (okRange 0 n)) := fun F H σ A a Q q =>
  h F H σ A a _ ((Post.of_bind q).imp (fun n k v F' H' p u => by
    obtain ⟨z, e, k⟩ := Post.of_chk k
    unfold okRange at e
    split at e
    · rename_i c
      cases e
      refine ⟨n, by rw [dp_int u], c.2.2.1, c.2.2.2, k _ F' H' p ?_⟩
      have := walk_range (K := K) (lo := 0) (hi := n) (F := F')
      rw [Int.sub_zero] at this
      exact this
    · cases e) fun _ z => z)
theorem XI.rng2 {m1 m2 : Res Int} (h1 : XB K mg W S ta (vD eI) m1) (h2 : XB K mg W S tb (vD eI) m2) : XI K mg W S (iRng2 (tCons ta (tCons tb tNil))) eI (m1.bind fun lo => m2.bind fun hi => chk (okRange lo hi)) := fun F H σ A a Q q =>
  h1.two h2 a ((Post.of_bind q).imp (fun x k => Post.of_bind k) fun e z => z) fun x y v u F2 H2 k p u1 u2 H1 => by
    obtain ⟨z, e, k⟩ := Post.of_chk k
    unfold okRange at e
    split at e
    · rename_i c
      cases e
      exact ⟨x, y, by rw [dp_int u1, dp_int u2], ⟨c.1, c.2.1, c.2.2.1, c.2.2.2⟩, k _ F2 H2 p walk_range⟩
    · cases e

/-! ### targets -/
theorem wipe_set {σ : L2.St} {i : Nat} {x : Option V} : ∀ {vs : List Nat}, i ∈ vs → wipe (σ.set i x) vs = wipe σ vs
  | [], h => nomatch h
  | v :: vs, h => by
    show (wipe (σ.set i x) vs).set v none = (wipe σ vs).set v none
    by_cases k : i ∈ vs
    · rw [wipe_set k]
    · have e : i = v := by
        rcases List.mem_cons.mp h with z | z
        · exact z
        · exact absurd z k
      subst e
      have gen : ∀ ws : List Nat, i ∉ ws → (wipe (σ.set i x) ws).set i none = (wipe σ ws).set i none := by
        intro ws
        induction ws with
        | nil =>
          intro _
          show (σ.set i x).set i none = σ.set i none
          rw [List.set_set]
        | cons w ws ih =>
          intro hw
          have hne : w ≠ i := fun z => hw (by rw [z]; exact List.mem_cons_self)
          show ((wipe (σ.set i x) ws).set w none).set i none = ((wipe σ ws).set w none).set i none
          rw [List.set_comm _ _ hne, ih (fun z => hw (List.mem_cons_of_mem _ z)), List.set_comm _ _ hne]
      exact gen vs k
/-- a frozen item is stored, in the slots ts: the slots behind it -/
def XTg (K : Fg) (S : List Sl) (g : TG) (ts : List Nat) (e : Enc ι) (S' : ι → List Sl) : Prop :=
  ∀ F H σ A v x, At K F H σ S A → Dp K F v (e x) → ∀ Q : L2.St → Hp → Prop, (∀ σ' A', At K F H σ' (S' x) A' → (∀ a ∈ A', a ∈ A) → (∀ vs, (∀ j ∈ ts, j ∈ vs) → wipe σ' vs = wipe σ vs) → Q σ' H) → g v σ H Q
theorem XTg.name {e : Enc ι} {i : Nat} (hi : S[i]?.isSome = true) : XTg K S (gName i) [i] e (fun x => S.set i (.val (fz e) x)) := fun F H σ A v x a d Q q => by
  obtain ⟨A', a', n⟩ := a.setF (.refl a.fh) d (lt_some hi)
  exact q _ A' a' (fun z hz => (n.aa z hz).elim (fun h => h) fun h => absurd h (a'.sl.dom z hz)) fun vs h => wipe_set (h i List.mem_cons_self)
/-- several names, of a tuple -/
def XTgs (K : Fg) (S : List Sl) (g : TGs) (ts : List Nat) (D : ι → List PyData) (S' : ι → List Sl) : Prop :=
  ∀ F H σ A vs x, At K F H σ S A → DpAll K F vs (D x) → ∀ Q : L2.St → Hp → Prop, (∀ σ' A', At K F H σ' (S' x) A' → (∀ a ∈ A', a ∈ A) → (∀ vs, (∀ j ∈ ts, j ∈ vs) → wipe σ' vs = wipe σ vs) → Q σ' H) → g vs σ H Q
theorem XTgs.nil : XTgs K S gNil [] (fun _ : ι => []) (fun _ => S) := fun F H σ A vs x a d Q q => by
  cases d
  exact ⟨rfl, q σ A a (fun _ h => h) fun _ _ => rfl⟩
theorem XTgs.cons {g : TG} {gs : TGs} {ts us : List Nat} {e : Enc γ} {D : ι → List PyData} {f : ι → γ} {S' : γ → List Sl} {S2 : ι → List Sl} (h : XTg K S g ts e S') (hs : ∀ x, XTgs K (S' (f x)) gs us (fun _ : Unit => D x) (fun _ => S2 x)) : XTgs K S (gCons g gs) (ts ++ us) (fun x => e (f x) :: D x) S2 := fun F H σ A vs x a d Q q => by
  cases d with
  | cons d1 d2 =>
    exact ⟨_, _, rfl, h F H σ A _ (f x) a d1 _ fun σ' A' a' n w => hs x F H σ' A' _ () a' d2 Q fun σ2 A2 a2 n2 w2 => q σ2 A2 a2 (fun z hz => n z (n2 z hz)) fun vs hv =>
      (w2 vs fun j hj => hv j (List.mem_append_right _ hj)).trans (w vs fun j hj => hv j (List.mem_append_left _ hj))⟩
theorem XTg.tup {gs : TGs} {ts : List Nat} {e : Enc ι} {D : ι → List PyData} {S' : ι → List Sl} {n : Nat} (h : XTgs K S gs ts D S') (he : ∀ x, e x = .tuple (D x) := by intro _; rfl) (hn : ∀ x, (D x).length = n := by intro _; rfl) : XTg K S (gTup K n gs) ts e S' := fun F H σ A v x a d Q q => by
  rw [he] at d
  obtain ⟨b, vs, rfl, h1, h2⟩ := dp_tup d
  exact ⟨b, vs, rfl, sqT_sub a.fh h1, by rw [dpAll_len h2, hn], h F H σ A vs x a h2 Q q⟩
/-- a, b, .. = e -/
theorem Y.asgT {g : TG} {ts : List Nat} {e : Enc ι} {S' : ι → List Sl} {me : Res ι} {k : ι → Res (Fl α β τ)} (he : XB K mg W S te (vD e) me) (hg : XTg K S g ts e S') (hu : ∀ x, Y K mg W (S' x) u R B N (k x)) :
    Y K mg W S (tSeq (tAsg te g) u) R B N (me.bind k) := ⟨fun h => .bind fun x => (hu x).no h, fun F H σ A a D q =>
  he F H σ A a _ ((Post.of_bind q).imp (fun x k2 v F' H' p hr => hg F' H' σ A v x (a.pu p) hr _ fun σ' A' a' n _ => (hu x).run F' H' σ' A' a' D (k2.from (p.nx fun z hz => .inl (n z hz)))) fun e z => z.x)⟩

/-! ### for -/
def forR {α β ι τ1 : Type} (f : ι → τ1 → Res (Fl α τ1 τ1)) : List ι → τ1 → Res (Fl α β τ1)
  | [], s => .ok (.nx s)
  | x :: xs, s => (f x s).bind fun fl => match fl with
    | .nx s' => forR f xs s'
    | .ct s' => forR f xs s'
    | .bk s' => .ok (.nx s')
    | .rt r => .ok (.rt r)
theorem Y.for0 {wi : TI} {g : TG} {tb : TS} {e : Enc ι} {ml : Res (List ι)} {N1 : τ1 → List Sl} {S' : τ1 → ι → List Sl} {f : ι → τ1 → Res (Fl α τ1 τ1)} {s0 : τ1}
    (hi : XI K mg W S wi e ml) (hw : Wk S (N1 s0)) {ts : List Nat} (hg : ∀ s, XTg K (N1 s) g ts e (S' s)) (hb : ∀ x s, Y K mg W (S' s x) tb R N1 (some N1) (f x s)) :
    Y K mg W S (tFor wi g tb) R B (some N1) (ml.bind fun xs => forR f xs s0) := ⟨fun h => (nomatch h), fun F H σ A a D q => by
  refine hi F H σ A a _ ((Post.of_bind q).imp (fun xs k J F1 H1 p1 wk => ?_) fun e z => z.x)
  refine ⟨fun i m σ2 H2 => m = xs.length - i ∧ i ≤ xs.length ∧ ∃ F2 A2 s, Sub F1 F2 ∧ Nx F H A F2 H2 A2 ∧ At K F2 H2 σ2 (N1 s) A2 ∧ Post (forR (β := β) f (xs.drop i) s) (YOk K F H A R B (some N1) D) (YEr K mg W F H A), ?_, ?_⟩
  · obtain ⟨A', h1, sub⟩ := hw K F1 H1 σ A (a.pu p1).sl
    have a1 := a.pu p1
    exact ⟨xs.length, by simp, Nat.zero_le _, F1, A', s0, .refl _, p1.nx fun z hz => .inl (sub.mem hz), ⟨p1.fh, a1.nd.sublist sub, fun z hz => a1.fo z (sub.mem hz), h1⟩, k⟩
  · rintro i m σ2 H2 ⟨rfl, hle, F2, A2, s, sf, n, a2, k2⟩
    obtain ⟨stop, go⟩ := wk F2 H2 sf a2.fh i
    by_cases hlt : i < xs.length
    · obtain ⟨g1, g2⟩ := go xs[i] (by simp [hlt])
      refine .inr ⟨g1, fun σ' H' => ∃ F3 A3 s3, Sub F1 F3 ∧ Nx F H A F3 H' A3 ∧ At K F3 H' σ' (N1 s3) A3 ∧ Post (forR (β := β) f (xs.drop (i + 1)) s3) (YOk K F H A R B (some N1) D) (YEr K mg W F H A), fun σ' H' ⟨F3, A3, s3, h1, h2, h3, h4⟩ => ⟨xs.length - (i + 1), by omega, rfl, hlt, F3, A3, s3, h1, h2, h3, h4⟩, fun v H3 y => ?_⟩
      obtain ⟨F3, p3, d⟩ := g2 v H3 y
      refine hg s F3 H3 σ2 A2 v _ (a2.pu p3) d _ fun σ4 A4 a4 sub _ => ?_
      have n4 : Nx F H A F3 H3 A4 := n.trans (p3.nx fun z hz => .inl (sub z hz))
      rw [List.drop_eq_getElem_cons hlt] at k2
      refine (hb xs[i] s).run F3 H3 σ4 A4 a4 _ ((Post.of_bind k2).imp (fun fl k3 => match fl, k3 with
        | .nx s', k3 => fun F' H' σ' A' x a' => ⟨F', A', s', (sf.trans p3.ff).trans x.ff, n4.trans x, a', k3⟩
        | .ct s', k3 => fun F' H' σ' A' x a' => ⟨F', A', s', (sf.trans p3.ff).trans x.ff, n4.trans x, a', k3⟩
        | .bk s', k3 => fun F' H' σ' A' x a' => k3 F' H' σ' A' (n4.trans x) a'
        | .rt r, k3 => fun F' H' v Av y s r nd fo => k3 F' H' v Av (n4.trans y) s r nd fo) fun e z => YEr.from n4 z)
    · have e : i = xs.length := by omega
      subst e
      rw [List.drop_length] at k2
      exact .inl ⟨stop (Nat.le_refl _), k2 F2 H2 σ2 A2 n a2⟩⟩

/-! ### while -/
def whileR {α β τ1 : Type} (c : τ1 → Res Bool) (f : τ1 → Res (Fl α τ1 τ1)) : Nat → τ1 → Res (Fl α β τ1)
  | 0, _ => .bad
  | n + 1, s => ifR (c s) ((f s).bind fun fl => match fl with
    | .nx s' => whileR c f n s'
    | .ct s' => whileR c f n s'
    | .bk s' => .ok (.nx s')
    | .rt r => .ok (.rt r)) (.ok (.nx s))
theorem Y.while0 {tb : TS} {N1 : τ1 → List Sl} {c : τ1 → Res Bool} {f : τ1 → Res (Fl α τ1 τ1)} {s0 : τ1} (n : Nat) (hw : Wk S (N1 s0)) (hc : ∀ s, XT K mg W (N1 s) tt (c s)) (hb : ∀ s, Y K mg W (N1 s) tb R N1 (some N1) (f s)) :
    Y K mg W S (tWhile tt tb) R B (some N1) (whileR c f n s0) := ⟨fun h => (nomatch h), fun F H σ A a D q => by
  refine ⟨fun m σ2 H2 => ∃ F2 A2 s, Nx F H A F2 H2 A2 ∧ At K F2 H2 σ2 (N1 s) A2 ∧ Post (whileR (β := β) c f m s) (YOk K F H A R B (some N1) D) (YEr K mg W F H A), ?_, ?_⟩
  · obtain ⟨A', h1, sub⟩ := hw K F H σ A a.sl
    exact ⟨n, F, A', s0, Nx.refl.less fun z hz => sub.mem hz, ⟨a.fh, a.nd.sublist sub, fun z hz => a.fo z (sub.mem hz), h1⟩, q⟩
  · rintro m σ2 H2 ⟨F2, A2, s, n2, a2, k2⟩
    cases m with
    | zero => exact k2.elim
    | succ m =>
      refine hc s F2 H2 σ2 A2 a2 _ ((Post.of_bind k2).imp (fun b k3 F3 H3 p3 => ?_) fun e z => (YEr.from n2 z).x)
      have n3 : Nx F H A F3 H3 A2 := n2.trans (p3.nx fun z hz => .inl hz)
      cases b with
      | true =>
        rw [if_pos rfl]
        refine ⟨fun σ' H' => ∃ F2 A2 s, Nx F H A F2 H' A2 ∧ At K F2 H' σ' (N1 s) A2 ∧ Post (whileR (β := β) c f m s) (YOk K F H A R B (some N1) D) (YEr K mg W F H A), fun σ' H' h => ⟨m, Nat.lt_succ_self m, h⟩, ?_⟩
        refine (hb s).run F3 H3 σ2 A2 (a2.pu p3) _ ((Post.of_bind k3).imp (fun fl k3 => match fl, k3 with
          | .nx s', k3 => fun F' H' σ' A' x a' => ⟨F', A', s', n3.trans x, a', k3⟩
          | .ct s', k3 => fun F' H' σ' A' x a' => ⟨F', A', s', n3.trans x, a', k3⟩
          | .bk s', k3 => fun F' H' σ' A' x a' => k3 F' H' σ' A' (n3.trans x) a'
          | .rt r, k3 => fun F' H' v Av y s r nd fo => k3 F' H' v Av (n3.trans y) s r nd fo) fun e z => YEr.from n3 z)
      | false =>
        rw [if_neg Bool.false_ne_true]
        exact k3 F3 H3 σ2 A2 n3 (a2.pu p3)⟩

/-! ### a def's promise -/
/-- given the slots G t it hands back what the mirror m t says -/
def spP (K : Fg) (mg : Str → Option Value) {τ α : Type} (G : τ → List Sl) (r : Rp α) (m : τ → Res α) : Sp := fun vs H Q E =>
  ∃ t F A, At K F H (vs.map some) (G t) A ∧ Post (m t) (fun x => ∀ v F' H' Av, Nx F H A F' H' Av → Sub F' H' → r.ok K F' H' v x Av → Av.Nodup → (∀ a ∈ Av, F' a = none) → Q v H') (fun e => ∀ F' H' c d, Nx F H A F' H' [] → Sub F' H' → ExcOk K mg F' H' e c d → E c d H')
theorem Pu.nxt {F H F1 H1 F' H' : Hp} {A1 Av : List Addr} (p : Pu F H F1 H1) (fr : ∀ a ∈ A1, H a = none) (n : Nx F1 H1 A1 F' H' Av) (s : Sub F' H') : Pu F H F' H' ∧ ∀ a ∈ Av, H a = none := by
  have no : ∀ a, H a ≠ none → a ∉ A1 := fun a h z => h (fr a z)
  refine ⟨⟨p.ff.trans n.ff, fun a o h => ?_, s, fun a h => ?_⟩, fun a h => ?_⟩
  · have h' : H a ≠ none := by
      rw [h]
      exact fun z => nomatch z
    exact n.hh a o (p.hh a o h) (no a h')
  · exact (n.fo a (ne_none_sub p.hh h) (no a h)).trans (p.fo a h)
  · rcases n.aa a h with z | z
    · exact fr a z
    · exact p.hh.back z
theorem XO.call {G : τ → List Sl} {r : Rp α} {m : τ → Res α} {ma : Res τ} {tr : TA} (h : XG K mg W S tr G ma) : XO K mg W S (tCallS (spP K mg G r m) (WE W) tr) r (ma.bind m) := fun F H σ A a Q q =>
  h F H σ A a _ ((Post.of_bind q).imp (fun t k vs F1 H1 A1 p1 u1 fr => ⟨t, F1, A1, ⟨p1.fh, fr.nd, fr.fo, u1⟩, k.imp (fun x k2 v F2 H2 Av n s u2 nd fo => k2 v F2 H2 Av (p1.nxt fr.fr n s).1 u2 ⟨nd, (p1.nxt fr.fr n s).2, fo⟩)
    fun e k2 F2 H2 c d n s x => k2 F2 H2 c d (p1.nxt fr.fr n s).1 x⟩) fun e z => z)
theorem XO.call0 {G : τ → List Sl} {r : Rp α} {m : τ → Res α} {ma : Res τ} {tr : TA} (h : XG K mg W S tr G ma) : XO K mg W S (tCall (spP K mg G r m) [] (fun _ _ _ => False) tr) r (ma.bind fun t => (m t).noer) := fun F H σ A a Q q =>
  h F H σ A a _ ((Post.of_bind q).imp (fun t k vs F1 H1 A1 p1 u1 fr => by
    rw [List.append_nil]
    refine ⟨t, F1, A1, ⟨p1.fh, fr.nd, fr.fo, u1⟩, ?_⟩
    cases e : m t with
    | ok x =>
      rw [e] at k
      exact fun v F2 H2 Av n s u2 nd fo => k v F2 H2 Av (p1.nxt fr.fr n s).1 u2 ⟨nd, (p1.nxt fr.fr n s).2, fo⟩
    | er x =>
      rw [e] at k
      exact False.elim k
    | bad =>
      rw [e] at k
      exact False.elim k) fun e z => z)
/-- a body's mirror as a value -/
def Res.fin {α β τ : Type} (m : Res (Fl α β τ)) : Res α := m.bind fun fl => match fl with
  | .rt x => .ok x
  | _ => .bad
theorem AtL.app {F H : Hp} : ∀ {σ σ2 : L2.St} {S S2 : List Sl} {A A2 : List Addr}, AtL K F H σ S A → AtL K F H σ2 S2 A2 → AtL K F H (σ ++ σ2) (S ++ S2) (A ++ A2)
  | [], σ2, [], S2, _, A2, h, q => by
    have h' : _ = [] := h
    subst h'
    exact q
  | o :: σ, σ2, s :: S, S2, _, A2, ⟨B1, B2, e, h1, h2⟩, q => by
    subst e
    exact ⟨B1, B2 ++ A2, List.append_assoc _ _ _, h1, h2.app q⟩
  | [], _, _ :: _, _, _, _, h, _ => h.elim
  | _ :: _, _, [], _, _, _, h, _ => h.elim
theorem AtL.nils {F H : Hp} : ∀ n : Nat, AtL K F H (List.replicate n none) (List.replicate n .nil) []
  | 0 => rfl
  | n + 1 => ⟨[], [], rfl, rfl, AtL.nils n⟩
theorem At.start {F H : Hp} {vs : List V} {A : List Addr} {n : Nat} {nm : List Str} (a : At K F H (vs.map some) S A) (hn : S.length + n = nm.length) : At K F H (L2.start nm vs) (S ++ List.replicate n .nil) A := by
  have el : vs.length = S.length := by
    have := a.sl.len
    rw [List.length_map] at this
    exact this
  have e : L2.start nm vs = vs.map some ++ List.replicate n none := by
    unfold L2.start
    rw [show nm.length - vs.length = n by omega]
  rw [e]
  have := a.sl.app (AtL.nils (K := K) (F := F) (H := H) n)
  rw [List.append_nil] at this
  exact ⟨a.fh, a.nd, a.fo, this⟩
/-- a def by its body: mm is the body's mirror -/
theorem fn_ok {P : Program} {w : World} {base : Heap} {x qual : Str} {st : Stmt} {f : Addr} {fd : FuncData} {nm ps : List Str} {k : Nat} {n : Nat} {G : τ → List Sl} {m : τ → Res α} (r : Rp α) (mm : τ → Res (Fl α Empty Unit))
    (F : Fun K x qual st f fd) (Sc : FnScope nm ps (defScope st)) (hm : ∀ t, m t = Res.fin (mm t)) (hp : ∀ t, (G t).length = ps.length) (hn : ∀ t, (G t).length + n = nm.length)
    (body : ∀ (t : τ) (cdv : Value) (A : Around) (outer : List Env) (s : Shared) (H : Hp) (E : XK), Room k (A.deeper (PyProof.Rows.envOfC qual (defScope st) s.heap.objs.size f cdv)) →
      ∃ tt, PSs (cxOf (L2.CX P w) P w K mg base nm qual (defScope st) f cdv A outer s H E) (defBody st) tt ∧ Y K mg (fun c d _ H => E c d H) (G t ++ List.replicate n .nil) tt r (fun z : Empty => nomatch z) none (mm t)) :
    FnOk P w K mg base (L2.CX P w) (k + 1) f fd ps (spP K mg G r m) := by
  refine F.okX Sc (fun vs H Q E h => ?_) (fun cdv A outer s H vs Q E hr h => ?_)
  · obtain ⟨t, F0, A0, a, _⟩ := h
    have := a.sl.len
    rw [List.length_map, hp] at this
    exact this
  · obtain ⟨t, F0, A0, a, hq⟩ := h
    obtain ⟨tt, h1, h2⟩ := body t cdv A outer s H E hr
    refine ⟨tt, h1, ?_⟩
    rw [hm] at hq
    refine h2.run F0 H _ A0 (a.start (hn t)) _ ((Post.of_bind hq).imp (fun fl k => ?_) fun e k F' H' σ' c d n s x => k F' H' c d n s x)
    cases fl with
    | rt x => exact fun F' H' v Av n s r nd fo => k v F' H' Av n s r nd fo
    | nx s => exact k.elim
    | bk s => exact nomatch s
    | ct s => exact nomatch s
end
end TP

set_option Elab.async false
set_option linter.all false
set_option maxRecDepth 100000
set_option maxHeartbeats 4000000
set_option autoImplicit false
/-! TP, rules of the machine that the hand layer has not: operations on lists and tuples that read as data. -/
namespace TP
open PySem PySem.Spec PyProof.Rows L2

mutual
theorem reads_one {h : Heap} : ∀ {v : Value} {d d' : PyData} {as bs : List Addr}, Reads h v d as → Reads h v d' bs → d = d'
  | _, _, _, _, _, .none, r => by cases r; rfl
  | _, _, _, _, _, .bool b, r => by cases r; rfl
  | _, _, _, _, _, .int i t, r => by cases r; rfl
  | _, _, _, _, _, .str x t, r => by cases r; rfl
  | _, _, _, _, _, .list h1 h2 h3 h4, r => by
    cases r with
    | list g1 g2 g3 g4 =>
      rw [h1] at g1
      cases g1
      rw [h3] at g3
      cases g3
      rw [readsAll_one h4 g4]
    | tuple g1 g2 g3 g4 =>
      rw [h1] at g1
      cases g1
      rw [h2] at g2
      exact absurd g2 (by decide +kernel)
    | dict g1 g2 g3 g4 g5 =>
      rw [h1] at g1
      cases g1
      rw [h2] at g2
      exact absurd g2 (by decide +kernel)
  | _, _, _, _, _, .tuple h1 h2 h3 h4, r => by
    cases r with
    | tuple g1 g2 g3 g4 =>
      rw [h1] at g1
      cases g1
      rw [h3] at g3
      cases g3
      rw [readsAll_one h4 g4]
    | list g1 g2 g3 g4 =>
      rw [h1] at g1
      cases g1
      rw [h2] at g2
      exact absurd g2 (by decide +kernel)
    | dict g1 g2 g3 g4 g5 =>
      rw [h1] at g1
      cases g1
      rw [h2] at g2
      exact absurd g2 (by decide +kernel)
  | _, _, _, _, _, .dict (kvs := kvs) h1 h2 h3 h4 h5, r => by
    cases r with
    | dict g1 g2 g3 g4 g5 =>
      rw [h1] at g1
      cases g1
      rw [h3] at g3
      cases g3
      have e1 := readsAll_one h4 g4
      have e2 := readsAll_one h5 g5
      congr 1
      rename_i kvs' _ _
      clear h1 h2 h3 h4 h5 g2 g4 g5
      induction kvs generalizing kvs' with
      | nil =>
        cases kvs' with
        | nil => rfl
        | cons p q => cases e1
      | cons p q ih =>
        cases kvs' with
        | nil => cases e1
        | cons p' q' =>
          simp only [List.map_cons, List.cons.injEq] at e1 e2
          rw [ih e1.2 e2.2, Prod.ext e1.1 e2.1]
    | list g1 g2 g3 g4 =>
      rw [h1] at g1
      cases g1
      rw [h2] at g2
      exact absurd g2 (by decide +kernel)
    | tuple g1 g2 g3 g4 =>
      rw [h1] at g1
      cases g1
      rw [h2] at g2
      exact absurd g2 (by decide +kernel)
theorem readsAll_one {h : Heap} : ∀ {vs : List Value} {ds ds' : List PyData} {as bs : List Addr}, ReadsAll h vs ds as → ReadsAll h vs ds' bs → ds = ds'
  | _, _, _, _, _, .nil, r => by cases r; rfl
  | _, _, _, _, _, .cons h1 h2, r => by
    cases r with
    | cons g1 g2 => rw [reads_one h1 g1, readsAll_one h2 g2]
end
theorem readsAll_get {h : Heap} : ∀ {vs : List Value} {ds : List PyData} {as : List Addr} {i : Nat} {d : PyData}, ReadsAll h vs ds as → ds[i]? = some d → ∃ v bs, vs[i]? = some v ∧ Reads h v d bs
  | _, _, _, _, _, .nil, e => by simp at e
  | _, _, _, 0, _, .cons h1 _, e => by
    simp at e
    subst e
    exact ⟨_, _, rfl, h1⟩
  | _, _, _, i + 1, d, .cons _ h2, e => by
    obtain ⟨v, bs, g1, g2⟩ := readsAll_get (i := i) (d := d) h2 (by simpa using e)
    exact ⟨v, bs, by simpa using g1, g2⟩
theorem readsAll_length {h : Heap} : ∀ {vs : List Value} {ds : List PyData} {as : List Addr}, ReadsAll h vs ds as → vs.length = ds.length
  | _, _, _, .nil => rfl
  | _, _, _, .cons _ h2 => by
    rw [List.length_cons, List.length_cons, readsAll_length h2]

section
variable {X : Cx} {pins : List (Addr × Obj)} {σ : L2.St} {H : Hp} {s : Shared}
/-- a list or tuple that is read -/
def Sq (K : Fg) (H : Hp) (a : Addr) (xs : List V) : Prop := SqL K H a xs ∨ SqT K H a xs

/-! ### sum, max, min -/
def rSumS (K : Fg) : List V → Hp → VK → Prop := fun vs H Q => ∃ (a : Addr) (ns : List Int), vs = [.ref a] ∧ Sq K H a (ns.map V.int) ∧ Q (.int ns.sum) H
theorem sum_tupI {prog : Program} {w : World} {A : Around} {E : Value → Shared → Prop} {l : Addr} {its : List Value} {ns : List Int} {Q : Value → Shared → Prop} (hh : A.handled = none) (hl : s.heap.IsTuple l its.toArray) (hi : IntsAre its ns)
    (h : ∀ h' tk t', (∀ b o, s.heap.get? b = some o → h'.get? b = some o) → Q (.int ns.sum t') { s with heap := h', toks := tk }) : wpAny (model prog w) A (call (.builtin "sum") [.ref l]) Q E s := by
  obtain ⟨xs, e⟩ := hi.allInts.items
  have hn : numsOf (intItems xs).toList = ns := by rw [← e]; exact hi.numsOf
  rw [nums_intItems] at hn
  rw [e] at hl
  refine PySem.W.ktm_sumG hh hl fun h' tk t' hk => ?_
  have := h h' tk t' hk
  rw [preSum_eq, List.take_of_length_le (by simp), hn]; exact this
theorem cr_sumS (hc : X.calm = true) : CallR X (.builtin "sum") (rSumS X.K) := by
  intro pins s σ H vs us Q I r h
  obtain ⟨a, ns, rfl, hs, q⟩ := h
  rcases hs with hs | hs
  · exact cr_sum hc pins s σ H _ us Q I r ⟨a, ns, rfl, hs, q⟩
  · obtain ⟨its, rv, hl, _⟩ := I.tuple hs
    rw [Vals.ref1 r]
    exact sum_tupI (I.ok.hd hc) hl rv.ints fun h' tk t' hk => ⟨.int _, H, I.kept hk, ⟨_, rfl⟩, q⟩
theorem vals_back {xs : List V} {us : List Value} {i : Nat} {u : Value} (h : Vals xs us) (e : us[i]? = some u) : ∃ x, xs[i]? = some x ∧ RelV x u := by
  obtain ⟨hl, _⟩ := List.getElem?_eq_some_iff.mp e
  have hx : i < xs.length := by rw [h.length]; exact hl
  obtain ⟨u', h1, h2⟩ := h.get (i := i) (x := xs[i]) (by simp [hx])
  rw [e] at h1
  cases h1
  exact ⟨_, by simp [hx], h2⟩
theorem inv_sq (I : Inv X pins σ H s) {a : Addr} {xs : List V} (h : Sq X.K H a xs) : ∃ its : List Value, Vals xs its ∧ (s.heap.IsList a its.toArray ∨ s.heap.IsTuple a its.toArray) ∧ xs.length ≤ sizeLine := by
  rcases h with h | h
  · obtain ⟨its, rv, hl, hz⟩ := I.list h
    exact ⟨its, rv, .inl hl.isList, hz⟩
  · obtain ⟨its, rv, hl, hz⟩ := I.tuple h
    exact ⟨its, rv, .inr hl, hz⟩
/-- max, min of data -/
def extD (mx : Bool) (d : PyData) (ds : List PyData) : PyData := if mx then PySem.W.maxD d ds else PySem.W.minD d ds
def extN (mx : Bool) : String := if mx then "max" else "min"
def rExt (mx : Bool) (K : Fg) : List V → Hp → VK → Prop := fun vs H Q => ∃ (a : Addr) (xs : List V) (d : PyData) (ds : List PyData), vs = [.ref a] ∧ Sq K H a xs ∧ DpAll K H xs (d :: ds) ∧ PySem.W.AlikeAll (d :: ds) ∧ PyData.depthAll (d :: ds) ≤ 64 ∧
  ∀ (i : Nat) y, xs[i]? = some y → (d :: ds)[i]? = some (extD mx d ds) → Q y H
theorem cr_max' (hc : X.calm = true) (hu : X.A.units + 100 < cLine) : CallR X (.builtin "max") (rExt true X.K) := by
  intro pins s σ H vs us Q I r h
  obtain ⟨a, xs, d, ds, rfl, hs, hd, al, dp, q⟩ := h
  obtain ⟨its, rv, hl, _⟩ := inv_sq I hs
  obtain ⟨as, rs⟩ := Dp.readsAll I (d :: ds) xs its hd rv
  rw [Vals.ref1 r]
  have fin : ∀ (i : Nat) v h' tk bs, its.toArray[i]? = some v → Reads h' v (PySem.W.maxD d ds) bs → (∀ b o, s.heap.get? b = some o → h'.get? b = some o) → EP X pins σ Q v { s with heap := h', toks := tk } := fun i v h' tk bs hi r hk => by
    obtain ⟨y, e1, e2⟩ := vals_back rv (i := i) (u := v) (by simpa using hi)
    have hl2 : i < (d :: ds).length := by
      rw [← readsAll_length rs]
      exact (List.getElem?_eq_some_iff.mp (show its[i]? = some v by simpa using hi)).1
    obtain ⟨v', bs', g1, g2⟩ := readsAll_get (i := i) (d := (d :: ds)[i]) rs (by simp [hl2])
    have hi' : its[i]? = some v := by simpa using hi
    rw [hi'] at g1
    cases g1
    have e3 := reads_one (PyProof.Rows.Reads.keeps hk g2) r
    exact ⟨y, H, I.kept hk, e2, q i y e1 (by simp only [List.getElem?_eq_getElem hl2, e3, extD, if_true])⟩
  rcases hl with hl | hl
  · exact PySem.W.max_list_data (I.ok.hd hc) hl (by simpa using rs) al (by omega) fin
  · exact PySem.W.max_tuple_data (I.ok.hd hc) hl (by simpa using rs) al (by omega) fin
theorem cr_min' (hc : X.calm = true) (hu : X.A.units + 100 < cLine) : CallR X (.builtin "min") (rExt false X.K) := by
  intro pins s σ H vs us Q I r h
  obtain ⟨a, xs, d, ds, rfl, hs, hd, al, dp, q⟩ := h
  obtain ⟨its, rv, hl, _⟩ := inv_sq I hs
  obtain ⟨as, rs⟩ := Dp.readsAll I (d :: ds) xs its hd rv
  rw [Vals.ref1 r]
  have fin : ∀ (i : Nat) v h' tk bs, its.toArray[i]? = some v → Reads h' v (PySem.W.minD d ds) bs → (∀ b o, s.heap.get? b = some o → h'.get? b = some o) → EP X pins σ Q v { s with heap := h', toks := tk } := fun i v h' tk bs hi r hk => by
    obtain ⟨y, e1, e2⟩ := vals_back rv (i := i) (u := v) (by simpa using hi)
    have hl2 : i < (d :: ds).length := by
      rw [← readsAll_length rs]
      exact (List.getElem?_eq_some_iff.mp (show its[i]? = some v by simpa using hi)).1
    obtain ⟨v', bs', g1, g2⟩ := readsAll_get (i := i) (d := (d :: ds)[i]) rs (by simp [hl2])
    have hi' : its[i]? = some v := by simpa using hi
    rw [hi'] at g1
    cases g1
    have e3 := reads_one (PyProof.Rows.Reads.keeps hk g2) r
    exact ⟨y, H, I.kept hk, e2, q i y e1 (by simp only [List.getElem?_eq_getElem hl2, e3, extD, if_false, Bool.false_eq_true])⟩
  rcases hl with hl | hl
  · exact PySem.W.min_list_data (I.ok.hd hc) hl (by simpa using rs) al (by omega) fin
  · exact PySem.W.min_tuple_data (I.ok.hd hc) hl (by simpa using rs) al (by omega) fin

/-! ### t.index(x) -/
def rIndexT (K : Fg) : V → List V → Hp → VK → Prop := fun x xs H Q => ∃ (a : Addr) (ns : List Int) (k : Int), x = V.ref a ∧ xs = [.int k] ∧ SqT K H a (ns.map V.int) ∧ k ∈ ns ∧ Q (.int (ns.idxOf k : Nat)) H
theorem mt_indexT : MtR X "tuple.index" (rIndexT X.K) := by
  intro pins s σ H x xs v us Q I rx rxs h
  obtain ⟨a, ns, k, rfl, rfl, hs, hk, q⟩ := h
  cases rx
  obtain ⟨u, rfl, ⟨t, rfl⟩⟩ := vals1 rxs
  obtain ⟨its, rv, hl, _⟩ := I.tuple hs
  exact PySem.SeqAt.tuple_index_ints hl rv.ints hk ⟨.int _, H, I.tok _, ⟨_, rfl⟩, q⟩

/-! ### xs + ys, xs * k of lists that are read -/
def rCatS (K : Fg) : R2 := fun x y H Q => ∃ l b xs zs, x = .ref l ∧ y = .ref b ∧ SqL K H l xs ∧ SqL K H b zs ∧ xs.length + zs.length ≤ sizeLine ∧ ∀ p, H p = none → Q (.ref p) (upd H p (.lst (xs ++ zs)))
theorem op_catS : OpR X (binaryOp .Add) (rCatS X.K) := by
  intro pins s σ H x y v u Q I rx ry h
  obtain ⟨l, b, xs, zs, rfl, rfl, hH, hB, hz, q⟩ := h
  cases rx
  cases ry
  obtain ⟨its, r, hl, z⟩ := I.list hH
  obtain ⟨its2, r2, hl2, z2⟩ := I.list hB
  have l1 := r.length
  have l2 := r2.length
  obtain ⟨⟨cls, dd, data, sl⟩, ho, hc, n, hd⟩ := hl.isList
  obtain ⟨⟨cls2, dd2, data2, sl2⟩, ho2, hc2, n2, hd2⟩ := hl2.isList
  simp only at hc hd hc2 hd2
  subst hc hd hc2 hd2
  have e : its.toArray ++ its2.toArray = (its ++ its2).toArray := by simp
  refine concat_meets ⟨_, ho, rfl⟩ ⟨_, ho2, rfl⟩ noFill_list_add seq_list_add PySem.F.slot_list_add PySem.F.entry_list_add (PySem.F.args_list_add_2 _ _) (list_addW l b its.toArray its2.toArray n n2 dd dd2 sl sl2 (by simp; omega)) ⟨ho, ho2, ?_⟩
  rw [e]
  exact ⟨.ref _, _, I.lnew (t' := s.toks) (r.append r2) (by rw [List.length_append]; omega), rfl, q _ I.fresh⟩

/-! ### comparisons of data -/
def rCmpD (f : PyData → PyData → Bool) (K : Fg) : R2 := fun x y H Q => ∃ d e, Dp K H x d ∧ Dp K H y e ∧ PySem.W.alike d e = true ∧ d ≠ .none ∧ min d.depth e.depth ≤ 64 ∧ Q (.bl (f d e)) H
theorem op_cmpD {op : CmpOp} {f : PyData → PyData → Bool} (hu : X.A.units + 100 < cLine)
    (rule : ∀ {a b : Value} {da db : PyData} {as bs : List Addr} {s : Shared} {Q E : Value → Shared → Prop}, Reads s.heap a da as → Reads s.heap b db bs → PySem.W.alike da db = true → da ≠ .none → X.A.units + min da.depth db.depth < cLine → Q (.bool (f da db)) s → wpAny (model X.prog X.w) X.A (compareOp op a b) Q E s) :
    OpR X (compareOp op) (rCmpD f X.K) := by
  intro pins s σ H x y v u Q I rx ry h
  obtain ⟨d, e, hx, hy, al, hn, dp, q⟩ := h
  obtain ⟨as, ra⟩ := Dp.reads I d x v hx rx
  obtain ⟨bs, rb⟩ := Dp.reads I e y u hy ry
  exact rule ra rb al hn (by omega) ⟨.bl _, H, I, rfl, q⟩
theorem op_ltD (hu : X.A.units + 100 < cLine) : OpR X (compareOp .Lt) (rCmpD PySem.W.dataLt X.K) := op_cmpD hu PySem.W.lt_data
theorem op_gtD (hu : X.A.units + 100 < cLine) : OpR X (compareOp .Gt) (rCmpD (fun d e => PySem.W.dataLt e d) X.K) := op_cmpD hu PySem.W.gt_data
theorem op_leD (hu : X.A.units + 100 < cLine) : OpR X (compareOp .LtE) (rCmpD (fun d e => !PySem.W.dataLt e d) X.K) := op_cmpD hu PySem.W.le_data
theorem op_geD (hu : X.A.units + 100 < cLine) : OpR X (compareOp .GtE) (rCmpD (fun d e => !PySem.W.dataLt d e) X.K) := op_cmpD hu PySem.W.ge_data

/-- == and != of data -/
def rEqP (neg : Bool) (K : Fg) : R2 := fun x y H Q => ∃ d e, Dp K H x d ∧ Dp K H y e ∧ d.plain = true ∧ e.plain = true ∧ min d.depth e.depth ≤ 64 ∧ Q (.bl (neg != PyData.eqv d e)) H
theorem op_eqP (hu : X.A.units + 100 < cLine) : OpR X (compareOp .Eq) (rEqP false X.K) := by
  intro pins s σ H x y v u Q I rx ry h
  obtain ⟨d, e, hx, hy, p1, p2, dp, q⟩ := h
  obtain ⟨as, ra⟩ := Dp.reads I d x v hx rx
  obtain ⟨bs, rb⟩ := Dp.reads I e y u hy ry
  refine PySem.SeqAt.eq_plain ra rb p1 p2 (by omega) ⟨.bl _, H, I, ?_, q⟩
  show _ = _
  simp
theorem op_neP (hu : X.A.units + 100 < cLine) : OpR X (compareOp .NotEq) (rEqP true X.K) := by
  intro pins s σ H x y v u Q I rx ry h
  obtain ⟨d, e, hx, hy, p1, p2, dp, q⟩ := h
  obtain ⟨as, ra⟩ := Dp.reads I d x v hx rx
  obtain ⟨bs, rb⟩ := Dp.reads I e y u hy ry
  refine PySem.SeqAt.ne_plain ra rb p1 p2 (by omega) ⟨.bl _, H, I, ?_, q⟩
  show _ = _
  simp
/-- in, not in, of data in a list or tuple of data -/
def rInP (neg : Bool) (K : Fg) : R2 := fun x y H Q => ∃ d a xs ds, Dp K H x d ∧ y = .ref a ∧ Sq K H a xs ∧ DpAll K H xs ds ∧ PyData.plainAll ds = true ∧ d.plain = true ∧ d.depth ≤ 64 ∧ Q (.bl (neg != ds.any fun y => PyData.eqv y d)) H

/-! ### sorted -/
/-- ys are the items of xs in the order in which ds stand sorted -/
def rSortD (rev : Bool) (K : Fg) : List V → Hp → VK → Prop := fun vs H Q => ∃ (a : Addr) (xs : List V) (ds : List PyData), vs = [.ref a] ∧ SqL K H a xs ∧ DpAll K H xs ds ∧ PySem.W.AllAlike ds ∧ PySem.W.Sortable ds ∧ (∀ d ∈ ds, d.depth ≤ 64) ∧
  ∀ ys p, PySem.W.EachIs (fun y d => (y, d) ∈ xs.zip ds) ys (ds.mergeSort (PySem.W.dataLe rev id)) → H p = none → Q (.ref p) (upd H p (.lst ys))
theorem each_zip {xs : List V} {us : List Value} {ds : List PyData} : Vals xs us → xs.length = ds.length → PySem.W.EachIs (fun u d => ∃ y, RelV y u ∧ (y, d) ∈ xs.zip ds) us ds := by
  intro h hl
  have gen : ∀ {xs : List V} {us : List Value} {ds : List PyData} {zs : List (V × PyData)}, Vals xs us → xs.length = ds.length → (∀ p ∈ xs.zip ds, p ∈ zs) → PySem.W.EachIs (fun u d => ∃ y, RelV y u ∧ (y, d) ∈ zs) us ds := by
    intro xs us ds zs h
    induction h generalizing ds with
    | nil =>
      intro hl _
      cases ds with
      | nil => exact .nil
      | cons d ds => cases hl
    | cons r t ih =>
      intro hl hz
      cases ds with
      | nil => cases hl
      | cons d ds => exact .cons ⟨_, r, hz _ List.mem_cons_self⟩ (ih (by simpa using hl) fun p hp => hz p (List.mem_cons_of_mem _ hp))
  exact gen h hl fun _ h => h
theorem each_vals {zs : List (V × PyData)} : ∀ {us : List Value} {ds : List PyData}, PySem.W.EachIs (fun u d => ∃ y, RelV y u ∧ (y, d) ∈ zs) us ds → ∃ ys, Vals ys us ∧ PySem.W.EachIs (fun y d => (y, d) ∈ zs) ys ds
  | _, _, .nil => ⟨[], .nil, .nil⟩
  | _, _, .cons ⟨y, r, m⟩ t => by
    obtain ⟨ys, h1, h2⟩ := each_vals t
    exact ⟨y :: ys, .cons r h1, .cons m h2⟩
theorem each_len {α β : Type} {R : α → β → Prop} : ∀ {as : List α} {bs : List β}, PySem.W.EachIs R as bs → as.length = bs.length
  | _, _, .nil => rfl
  | _, _, .cons _ t => by
    rw [List.length_cons, List.length_cons, each_len t]
theorem readsAll_each' {h : Heap} : ∀ {vs : List Value} {ds : List PyData} {as : List Addr}, ReadsAll h vs ds as → PySem.W.EachIs (fun v b => ∃ as, Reads h v (id b) as) vs ds
  | _, _, _, .nil => .nil
  | _, _, _, .cons h1 h2 => .cons ⟨_, h1⟩ (readsAll_each' h2)
theorem cr_sortD (hu : X.A.units + 100 < cLine) : CallR X (.builtin "sorted") (rSortD false X.K) := by
  intro pins s σ H vs us Q I r h
  obtain ⟨a, xs, ds, rfl, hs, hd, al, sb, dp, q⟩ := h
  obtain ⟨its, rv, hl, hz⟩ := I.list hs
  obtain ⟨as, rs⟩ := Dp.readsAll I ds xs its hd rv
  have el : xs.length = ds.length := dpAll_len hd
  rw [Vals.ref1 r]
  refine PySem.W.sorted_data (enc := id) hl.isList (each_zip rv el) (readsAll_each' rs) (by simpa using al) (by simpa using sb) (by rw [← el]; exact hz) (fun d hd => by
    have := dp d hd
    show X.A.units + 2 + d.depth < cLine
    omega) fun out ho eo => ?_
  obtain ⟨ys, e1, e2⟩ := each_vals eo
  obtain ⟨n, hn⟩ := sortedAll_at s.heap its out.toArray
  have hle : s.heap.objs.size ≤ s.heap.objs.size + 1 := Nat.le_succ _
  have hl2 : ys.length ≤ sizeLine := by
    rw [e1.length, ho, ← el]
    exact hz
  exact ⟨.ref (s.heap.objs.size + 1), _, I.laid (t' := s.toks) (o := .lst ys) (fun b o h => sortedAll_old h) hle ⟨hl2, out, n, e1, hn⟩, rfl, q ys _ e2 (I.hok.fresh hle)⟩

end
/-! ### enumerate of a tuple -/
theorem meets_enumT (t : Addr) (its : Array Value) :
    Meets (Builtin.«enumerate.__new__» ⟨[.type "enumerate", .ref t], []⟩) (fun _ R s => s.heap.IsTuple t its ∧
      R (.ok (.ret (.ref (s.heap.push { cls := .type "tuple_iterator", data := .fields #[.ref t, .int 0 0] }).objs.size)))
        { s with heap := (s.heap.push { cls := .type "tuple_iterator", data := .fields #[.ref t, .int 0 0] }).push { cls := .type "enumerate", data := .fields #[.none, .bool false, .ref s.heap.objs.size, rawInt 0, .none, .none] } }) :=
  .of_wp fun prog w A R s h => by
    obtain ⟨hp, g, d, tk, os⟩ := s
    obtain ⟨h1, h⟩ := h
    have hsub := sub_enumerate
    have q1 : ∀ {A' : Around} {E : Value → Shared → Prop} {Q : Value → Shared → Prop}, Q (.ref hp.objs.size) ⟨hp.push { cls := .type "tuple_iterator", data := .fields #[.ref t, .int 0 0] }, g, d, tk, os⟩ → wpAny (model prog w) A' (pyIter (.ref t)) Q E ⟨hp, g, d, tk, os⟩ :=
      fun q => wpAny_pyIter_tuple h1 q
    wp_walk using q1
    refine wpAny_stack_any fun st => wpAny_pure ?_
    split
    · rename_i c _ _ _ _ _
      cases (c == Value.type "enumerate")
      · wp_walk using q1
        exact ⟨_, rfl, h⟩
      · wp_walk using q1
        exact ⟨_, rfl, h⟩
    · wp_walk using q1
      exact ⟨_, rfl, h⟩
theorem call_enumT {prog : Program} {w : World} {A : Around} {E : Value → Shared → Prop} {s : Shared} {l : Addr} {items : Array Value} {Q : Value → Shared → Prop} (hL : s.heap.IsTuple l items)
    (h : ∀ h', IsEnum h' (s.heap.objs.size + 1) s.heap.objs.size 0 .none → h'.IsTupleIter s.heap.objs.size l 0 → h'.objs.size = s.heap.objs.size + 2 →
      (∀ b o, s.heap.get? b = some o → h'.get? b = some o) → Q (.ref (s.heap.objs.size + 1)) { s with heap := h' }) :
    wpAny (model prog w) A (call (.type "enumerate") [.ref l]) Q E s := by
  refine callType_new F.called_enumerate (by decide) (F.typeCall_enumerate_1 _) (F.newCall_enumerate_1 _) (fun obj => F.args_object_init_2 obj _) F.entry_enumerate_new
    (meets_enumT l items) ⟨hL, ?_⟩
  have hz : (s.heap.push { cls := .type "tuple_iterator", data := .fields #[.ref l, .int 0 0] }).objs.size = s.heap.objs.size + 1 := Heap.size_push ..
  show _ ∧ _
  rw [hz]
  have he : IsEnum ((s.heap.push { cls := .type "tuple_iterator", data := .fields #[.ref l, .int 0 0] }).push
      { cls := .type "enumerate", data := .fields #[.none, .bool false, .ref s.heap.objs.size, rawInt 0, .none, .none] }) (s.heap.objs.size + 1) s.heap.objs.size 0 .none := by
    have := Heap.get?_push_size (s.heap.push { cls := .type "tuple_iterator", data := .fields #[.ref l, .int 0 0] })
      (o := { cls := .type "enumerate", data := .fields #[.none, .bool false, .ref s.heap.objs.size, rawInt 0, .none, .none] }) rfl
    rw [hz] at this; exact this
  refine ⟨⟨_, he, rfl⟩, h _ he ⟨_, Heap.get?_push_of_some _ (Heap.get?_push_size _ rfl), rfl, rfl⟩ (by rw [Heap.size_push, hz]) fun b o x => Heap.get?_push_of_some _ (Heap.get?_push_of_some _ x)⟩
def IteT (K : Fg) (a : Addr) : It :=
  ⟨fun i H => ∃ (xs : List V) (x : V), SqT K H a xs ∧ xs[i]? = some x, fun i H v H' => ∃ T x, v = .ref T ∧ H T = none ∧ H' = upd H T (.tup [.int (i : Nat), x]) ∧ ∀ xs, SqT K H a xs → xs[i]? = some x, fun i H => ∃ xs : List V, SqT K H a xs ∧ xs.length ≤ i⟩
theorem turn_enumT {P : Program} {w : World} {K : PySem.W.Frag} {elts : List Expr} {kk : Nat} {tpos : Pos} (a e it : Addr) :
    Turn P w K (.Tuple elts kk tpos) (IteT K a) [e, it] e (fun i h => (∃ old, IsEnum h e it ((i : Nat) : Int) old) ∧ h.IsTupleIter it a i ∧ e ≠ it) where
  mem := by simp
  obj := fun i h st b hb => by
    obtain ⟨⟨old, he⟩, ⟨o, ho, hc, hd⟩, _⟩ := st
    have e' : b = e ∨ b = it := by simpa using hb
    rcases e' with z | z
    · rw [z]; exact ⟨_, he, fun v q => nomatch q⟩
    · rw [z]; exact ⟨o, ho, fun v q => by rw [hd] at q; cases q⟩
  keep := fun i h h' st k => let ⟨⟨old, he⟩, hi, hne⟩ := st; ⟨⟨old, k e (by simp) _ he⟩, hi.at fun o q => k it (by simp) o q, hne⟩
  item := by
    intro X hP hw hK hc i pins s σ H E I hf st hg
    subst hP hw hK
    obtain ⟨⟨old, he⟩, hit, hne⟩ := st
    obtain ⟨xs, x, hq, hx⟩ := hg
    obtain ⟨its, rv, p, hz⟩ := I.tuple hq
    obtain ⟨u, hu, ru⟩ := rv.get hx
    have hel : e < s.heap.objs.size := Heap.lt_size he
    have hil : it < s.heap.objs.size := by obtain ⟨_, q, _⟩ := hit; exact Heap.lt_size q
    have hea : e ≠ a := fun z => by
      obtain ⟨o, q1, q2, _⟩ := p
      rw [← z, he] at q1
      cases q1
      exact absurd (show Value.type "enumerate" = Value.type "tuple" from q2) (by decide +kernel)
    have hai : a ≠ it := fun z => by
      obtain ⟨o, q1, q2, _⟩ := p
      obtain ⟨o', r1, r2, _⟩ := id hit
      rw [z, r1] at q1
      cases q1
      rw [r2] at q2
      exact absurd q2 (by decide +kernel)
    have hlt : i < its.toArray.size := by
      have := (List.getElem?_eq_some_iff.mp hu).1
      simpa using this
    refine wpAny_pyNext_enum_itemD (Draws.tuple (A := X.A.in1) (I.ok.hd hc) it a hai its.toArray) he ⟨hit, p⟩ hlt hne (by simp [hne, hea]) fun x' h' tk hx' ho st' hT hsz hk => ?_
    have ex : x' = u := by
      have h2 : its[i]? = some x' := by simpa using hx'
      rw [hu] at h2
      exact (Option.some.inj h2).symm
    subst ex
    refine ⟨_, rfl, wpAny_letOwnedTupleGo_enum (s := { s with heap := h', toks := tk + 1 }) ho fun h'' he' sb => ?_⟩
    have hT2 : h''.get? s.heap.objs.size = some { cls := .type "tuple", data := .seq #[.int i tk, x'] } := (sb.2 _ (Nat.ne_of_gt hel)).trans hT
    have new : ObjOk X.prog X.w (upd H s.heap.objs.size (.tup [.int (i : Nat), x])) h'' s.heap.objs.size (.tup [.int (i : Nat), x]) :=
      ⟨by show 2 ≤ sizeLine; decide, [.int i tk, x'], .cons ⟨_, rfl⟩ (.cons ru .nil), ⟨_, hT2, rfl, _, rfl⟩⟩
    have I1 : Inv X pins σ (upd H s.heap.objs.size (.tup [.int (i : Nat), x])) { s with heap := h'', toks := tk + 1 } :=
      I.turnedNew (ch := [e, it]) (fun b ob hb q => (sb.2 b (fun z => hb (by simp [z]))).trans (hk b ob (fun z => hb (by simp [z])) (fun z => hb (by simp [z])) q)) hf (Nat.le_refl _) new
    refine ⟨.ref s.heap.objs.size, _, I1, rfl, ⟨_, x, rfl, I.hok.fresh (Nat.le_refl _), rfl, fun ys hy => by rw [I.tuple_inj hy hq]; exact hx⟩, ⟨⟨x', ?_⟩, st'.1.at fun o q => (sb.2 it (Ne.symm hne)).trans q, hne⟩, fun b hb => ?_⟩
    · have e1 : ((i + 1 : Nat) : Int) = (i : Int) + 1 := by omega
      rw [e1]; exact he'
    · have hb' : b < s.heap.objs.size := by
        have e' : b = e ∨ b = it := by simpa using hb
        rcases e' with z | z
        · rw [z]; exact hel
        · rw [z]; exact hil
      rw [upd_ne (Nat.ne_of_lt hb')]
      exact (hf b hb).1
  done := by
    intro X hP hw hK hc i pins s σ H E I hf st hg
    subst hP hw hK
    obtain ⟨⟨old, he⟩, hit, hne⟩ := st
    obtain ⟨xs, hq, hx⟩ := hg
    obtain ⟨its, rv, p, hz⟩ := I.tuple hq
    obtain ⟨f0, f1, f2, f3, f4, f5⟩ := hf it (by simp)
    have hl := rv.length
    have hai : a ≠ it := fun z => by
      obtain ⟨o, q1, q2, _⟩ := p
      obtain ⟨o', r1, r2, _⟩ := id hit
      rw [z, r1] at q1
      cases q1
      rw [r2] at q2
      exact absurd q2 (by decide +kernel)
    have D : Draws X.prog X.w X.A.in1 it [it, a] i (fun _ _ => False) (fun j h => j = i ∧ h.IsTupleIter it a i ∧ h.IsTuple a its.toArray) :=
      { live := fun _ _ st => let ⟨o, ho, _⟩ := st.2.1; ⟨o, ho⟩
        frame := fun _ _ _ st hk => ⟨st.1, st.2.1.at fun o e => hk it (by simp) o e, st.2.2.at fun o e => hk a (by simp) o e⟩
        item := fun j s Q E hj st hQ => by
          have := st.1
          omega
        done := fun s Q E st hE => wpAny_nextOf_tuple_end (A := X.A.in1) (I.ok.hd hc) st.2.1 st.2.2 (by simp; omega) hE }
    exact wpAny_pyNext_enum_endD D he ⟨rfl, hit, p⟩ fun h' eb => ⟨rfl, I.turned (t' := s.toks) (fun b o hb q => eb b o hb q) f0 f1 f3 f4 f5⟩
  self := fun A i s Q E st h => let ⟨⟨_, he⟩, _⟩ := st; wpAny_pyIter_enum he h
def iEnumA (K : Fg) (ta : TA) : TI := fun σ H R => ta σ H fun vs H1 => ∃ a xs, vs = [.ref a] ∧ ((SqL K H1 a xs ∧ R (Ite K a) H1) ∨ (SqT K H1 a xs ∧ R (IteT K a) H1))
theorem pi_enumA {X : Cx} {e : Expr} {ta : TA} {p pos tpos : Pos} {elts : List Expr} {kk : Nat} (hg : Gl X "enumerate") (hm : X.mg "enumerate" = none) (ha : PA X [e] ta) (hs : starEach [e] X.env = [(false, eval e X.env)] := by rfl) :
    PI X (.Tuple elts kk tpos) (.Call (.Name "enumerate" p) [e] [] pos) (iEnumA X.K ta) := by
  refine ⟨fun pins s σ H R I h => ?_⟩
  refine Call_ (ld_blt I hg hm boot_enumerate (PyProof.Rows.callWith_type1 (thn (ha.run pos pins s σ H _ I h) fun us s1 ⟨vs, H1, I1, r1, q1⟩ => ?_) hs rfl))
  obtain ⟨a, xs, ex, hq⟩ := q1
  subst ex
  cases r1 with
  | cons r rr =>
    cases rr
    cases r
    have low : ∀ b, b ∈ [s1.heap.objs.size + 1, s1.heap.objs.size] → s1.heap.objs.size ≤ b := fun b hb => by
      have e' : b = s1.heap.objs.size + 1 ∨ b = s1.heap.objs.size := by simpa using hb
      rcases e' with z | z
      · rw [z]; exact Nat.le_add_right _ _
      · rw [z]; exact Nat.le_refl _
    rcases hq with ⟨hq, q⟩ | ⟨hq, q⟩
    · obtain ⟨its, rv, p', hz⟩ := I1.list hq
      refine call_enumerate_list p'.isList fun h' he hit hsz hk => wpAny_pyIter_enum he ?_
      have I2 : Inv X pins σ H1 { s1 with heap := h' } := I1.kept (t' := s1.toks) hk
      exact ⟨s1.heap.objs.size + 1, [s1.heap.objs.size + 1, s1.heap.objs.size], _, _, H1, rfl, I2, turn_enum a (s1.heap.objs.size + 1) s1.heap.objs.size, ⟨⟨.none, he⟩, hit, Nat.succ_ne_self _⟩, fun b hb => I1.fpOk (low b hb) (I1.hok.fresh (low b hb)), q⟩
    · obtain ⟨its, rv, p', hz⟩ := I1.tuple hq
      refine call_enumT p' fun h' he hit hsz hk => wpAny_pyIter_enum he ?_
      have I2 : Inv X pins σ H1 { s1 with heap := h' } := I1.kept (t' := s1.toks) hk
      exact ⟨s1.heap.objs.size + 1, [s1.heap.objs.size + 1, s1.heap.objs.size], _, _, H1, rfl, I2, turn_enumT a (s1.heap.objs.size + 1) s1.heap.objs.size, ⟨⟨.none, he⟩, hit, Nat.succ_ne_self _⟩, fun b hb => I1.fpOk (low b hb) (I1.hok.fresh (low b hb)), q⟩

/-! ### xs[i] op= e -/
def rGetL (K : Fg) : V → V → Hp → VK → Prop := fun x y H Q => ∃ p xs i v, x = .ref p ∧ y = .int i ∧ SqL K H p xs ∧ 0 ≤ i ∧ atI xs i = some v ∧ Q v H
theorem get_list {X : Cx} : PGet X (rGetL X.K) := by
  intro pins s σ H o i ov iv Q I ro ri h
  obtain ⟨p, xs, k, z, rfl, rfl, hq, h0, he, q⟩ := h
  cases ro
  obtain ⟨t, rfl⟩ := ri
  obtain ⟨its, r, pl, hz⟩ := I.list hq
  obtain ⟨j, h1, h2, h3, h4, h5⟩ := atI_get he
  obtain ⟨w, ew, rw'⟩ := r.get h2
  have hl := r.length
  have hn := line63
  have hj : k.toNat = j := by
    rw [seqIndex_of h0 h5] at h1
    exact Option.some.inj h1
  exact wpAny_getItem_list pl.isList h0 (by omega) (by rw [hj]; simpa using ew) ⟨z, H, I, rw', q⟩
end TP

set_option Elab.async false
set_option linter.all false
set_option maxRecDepth 100000
set_option maxHeartbeats 4000000
set_option autoImplicit false
/-! TP, part 3: the rules as operations on mirrors. -/
namespace TP
open PySem PySem.Spec L2

/-! ### encodings with == and < -/
class Law {α : Type} [DecidableEq α] (e : Enc α) where
  plain : ∀ a, (e a).plain = true
  eqv : ∀ a b, PyData.eqv (e a) (e b) = decide (a = b)
  dep : Nat
  dep_le : ∀ a, (e a).depth ≤ dep
class Ordl {α : Type} [DecidableEq α] (e : Enc α) extends Law e where
  lt : α → α → Bool
  alike : ∀ a b, PySem.W.alike (e a) (e b) = true
  notNone : ∀ a, e a ≠ .none
  lt_eq : ∀ a b, PySem.W.dataLt (e a) (e b) = lt a b
instance : Ordl (α := Int) PyData.int where
  plain _ := rfl
  eqv a b := by simp only [PyData.eqv]; exact PySem.W.beq_decide a b
  dep := 0
  dep_le _ := Nat.le_refl _
  lt a b := decide (a < b)
  alike a b := by show PySem.W.alike (.int a) (.int b) = true; simp only [PySem.W.alike]
  notNone a := fun e => by cases e
  lt_eq a b := PySem.W.dataLt_int a b
instance : Ordl (α := Str) PyData.str where
  plain _ := rfl
  eqv a b := by simp only [PyData.eqv]; exact PySem.W.beq_decide a b
  dep := 0
  dep_le _ := Nat.le_refl _
  lt a b := decide (a.cps.toList < b.cps.toList)
  alike a b := by show PySem.W.alike (.str a) (.str b) = true; simp only [PySem.W.alike]
  notNone a := fun e => by cases e
  lt_eq a b := PySem.W.dataLt_str a b
instance : Law (α := Bool) PyData.bool where
  plain _ := rfl
  eqv a b := by simp only [PyData.eqv]; exact PySem.W.beq_decide a b
  dep := 0
  dep_le _ := Nat.le_refl _
instance : Law (α := Unit) (fun _ => PyData.none) where
  plain _ := rfl
  eqv _ _ := by simp only [PyData.eqv]; rfl
  dep := 0
  dep_le _ := Nat.le_refl _
section
variable {α β γ : Type} [DecidableEq α] [DecidableEq β] [DecidableEq γ] {e : Enc α} {f : Enc β} {g : Enc γ}
theorem plainAll_map [Law e] : ∀ xs : List α, PyData.plainAll (xs.map e) = true
  | [] => rfl
  | x :: xs => by
    rw [List.map_cons, PyData.plainAll, Law.plain x, plainAll_map xs]
    rfl
theorem depthAll_map [Law e] : ∀ xs : List α, PyData.depthAll (xs.map e) ≤ Law.dep e
  | [] => Nat.zero_le _
  | x :: xs => by
    rw [List.map_cons, PyData.depthAll]
    exact Nat.max_le.mpr ⟨Law.dep_le x, depthAll_map xs⟩
theorem eqvAll_map [Law e] : ∀ xs ys : List α, PyData.eqvAll (xs.map e) (ys.map e) = decide (xs = ys)
  | [], [] => by simp only [List.map_nil, PyData.eqvAll, decide_true]
  | [], _ :: _ => by simp [PyData.eqvAll]
  | _ :: _, [] => by simp [PyData.eqvAll]
  | x :: xs, y :: ys => by
    rw [List.map_cons, List.map_cons, PyData.eqvAll, Law.eqv x y, eqvAll_map xs ys, ← Bool.decide_and]
    exact decide_eq_decide.mpr (by rw [List.cons.injEq])
instance [Law e] : Law (eL e) where
  plain xs := by simp only [eL, PyData.plain]; exact plainAll_map xs
  eqv xs ys := by simp only [eL, PyData.eqv]; exact eqvAll_map xs ys
  dep := Law.dep e + 1
  dep_le xs := by simp only [eL, PyData.depth]; exact Nat.succ_le_succ (depthAll_map xs)
/-- the first difference decides, else the shorter is the less -/
def listLt (lt : α → α → Bool) : List α → List α → Bool
  | [], [] => false
  | [], _ :: _ => true
  | _ :: _, [] => false
  | x :: xs, y :: ys => if x = y then listLt lt xs ys else lt x y
theorem alikeAll_map [Ordl e] : ∀ xs ys : List α, PySem.W.alikeAll (xs.map e) (ys.map e) = true
  | [], _ => by rw [List.map_nil, PySem.W.alikeAll]
  | _ :: _, [] => by rw [List.map_nil, List.map_cons, PySem.W.alikeAll]
  | x :: xs, y :: ys => by
    rw [List.map_cons, List.map_cons, PySem.W.alikeAll, Ordl.alike x y, alikeAll_map xs ys]
    rfl
theorem lexAll_map [Ordl e] : ∀ xs ys : List α, PyProof.Rows.lexLt PyProof.Rows.itemOrd (PySem.W.keyToksAll (xs.map e)) (PySem.W.keyToksAll (ys.map e)) = listLt (Ordl.lt e) xs ys
  | [], [] => PyProof.Rows.lex_irrefl _
  | [], y :: ys => by
    rw [List.map_nil, List.map_cons, PySem.W.toks_all_cons]
    simp only [PySem.W.keyToksAll]
    rw [PyProof.Rows.lex_diff (O := PyProof.Rows.itemOrd) (by simp)]
    rfl
  | x :: xs, [] => by
    rw [List.map_nil, List.map_cons, PySem.W.toks_all_cons]
    simp only [PySem.W.keyToksAll]
    rw [PyProof.Rows.lex_diff (O := PyProof.Rows.itemOrd) (by simp)]
    rfl
  | x :: xs, y :: ys => by
    rw [List.map_cons, List.map_cons, listLt]
    by_cases h : x = y
    · rw [if_pos h, PySem.W.dataLt_all_yes (Ordl.alike x y) (by rw [Law.eqv, decide_eq_true_eq]; exact h), lexAll_map xs ys]
    · rw [if_neg h, PySem.W.dataLt_all_no (Ordl.alike x y) (by rw [Law.eqv, decide_eq_false_iff_not]; exact h)]
      exact Ordl.lt_eq x y
instance [Ordl e] : Ordl (eV e) where
  plain xs := by simp only [eV, PyData.plain]; exact plainAll_map xs
  eqv xs ys := by simp only [eV, PyData.eqv]; exact eqvAll_map xs ys
  dep := Law.dep e + 1
  dep_le xs := by simp only [eV, PyData.depth]; exact Nat.succ_le_succ (depthAll_map xs)
  lt := listLt (Ordl.lt e)
  alike xs ys := by show PySem.W.alike (.tuple _) (.tuple _) = true; simp only [PySem.W.alike]; exact alikeAll_map xs ys
  notNone a := fun e => by cases e
  lt_eq xs ys := (PySem.W.dataLt_tuple _ _).trans (lexAll_map xs ys)
end
section
variable {α β γ : Type} [DecidableEq α] [DecidableEq β] [DecidableEq γ] {e : Enc α} {f : Enc β} {g : Enc γ}
theorem lt_irr [Ordl e] (x : α) : Ordl.lt e x x = false := (Ordl.lt_eq x x).symm.trans (PySem.W.dataLt_self _)
instance law2 [Law e] [Law f] : Law (e2 e f) where
  plain p := by simp only [e2, PyData.plain, PyData.plainAll, Law.plain, Bool.and_self]
  eqv p q := by
    simp only [e2, PyData.eqv, PyData.eqvAll]
    rw [Law.eqv, Law.eqv, Bool.and_true, ← Bool.decide_and]
    exact decide_eq_decide.mpr ⟨fun e => Prod.ext e.1 e.2, fun e => by rw [e]; exact ⟨rfl, rfl⟩⟩
  dep := max (Law.dep e) (Law.dep f) + 1
  dep_le p := by
    simp only [e2, PyData.depth, PyData.depthAll]
    refine Nat.succ_le_succ (Nat.max_le.mpr ⟨Nat.le_trans (Law.dep_le p.1) (Nat.le_max_left _ _), Nat.max_le.mpr ⟨Nat.le_trans (Law.dep_le p.2) (Nat.le_max_right _ _), Nat.zero_le _⟩⟩)
instance ord2 [Ordl e] [Ordl f] : Ordl (e2 e f) where
  toLaw := law2
  lt p q := if p.1 = q.1 then Ordl.lt f p.2 q.2 else Ordl.lt e p.1 q.1
  alike p q := by
    show PySem.W.alike (.tuple [_, _]) (.tuple [_, _]) = true
    simp only [PySem.W.alike, PySem.W.alikeAll, Ordl.alike, Bool.and_self]
  notNone a := fun e => by cases e
  lt_eq p q := by
    refine (PySem.W.dataLt_tuple _ _).trans ?_
    by_cases h : p.1 = q.1
    · rw [if_pos h, PySem.W.dataLt_all_yes (Ordl.alike p.1 q.1) (by rw [Law.eqv, decide_eq_true_eq]; exact h)]
      by_cases h2 : p.2 = q.2
      · rw [PySem.W.dataLt_all_yes (Ordl.alike p.2 q.2) (by rw [Law.eqv, decide_eq_true_eq]; exact h2), PyProof.Rows.lex_irrefl, h2]
        exact (lt_irr q.2).symm
      · rw [PySem.W.dataLt_all_no (Ordl.alike p.2 q.2) (by rw [Law.eqv, decide_eq_false_iff_not]; exact h2)]
        exact Ordl.lt_eq p.2 q.2
    · rw [if_neg h, PySem.W.dataLt_all_no (Ordl.alike p.1 q.1) (by rw [Law.eqv, decide_eq_false_iff_not]; exact h)]
      exact Ordl.lt_eq p.1 q.1
instance law3 [Law e] [Law f] [Law g] : Law (e3 e f g) where
  plain p := by simp only [e3, PyData.plain, PyData.plainAll, Law.plain, Bool.and_self]
  eqv p q := by
    simp only [e3, PyData.eqv, PyData.eqvAll]
    rw [Law.eqv, Law.eqv, Law.eqv, Bool.and_true, ← Bool.decide_and, ← Bool.decide_and]
    exact decide_eq_decide.mpr ⟨fun e => Prod.ext e.1 (Prod.ext e.2.1 e.2.2), fun e => by rw [e]; exact ⟨rfl, rfl, rfl⟩⟩
  dep := max (Law.dep e) (max (Law.dep f) (Law.dep g)) + 1
  dep_le p := by
    simp only [e3, PyData.depth, PyData.depthAll]
    have h1 := Law.dep_le (e := e) p.1
    have h2 := Law.dep_le (e := f) p.2.1
    have h3 := Law.dep_le (e := g) p.2.2
    omega
end

/-! ### ints -/
section
variable {K : Fg} {mg : Str → Option Value} {W : WX} {S : List Sl} {te ta tb tc : TE} {tt : TT} {tr : TA} {α β γ τ : Type}
abbrev vI : View Int := vD eI
abbrev vB : View Bool := vD eB
theorem o_I0 {g : Int → Int → Int} : Op K (rI0 fun i j => .int (g i j)) vI vI vI (fun a b => some (g a b)) := fun F H v u x y z s h1 h2 e Q q => by
  cases e
  exact ⟨x, y, dp_int h1, dp_int h2, q _ F H (.refl s) (.int _)⟩
theorem o_B0 {p : Int → Int → Bool} : Op K (rI0 fun i j => .bl (p i j)) vI vI vB (fun a b => some (p a b)) := fun F H v u x y z s h1 h2 e Q q => by
  cases e
  exact ⟨x, y, dp_int h1, dp_int h2, q _ F H (.refl s) (.bl _)⟩
/-- an operation with a condition that is checked -/
theorem o_IC {C : Int → Int → Prop} {g : Int → Int → Int} {q : Int → Int → Option Int} (hc : ∀ a b z, q a b = some z → C a b ∧ z = g a b) : Op K (rI C fun i j => .int (g i j)) vI vI vI q := fun F H v u x y z s h1 h2 e Q q => by
  obtain ⟨k, rfl⟩ := hc _ _ _ e
  exact ⟨x, y, dp_int h1, dp_int h2, k, q _ F H (.refl s) (.int _)⟩
def cMul (a b : Int) : Bool := decide (a.natAbs.log2 + b.natAbs.log2 < 1000000)
def cDiv (_ b : Int) : Bool := decide (0 < b ∧ b.natAbs.log2 < 9000)
def cMod (_ b : Int) : Bool := decide (0 < b)
instance (i j : Int) : Decidable (CMulW i j) := inferInstanceAs (Decidable (_ < _))
instance (i j : Int) : Decidable (CDivW i j) := inferInstanceAs (Decidable (_ ∧ _))
@[irreducible] def mulQ (a b : Int) : Option Int := if cMul a b = true then some (a * b) else none
@[irreducible] def divQ (a b : Int) : Option Int := if cDiv a b = true then some (a / b) else none
@[irreducible] def modQ (a b : Int) : Option Int := if cMod a b = true then some (a % b) else none
theorem o_mulW : Op K (rI CMulW fun i j => .int (i * j)) vI vI vI mulQ := o_IC fun a b z h => by
  unfold mulQ at h
  split at h
  · rename_i k
    cases h
    exact ⟨of_decide_eq_true k, rfl⟩
  · cases h
theorem o_divW : Op K (rI CDivW fun i j => .int (i / j)) vI vI vI divQ := o_IC fun a b z h => by
  unfold divQ at h
  split at h
  · rename_i k
    cases h
    exact ⟨of_decide_eq_true k, rfl⟩
  · cases h
theorem o_mod : Op K (rI (fun _ j => 0 < j) fun i j => .int (i % j)) vI vI vI modQ := o_IC fun a b z h => by
  unfold modQ at h
  split at h
  · rename_i k
    cases h
    exact ⟨of_decide_eq_true k, rfl⟩
  · cases h
/-- the right side is known -/
theorem XB.opc {C : Int → Int → Prop} {g : Int → Int → Int} {m : Res Int} {c : Int} (ha : XB K mg W S ta vI m) (hb : XB K mg W S tb vI (.ok c)) (hC : ∀ x, C x c) : XB K mg W S (tOp (rI C fun i j => .int (g i j)) ta tb) vI (m.bind fun x => .ok (g x c)) := fun F H σ A a Q q =>
  ha.two (P := fun x y => y = c ∧ ∀ v F' H', Pu F H F' H' → (vI).ok K F' H' v (g x c) → Q v H') hb a ((Post.of_bind q).imp (fun x k => ⟨rfl, k⟩) fun e z => z) fun x y v u F2 H2 k p u1 u2 H1 => by
    obtain ⟨rfl, k⟩ := k
    exact ⟨x, _, dp_int u1, dp_int u2, hC x, k _ F2 H2 p (.int _)⟩
theorem XB.opc1 {C : Int → Int → Prop} {g : Int → Int → Int} {m : Res Int} {c : Int} (ha : XB K mg W S ta vI (.ok c)) (hb : XB K mg W S tb vI m) (hC : ∀ x, C c x) : XB K mg W S (tOp (rI C fun i j => .int (g i j)) ta tb) vI (m.bind fun x => .ok (g c x)) := fun F H σ A a Q q =>
  ha.two (P := fun x y => x = c ∧ ∀ v F' H', Pu F H F' H' → (vI).ok K F' H' v (g c y) → Q v H') hb a (show Post m _ _ from (Post.of_bind q).imp (fun x k => ⟨rfl, k⟩) fun e z => z) fun x y v u F2 H2 k p u1 u2 H1 => by
    obtain ⟨rfl, k⟩ := k
    exact ⟨_, y, dp_int u1, dp_int u2, hC y, k _ F2 H2 p (.int _)⟩
theorem XB.opcc {C : Int → Int → Prop} {g : Int → Int → Int} {a b : Int} (ha : XB K mg W S ta vI (.ok a)) (hb : XB K mg W S tb vI (.ok b)) (hC : C a b) : XB K mg W S (tOp (rI C fun i j => .int (g i j)) ta tb) vI (.ok (g a b)) := fun F H σ A at' Q q =>
  ha.two (P := fun x y => x = a ∧ y = b) hb at' ⟨rfl, rfl⟩ fun x y v u F2 H2 k p u1 u2 H1 => by
    obtain ⟨rfl, rfl⟩ := k
    exact ⟨_, _, dp_int u1, dp_int u2, hC, q _ F2 H2 p (.int _)⟩
theorem XB.neg {m : Res Int} (ha : XB K mg W S ta vI m) : XB K mg W S (tUn (rU fun i => .int (-i)) ta) vI (m.bind fun x => .ok (-x)) := fun F H σ A a Q q =>
  ha F H σ A a _ ((Post.of_bind q).imp (fun x k v F1 H1 p1 u1 => ⟨x, dp_int u1, k _ F1 H1 p1 (.int _)⟩) fun e z => z)

/-! ### == -/
theorem o_eqS : Op K rEq (vD eS) (vD eS) vB (fun a b => some (decide (a = b))) := fun F H v u x y z s h1 h2 e Q q => by
  cases e
  rw [dp_str h1, dp_str h2]
  have : decide (V.str x = V.str y) = decide (x = y) := decide_eq_decide.mpr ⟨fun e => by cases e; rfl, fun e => by rw [e]⟩
  exact ⟨rfl, q _ F H (.refl s) (by rw [this]; exact .bl _)⟩
theorem o_eqI : Op K rEq vI vI vB (fun a b => some (decide (a = b))) := fun F H v u x y z s h1 h2 e Q q => by
  cases e
  rw [dp_int h1, dp_int h2]
  have : decide (V.int x = V.int y) = decide (x = y) := decide_eq_decide.mpr ⟨fun e => by cases e; rfl, fun e => by rw [e]⟩
  exact ⟨rfl, q _ F H (.refl s) (by rw [this]; exact .bl _)⟩
theorem o_eqB : Op K rEq vB vB vB (fun a b => some (decide (a = b))) := fun F H v u x y z s h1 h2 e Q q => by
  cases e
  rw [dp_bl h1, dp_bl h2]
  have : decide (V.bl x = V.bl y) = decide (x = y) := decide_eq_decide.mpr ⟨fun e => by cases e; rfl, fun e => by rw [e]⟩
  exact ⟨rfl, q _ F H (.refl s) (by rw [this]; exact .bl _)⟩
theorem o_neS : Op K rNe (vD eS) (vD eS) vB (fun a b => some (!decide (a = b))) := fun F H v u x y z s h1 h2 e Q q => by
  cases e
  rw [dp_str h1, dp_str h2]
  have : decide (V.str x = V.str y) = decide (x = y) := decide_eq_decide.mpr ⟨fun e => by cases e; rfl, fun e => by rw [e]⟩
  exact ⟨rfl, q _ F H (.refl s) (by rw [this]; exact .bl _)⟩
theorem o_neI : Op K rNe vI vI vB (fun a b => some (!decide (a = b))) := fun F H v u x y z s h1 h2 e Q q => by
  cases e
  rw [dp_int h1, dp_int h2]
  have : decide (V.int x = V.int y) = decide (x = y) := decide_eq_decide.mpr ⟨fun e => by cases e; rfl, fun e => by rw [e]⟩
  exact ⟨rfl, q _ F H (.refl s) (by rw [this]; exact .bl _)⟩
theorem o_neB : Op K rNe vB vB vB (fun a b => some (!decide (a = b))) := fun F H v u x y z s h1 h2 e Q q => by
  cases e
  rw [dp_bl h1, dp_bl h2]
  have : decide (V.bl x = V.bl y) = decide (x = y) := decide_eq_decide.mpr ⟨fun e => by cases e; rfl, fun e => by rw [e]⟩
  exact ⟨rfl, q _ F H (.refl s) (by rw [this]; exact .bl _)⟩
/-- data of one kind -/
theorem o_eqT [DecidableEq α] {e : Enc α} [Law e] (hd : Law.dep e ≤ 64 := by decide) : Op K (rEqP false K) (vH e) (vH e) vB (fun a b => some (decide (a = b))) := fun F H v u x y z s h1 h2 ez Q q => by
  cases ez
  refine ⟨_, _, h1, h2, Law.plain x, Law.plain y, ?_, ?_⟩
  · have := Law.dep_le (e := e) x
    omega
  · rw [Law.eqv]
    exact q _ F H (.refl s) (by simp only [Bool.false_bne, Bool.true_bne]; exact .bl _)
theorem o_neT [DecidableEq α] {e : Enc α} [Law e] (hd : Law.dep e ≤ 64 := by decide) : Op K (rEqP true K) (vH e) (vH e) vB (fun a b => some (!decide (a = b))) := fun F H v u x y z s h1 h2 ez Q q => by
  cases ez
  refine ⟨_, _, h1, h2, Law.plain x, Law.plain y, ?_, ?_⟩
  · have := Law.dep_le (e := e) x
    omega
  · rw [Law.eqv]
    exact q _ F H (.refl s) (by simp only [Bool.false_bne, Bool.true_bne]; exact .bl _)
/-- data of any two kinds -/
@[irreducible] def eqA (d d' : PyData) : Option Bool := if d.plain = true ∧ d'.plain = true ∧ min d.depth d'.depth ≤ 64 then some (PyData.eqv d d') else none
@[irreducible] def neA (d d' : PyData) : Option Bool := if d.plain = true ∧ d'.plain = true ∧ min d.depth d'.depth ≤ 64 then some (!PyData.eqv d d') else none
theorem o_eqA {e : Enc α} {f : Enc β} : Op K (rEqP false K) (vH e) (vH f) vB (fun a b => eqA (e a) (f b)) := fun F H v u x y z s h1 h2 ez Q q => by
  dsimp only at ez
  unfold eqA at ez
  split at ez
  · rename_i c
    cases ez
    exact ⟨_, _, h1, h2, c.1, c.2.1, c.2.2, q _ F H (.refl s) (by simp only [Bool.false_bne, Bool.true_bne]; exact .bl _)⟩
  · cases ez
theorem o_neA {e : Enc α} {f : Enc β} : Op K (rEqP true K) (vH e) (vH f) vB (fun a b => neA (e a) (f b)) := fun F H v u x y z s h1 h2 ez Q q => by
  dsimp only at ez
  unfold neA at ez
  split at ez
  · rename_i c
    cases ez
    exact ⟨_, _, h1, h2, c.1, c.2.1, c.2.2, q _ F H (.refl s) (by simp only [Bool.false_bne, Bool.true_bne]; exact .bl _)⟩
  · cases ez
/-- < and its kin on data -/
theorem o_lt [DecidableEq α] {e : Enc α} [Ordl e] (hd : Law.dep e ≤ 64 := by decide) : Op K (rCmpD PySem.W.dataLt K) (vH e) (vH e) vB (fun a b => some (Ordl.lt e a b)) := fun F H v u x y z s h1 h2 ez Q q => by
  cases ez
  refine ⟨_, _, h1, h2, Ordl.alike x y, Ordl.notNone x, ?_, ?_⟩
  · have := Law.dep_le (e := e) x
    omega
  · try dsimp only
    rw [Ordl.lt_eq]
    exact q _ F H (.refl s) (.bl _)
theorem o_gt [DecidableEq α] {e : Enc α} [Ordl e] (hd : Law.dep e ≤ 64 := by decide) : Op K (rCmpD (fun d e => PySem.W.dataLt e d) K) (vH e) (vH e) vB (fun a b => some (Ordl.lt e b a)) := fun F H v u x y z s h1 h2 ez Q q => by
  cases ez
  refine ⟨_, _, h1, h2, Ordl.alike x y, Ordl.notNone x, ?_, ?_⟩
  · have := Law.dep_le (e := e) x
    omega
  · try dsimp only
    rw [Ordl.lt_eq]
    exact q _ F H (.refl s) (.bl _)
theorem o_le [DecidableEq α] {e : Enc α} [Ordl e] (hd : Law.dep e ≤ 64 := by decide) : Op K (rCmpD (fun d e => !PySem.W.dataLt e d) K) (vH e) (vH e) vB (fun a b => some (!Ordl.lt e b a)) := fun F H v u x y z s h1 h2 ez Q q => by
  cases ez
  refine ⟨_, _, h1, h2, Ordl.alike x y, Ordl.notNone x, ?_, ?_⟩
  · have := Law.dep_le (e := e) x
    omega
  · try dsimp only
    rw [Ordl.lt_eq]
    exact q _ F H (.refl s) (.bl _)
theorem o_ge [DecidableEq α] {e : Enc α} [Ordl e] (hd : Law.dep e ≤ 64 := by decide) : Op K (rCmpD (fun d e => !PySem.W.dataLt d e) K) (vH e) (vH e) vB (fun a b => some (!Ordl.lt e a b)) := fun F H v u x y z s h1 h2 ez Q q => by
  cases ez
  refine ⟨_, _, h1, h2, Ordl.alike x y, Ordl.notNone x, ?_, ?_⟩
  · have := Law.dep_le (e := e) x
    omega
  · try dsimp only
    rw [Ordl.lt_eq]
    exact q _ F H (.refl s) (.bl _)

/-! ### lists and tuples -/
theorem atI_map {e : Enc α} {vs : List V} {xs : List α} {i : Int} {z : α} {F : Hp} (d : DpAll K F vs (xs.map e)) (h : atI xs i = some z) : ∃ w, atI vs i = some w ∧ Dp K F w (e z) := by
  unfold atI at h ⊢
  have el : vs.length = xs.length := by
    rw [dpAll_len d, List.length_map]
  rw [el]
  cases q : ixN xs.length i with
  | none =>
    rw [q] at h
    cases h
  | some j =>
    rw [q] at h
    have h' : xs[j]? = some z := h
    exact dpAll_get (d := e z) d (by rw [List.getElem?_map, h']; rfl)
@[irreducible] def ixQ (xs : List α) (i : Int) : Option α := atI xs i
theorem o_ixL {e : Enc α} : Op K (rIxL K) (vL e) vI (vD e) ixQ := fun F H v u x y z s h1 h2 ez Q q => by
  unfold ixQ at ez
  obtain ⟨a, vs, rfl, g1, g2⟩ := h1
  obtain ⟨w, g3, g4⟩ := atI_map g2 ez
  exact ⟨a, vs, y, w, rfl, dp_int h2, g1, g3, q w F H (.refl s) g4⟩
theorem o_ixV {e : Enc α} : Op K (rIxT K) (vD (eV e)) vI (vD e) ixQ := fun F H v u x y z s h1 h2 ez Q q => by
  unfold ixQ at ez
  obtain ⟨a, vs, rfl, g1, g2⟩ := dp_tup h1
  obtain ⟨w, g3, g4⟩ := atI_map g2 ez
  exact ⟨a, vs, y, w, rfl, dp_int h2, sqT_sub s g1, g3, q w F H (.refl s) g4⟩
/-- an item of a tuple of known length, at a written place -/
theorem XB.proj {e : Enc α} {f : Enc β} {m : Res α} {D : α → List PyData} {g : α → β} (j : Nat) (h : XB K mg W S ta (vD e) m) (hb : XB K mg W S tb vI (.ok (j : Int))) (he : ∀ x, e x = .tuple (D x)) (hi : ∀ x, (D x)[j]? = some (f (g x))) :
    XB K mg W S (tOp (rIxT K) ta tb) (vD f) (m.bind fun x => .ok (g x)) := fun F H σ A a Q q =>
  h.two (P := fun x y => y = (j : Int) ∧ ∀ v F' H', Pu F H F' H' → (vD f).ok K F' H' v (g x) → Q v H') hb a ((Post.of_bind q).imp (fun x k => ⟨rfl, k⟩) fun e z => z) fun x y v u F2 H2 k p u1 u2 H1 => by
    obtain ⟨rfl, k⟩ := k
    have u1' : Dp K F2 v (e x) := u1
    rw [he] at u1'
    obtain ⟨b, vs, rfl, g1, g2⟩ := dp_tup u1'
    obtain ⟨w, g3, g4⟩ := dpAll_get g2 (hi x)
    exact ⟨b, vs, _, w, rfl, dp_int u2, sqT_sub p.fh g1, atI_nat g3, k w F2 H2 p g4⟩
theorem o_lenL {e : Enc α} : Cl1 K (fun xs H Q => ∃ p ys, xs = [.ref p] ∧ (SqL K H p ys ∨ SqT K H p ys) ∧ Q (.int ys.length) H) (vL e) vI (fun xs => some (xs.length : Int)) := fun F H v x z s h1 ez Q q => by
  obtain ⟨a, vs, rfl, g1, g2⟩ := h1
  cases ez
  have el : vs.length = x.length := by
    rw [dpAll_len g2, List.length_map]
  exact ⟨a, vs, rfl, .inl g1, by rw [el]; exact q _ F H (.refl s) (.int _)⟩
theorem o_lenV {e : Enc α} : Cl1 K (fun xs H Q => ∃ p ys, xs = [.ref p] ∧ (SqL K H p ys ∨ SqT K H p ys) ∧ Q (.int ys.length) H) (vD (eV e)) vI (fun xs => some (xs.length : Int)) := fun F H v x z s h1 ez Q q => by
  obtain ⟨a, vs, rfl, g1, g2⟩ := dp_tup h1
  cases ez
  have el : vs.length = x.length := by
    rw [dpAll_len g2, List.length_map]
  exact ⟨a, vs, rfl, .inr (sqT_sub s g1), by rw [el]; exact q _ F H (.refl s) (.int _)⟩
theorem newL {e : Enc α} {F H : Hp} {vs : List V} {xs : List α} {Q : VK} {p : Addr} (s : Sub F H) (d : DpAll K F vs (xs.map e)) (hp : H p = none) (q : ∀ w F' H' Av, Pu F H F' H' → (ow (fz e)).ok K F' H' w xs Av → Frs F H F' Av → Q w H') : Q (.ref p) (upd H p (.lst vs)) :=
  q (.ref p) F _ [p] (.newO s hp) ⟨p, vs, [], rfl, upd_same, rfl, okL_of d⟩ ⟨by simp, fun a ha => by
    have z : a = p := by simpa using ha
    rw [z]
    exact hp, fun a ha => by
    have z : a = p := by simpa using ha
    rw [z]
    exact s.back hp⟩
theorem o_listL {e : Enc α} : Cl1O K (fun xs H Q => ∃ p ys, xs = [.ref p] ∧ (SqL K H p ys ∨ SqT K H p ys) ∧ ∀ l, H l = none → Q (.ref l) (upd H l (.lst ys))) (vL e) (ow (fz e)) (fun xs => some xs) := fun F H v x z s h1 ez Q q => by
  obtain ⟨a, vs, rfl, g1, g2⟩ := h1
  cases ez
  exact ⟨a, vs, rfl, .inl g1, fun l hl => newL s g2 hl q⟩
theorem o_listV {e : Enc α} : Cl1O K (fun xs H Q => ∃ p ys, xs = [.ref p] ∧ (SqL K H p ys ∨ SqT K H p ys) ∧ ∀ l, H l = none → Q (.ref l) (upd H l (.lst ys))) (vD (eV e)) (ow (fz e)) (fun xs => some xs) := fun F H v x z s h1 ez Q q => by
  obtain ⟨a, vs, rfl, g1, g2⟩ := dp_tup h1
  cases ez
  exact ⟨a, vs, rfl, .inr (sqT_sub s g1), fun l hl => newL s g2 hl q⟩
theorem o_tupleL {e : Enc α} : Cl1 K (fun xs H Q => ∃ p ys, xs = [.ref p] ∧ ((SqL K H p ys ∧ ∀ l, H l = none → Q (.ref l) (upd H l (.tup ys))) ∨ (SqT K H p ys ∧ Q (.ref p) H))) (vL e) (vD (eV e)) (fun xs => some xs) := fun F H v x z s h1 ez Q q => by
  obtain ⟨a, vs, rfl, g1, g2⟩ := h1
  cases ez
  exact ⟨a, vs, rfl, .inl ⟨g1, fun l hl => q _ (upd F l (.tup vs)) _ (.new s hl) (.tup (.of upd_same) (dpAll_sub (.new (s.back hl)) g2))⟩⟩
theorem o_tupleV {e : Enc α} : Cl1 K (fun xs H Q => ∃ p ys, xs = [.ref p] ∧ ((SqL K H p ys ∧ ∀ l, H l = none → Q (.ref l) (upd H l (.tup ys))) ∨ (SqT K H p ys ∧ Q (.ref p) H))) (vD (eV e)) (vD (eV e)) (fun xs => some xs) := fun F H v x z s h1 ez Q q => by
  obtain ⟨a, vs, rfl, g1, g2⟩ := dp_tup h1
  cases ez
  exact ⟨a, vs, rfl, .inr ⟨sqT_sub s g1, q _ F H (.refl s) (.tup g1 g2)⟩⟩
/-- xs[lo:hi] -/
@[irreducible] def cutA (xs : List α) (lo hi : Option Int) : List α := (xs.drop (HT.sIx xs.length 0 lo)).take (HT.sIx xs.length xs.length hi - HT.sIx xs.length 0 lo)
def XPo (K : Fg) (mg : Str → Option Value) (W : WX) (S : List Sl) (to : TO) (m : Res (Option Int)) : Prop :=
  ∀ F H σ A, At K F H σ S A → ∀ Q : Option Int → Hp → Prop, Post m (fun o => ∀ F' H', Pu F H F' H' → Q o H') (XEr K mg W F H σ) → to σ H Q
theorem XPo.none : XPo K mg W S tNoPart (.ok none) := fun F H σ A a Q q => q F H (.refl a.fh)
theorem XPo.some {m : Res Int} (h : XB K mg W S te vI m) : XPo K mg W S (tPart te) (m.bind fun i => .ok (some i)) := fun F H σ A a Q q =>
  h F H σ A a _ ((Post.of_bind q).imp (fun i k v F1 H1 p1 u1 => ⟨i, dp_int u1, k F1 H1 p1⟩) fun e z => z)
theorem XO.slL {e : Enc α} {tl th : TO} {m : Res (List α)} {ml mh : Res (Option Int)} (h : XB K mg W S te (vL e) m) (hl : XPo K mg W S tl ml) (hh : XPo K mg W S th mh) :
    XO K mg W S (tSl (rSlL K) te tl th) (ow (fz e)) (m.bind fun xs => ml.bind fun lo => mh.bind fun hi => .ok (cutA xs lo hi)) := fun F H σ A a Q q =>
  h F H σ A a _ ((Post.of_bind q).imp (fun xs k v F1 H1 p1 u1 => hl F1 H1 σ A (a.pu p1) _ ((Post.of_bind k).imp (fun lo k F2 H2 p2 => hh F2 H2 σ A ((a.pu p1).pu p2) _ ((Post.of_bind k).imp (fun hi k F3 H3 p3 => by
    obtain ⟨b, vs, rfl, g1, g2⟩ := (TP.vL e).mono u1 (p2.ff.trans p3.ff) (p2.hh.trans p3.hh)
    have el : vs.length = xs.length := by
      rw [dpAll_len g2, List.length_map]
    refine ⟨b, vs, rfl, g1, fun p hp => ?_⟩
    have pp := (p1.trans p2).trans p3
    refine newL (xs := cutA xs lo hi) p3.fh ?_ hp fun w F' H' Av p u fr => k w F' H' Av (pp.trans p) u (fr.pu pp)
    unfold cutV cutA
    rw [el, List.map_take, List.map_drop]
    exact dpAll_take _ (dpAll_drop _ g2)) fun e z => (z.pu p1).pu p2)) fun e z => z.pu p1)) fun e z => z)
@[irreducible] def catQ (xs ys : List α) : Option (List α) := if xs.length + ys.length ≤ sizeLine then some (xs ++ ys) else none
theorem o_cat {e : Enc α} : OpO K (rCatS K) (vL e) (vL e) (ow (fz e)) catQ := fun F H v u x y z s h1 h2 ez Q q => by
  obtain ⟨a, vs, rfl, g1, g2⟩ := h1
  obtain ⟨b, ws, rfl, g3, g4⟩ := h2
  unfold catQ at ez
  split at ez
  · rename_i c
    cases ez
    have e1 : vs.length = x.length := by
      rw [dpAll_len g2, List.length_map]
    have e2 : ws.length = y.length := by
      rw [dpAll_len g4, List.length_map]
    refine ⟨a, b, vs, ws, rfl, rfl, g1, g3, by rw [e1, e2]; exact c, fun p hp => newL (xs := x ++ y) s ?_ hp q⟩
    rw [List.map_append]
    exact dpAll_app g2 g4
  · cases ez
/-- a list that is tracked itself -/
def vR (e : Enc α) : View (List α) := ⟨fun K F H v x => ∃ a vs, v = .ref a ∧ H a = some (.lst vs) ∧ DpAll K F vs (x.map e), fun ⟨a, vs, h1, h2, h3⟩ s t => ⟨a, vs, h1, t a _ h2, dpAll_sub s h3⟩⟩
theorem vw_owR {e : Enc α} : Vw (ow (fz e)) (vR e) := fun _ _ _ _ _ _ _ ⟨a, vs, A', h1, h2, h3, h4⟩ => ⟨a, vs, h1, h2, (okL_fz h4).2⟩
@[irreducible] def repQ (xs : List α) (k : Int) : Option (List α) := if -(2 ^ 63) ≤ k ∧ k < 2 ^ 63 ∧ xs.length * k.toNat ≤ sizeLine then some (List.replicate k.toNat xs).flatten else none
theorem dpAll_rep {F : Hp} {e : Enc α} {vs : List V} {xs : List α} (h : DpAll K F vs (xs.map e)) : ∀ k : Nat, DpAll K F (List.replicate k vs).flatten ((List.replicate k xs).flatten.map e)
  | 0 => .nil
  | k + 1 => by
    rw [List.replicate_succ, List.replicate_succ, List.flatten_cons, List.flatten_cons, List.map_append]
    exact dpAll_app h (dpAll_rep h k)
theorem o_rep {e : Enc α} : OpO K rRep (vR e) vI (ow (fz e)) repQ := fun F H v u x y z s h1 h2 ez Q q => by
  obtain ⟨a, vs, rfl, g1, g2⟩ := h1
  unfold repQ at ez
  split at ez
  · rename_i c
    cases ez
    have e1 : vs.length = x.length := by
      rw [dpAll_len g2, List.length_map]
    exact ⟨a, y, vs, rfl, dp_int h2, g1, c.1, c.2.1, by rw [e1]; exact c.2.2, fun p hp => newL (xs := (List.replicate y.toNat x).flatten) s (dpAll_rep g2 _) hp q⟩
  · cases ez

/-! ### sum, max, min, sorted, index -/
theorem dpAll_ints {F : Hp} : ∀ {vs : List V} {ns : List Int}, DpAll K F vs (ns.map eI) → vs = ns.map V.int
  | [], [], _ => rfl
  | v :: vs, n :: ns, .cons h t => by
    rw [dp_int h, dpAll_ints t]
    rfl
  | [], _ :: _, h => nomatch h
  | _ :: _, [], h => nomatch h
theorem o_sumL : Cl1 K (rSumS K) (vL eI) vI (fun xs => some xs.sum) := fun F H v x z s h1 ez Q q => by
  obtain ⟨a, vs, rfl, g1, g2⟩ := h1
  cases ez
  rw [dpAll_ints g2] at g1
  exact ⟨a, x, rfl, .inl g1, q _ F H (.refl s) (.int _)⟩
theorem o_sumV : Cl1 K (rSumS K) (vD (eV eI)) vI (fun xs => some xs.sum) := fun F H v x z s h1 ez Q q => by
  obtain ⟨a, vs, rfl, g1, g2⟩ := dp_tup h1
  cases ez
  rw [dpAll_ints g2] at g1
  exact ⟨a, x, rfl, .inr (sqT_sub s g1), q _ F H (.refl s) (.int _)⟩
def extL (lt : α → α → Bool) (mx : Bool) : List α → Option α
  | [] => none
  | x :: xs => some (xs.foldl (fun a y => if (if mx then lt a y else lt y a) = true then y else a) x)
theorem ext_map [DecidableEq α] {e : Enc α} [Ordl e] (mx : Bool) : ∀ (xs : List α) (x : α), extD mx (e x) (xs.map e) = e (xs.foldl (fun a y => if (if mx then Ordl.lt e a y else Ordl.lt e y a) = true then y else a) x) := by
  intro xs
  cases mx with
  | true =>
    show ∀ x, PySem.W.maxD (e x) (xs.map e) = _
    unfold PySem.W.maxD
    induction xs with
    | nil => intro x; rfl
    | cons y ys ih =>
      intro x
      rw [List.map_cons, List.foldl_cons, List.foldl_cons, Ordl.lt_eq]
      by_cases h : Ordl.lt e x y = true
      · simp only [h, if_true]
        exact ih y
      · simp only [h, if_true, if_false]
        exact ih x
  | false =>
    show ∀ x, PySem.W.minD (e x) (xs.map e) = _
    unfold PySem.W.minD
    induction xs with
    | nil => intro x; rfl
    | cons y ys ih =>
      intro x
      rw [List.map_cons, List.foldl_cons, List.foldl_cons, Ordl.lt_eq]
      by_cases h : Ordl.lt e y x = true
      · simp only [h, if_true, if_false, Bool.false_eq_true]
        exact ih y
      · simp only [h, if_false, Bool.false_eq_true]
        exact ih x
theorem ext_go [DecidableEq α] {e : Enc α} [Ordl e] (mx : Bool) (hd : Law.dep e ≤ 64) {F H : Hp} {a : Addr} {vs : List V} {x z : α} {xs : List α} (s : Sub F H) (g1 : Sq K H a vs) (g2 : DpAll K F vs ((x :: xs).map e)) (ez : extL (Ordl.lt e) mx (x :: xs) = some z) {Q : VK} (q : ∀ w F' H', Pu F H F' H' → (vD e).ok K F' H' w z → Q w H') : rExt mx K [.ref a] H Q := by
  refine ⟨a, vs, e x, xs.map e, rfl, g1, dpAll_sub s g2, ⟨?_, ?_⟩, Nat.le_trans (depthAll_map (e := e) (x :: xs)) hd, fun i y hy hi => ?_⟩
  · intro d hd d' hd'
    obtain ⟨b, _, rfl⟩ := List.mem_map.mp (show d ∈ (x :: xs).map e from hd)
    obtain ⟨b', _, rfl⟩ := List.mem_map.mp (show d' ∈ (x :: xs).map e from hd')
    exact Ordl.alike b b'
  · intro d hd
    obtain ⟨b, _, rfl⟩ := List.mem_map.mp (show d ∈ (x :: xs).map e from hd)
    exact Ordl.notNone b
  · rw [ext_map] at hi
    have e1 : z = _ := (Option.some.inj ez).symm
    rw [← e1] at hi
    obtain ⟨w, h3, h4⟩ := dpAll_get g2 hi
    rw [hy] at h3
    cases h3
    exact q y F H (.refl s) h4
theorem o_extL [DecidableEq α] {e : Enc α} [Ordl e] {mx : Bool} (hd : Law.dep e ≤ 64 := by decide) : Cl1 K (rExt mx K) (vL e) (vD e) (extL (Ordl.lt e) mx) := fun F H v x z s h1 ez Q q => by
  obtain ⟨a, vs, rfl, g1, g2⟩ := h1
  cases x with
  | nil => cases ez
  | cons x xs => exact ext_go mx hd s (.inl g1) g2 ez q
theorem o_extV [DecidableEq α] {e : Enc α} [Ordl e] {mx : Bool} (hd : Law.dep e ≤ 64 := by decide) : Cl1 K (rExt mx K) (vD (eV e)) (vD e) (extL (Ordl.lt e) mx) := fun F H v x z s h1 ez Q q => by
  obtain ⟨a, vs, rfl, g1, g2⟩ := dp_tup h1
  cases x with
  | nil => cases ez
  | cons x xs => exact ext_go mx hd s (.inr (sqT_sub s g1)) g2 ez q
end
end TP

set_option Elab.async false
set_option linter.all false
set_option maxRecDepth 100000
set_option maxHeartbeats 4000000
set_option autoImplicit false
/-! TP, part 4: comprehensions, changes of owned lists, a def's promise. -/
namespace TP
open PySem PySem.Spec L2

section
variable {K : Fg} {mg : Str → Option Value} {W : WX} {S S' : List Sl} {te ta tb tc : TE} {tt : TT} {t t1 t2 u : TS}
variable {α β τ τ1 ι γ : Type} {R : Rp α} {B : β → List Sl} {N : Option (τ → List Sl)}

/-! ### comprehensions -/
def wipeS (S : List Sl) : List Nat → List Sl
  | [] => S
  | v :: vs => (wipeS S vs).set v .nil
theorem atL_drop {F H : Hp} : ∀ {σ : L2.St} {S : List Sl} {A : List Addr} (i : Nat), AtL K F H σ S A → ∃ A', AtL K F H (σ.set i none) (S.set i .nil) A' ∧ List.Sublist A' A
  | [], [], A, _, h => ⟨A, h, .refl _⟩
  | o :: σ, s :: S, _, 0, ⟨A1, A2, e, h1, h2⟩ => by
    subst e
    exact ⟨A2, ⟨[], A2, rfl, rfl, h2⟩, List.sublist_append_right _ _⟩
  | o :: σ, s :: S, _, i + 1, ⟨A1, A2, e, h1, h2⟩ => by
    subst e
    obtain ⟨A', h3, sub⟩ := atL_drop i h2
    exact ⟨A1 ++ A', ⟨A1, A', rfl, h1, h3⟩, List.Sublist.append (.refl _) sub⟩
  | [], _ :: _, _, _, h => h.elim
  | _ :: _, [], _, _, h => h.elim
theorem atL_wipe {F H : Hp} {σ : L2.St} {S : List Sl} {A : List Addr} (h : AtL K F H σ S A) : ∀ vs : List Nat, ∃ A', AtL K F H (wipe σ vs) (wipeS S vs) A' ∧ List.Sublist A' A
  | [] => ⟨A, h, .refl _⟩
  | v :: vs => by
    obtain ⟨A1, h1, s1⟩ := atL_wipe h vs
    obtain ⟨A2, h2, s2⟩ := atL_drop v h1
    exact ⟨A2, h2, s2.trans s1⟩
theorem At.wipe {F H : Hp} {σ : L2.St} {A : List Addr} (a : At K F H σ S A) (vs : List Nat) : ∃ A', At K F H (wipe σ vs) (wipeS S vs) A' ∧ ∀ z ∈ A', z ∈ A := by
  obtain ⟨A', h, sub⟩ := atL_wipe a.sl vs
  exact ⟨A', ⟨a.fh, a.nd.sublist sub, fun z hz => a.fo z (sub.mem hz), h⟩, fun z hz => sub.mem hz⟩
def lcGo (c : ι → Res Bool) (f : ι → Res γ) : List ι → List γ → Res (List γ)
  | [], acc => .ok acc
  | x :: xs, acc => ifR (c x) ((f x).bind fun y => if acc.length < sizeLine then lcGo c f xs (acc ++ [y]) else .bad) (lcGo c f xs acc)
/-- the list of what f says of the items of which c holds -/
def lcR (c : ι → Res Bool) (f : ι → Res γ) (xs : List ι) : Res (List γ) := lcGo c f xs []
theorem XT.yes : XT K mg W S tYes (.ok true) := fun F H σ A a Q q => q F H (.refl a.fh)
/-- nothing but new objects, and those at A -/
theorem XO.lc {wi : TI} {g : TG} {vs : List Nat} {e : Enc ι} {r : Rp γ} {ml : Res (List ι)} {S1 : ι → List Sl} {c : ι → Res Bool} {f : ι → Res γ}
    (hi : XI K mg W S wi e ml) (hg : XTg K (wipeS S vs) g vs e S1) (hc : ∀ x, XT K mg W (S1 x) tt (c x)) (he : ∀ x, XO K mg W (S1 x) te r (f x)) (hW : ∀ c d σ σ' H, W c d σ H → W c d σ' H) :
    XO K mg W S (tLc wi g tt te vs) (ow r) (ml.bind fun xs => lcR c f xs) := fun F H σ A a Q q => by
  refine hi F H σ A a _ ((Post.of_bind q).imp (fun xs k J F1 H1 p1 wk D hD => ?_) fun e z => z)
  let P : List γ → Prop := fun zs => ∀ v F' H' Av, Pu F H F' H' → (ow r).ok K F' H' v zs Av → Frs F H F' Av → Q v H'
  refine ⟨fun i m H2 => m = xs.length - i ∧ i ≤ xs.length ∧ ∃ F2 us ys A2, Pu F H F2 H2 ∧ Sub F1 F2 ∧ H2 D = some (.lst us) ∧ OkL r K F2 H2 us ys A2 ∧ Frs F H F2 (D :: A2) ∧ Post (lcGo c f (xs.drop i) ys) P (XEr K mg W F H σ), ?_, ?_⟩
  · have p2 := p1.trans (Pu.newO (o := .lst []) p1.fh hD)
    refine ⟨xs.length, by simp, Nat.zero_le _, F1, [], [], [], p2, .refl _, upd_same, rfl, ⟨by simp, fun z hz => ?_, fun z hz => ?_⟩, k⟩
    · have z1 : z = D := by simpa using hz
      rw [z1]
      exact p1.hh.back hD
    · have z1 : z = D := by simpa using hz
      rw [z1]
      exact p1.fh.back hD
  · rintro i m H2 ⟨rfl, hle, F2, us, ys, A2, p2, sf, hD2, hL, fr, k2⟩
    obtain ⟨stop, go⟩ := wk F2 H2 sf p2.fh i
    by_cases hlt : i < xs.length
    · obtain ⟨g1, g2⟩ := go xs[i] (by simp [hlt])
      refine .inr ⟨g1, fun H' => ∃ F3 us3 ys3 A3, Pu F H F3 H' ∧ Sub F1 F3 ∧ H' D = some (.lst us3) ∧ OkL r K F3 H' us3 ys3 A3 ∧ Frs F H F3 (D :: A3) ∧ Post (lcGo c f (xs.drop (i + 1)) ys3) P (XEr K mg W F H σ), fun H' h => ⟨xs.length - (i + 1), by omega, rfl, hlt, h⟩, fun v H3 y => ?_⟩
      obtain ⟨F3, p3, d⟩ := g2 v H3 y
      obtain ⟨A', a', sub'⟩ := ((a.pu p2).pu p3).wipe vs
      refine hg F3 H3 _ A' v _ a' d _ fun σ4 A4 a4 sub w4 => ⟨?_, ?_⟩
      · rw [w4 vs fun _ h => h]
        have gen : ∀ (ws : List Nat) (us : List Nat), (∀ j ∈ us, j ∈ ws) → wipe (wipe σ us) ws = wipe σ ws := by
          intro ws us
          induction us with
          | nil => intro _; rfl
          | cons u us ih =>
            intro h
            show wipe ((wipe σ us).set u none) ws = _
            rw [wipe_set (h u List.mem_cons_self), ih fun j hj => h j (List.mem_cons_of_mem _ hj)]
        exact gen vs vs fun _ h => h
      · rw [List.drop_eq_getElem_cons hlt] at k2
        have er : ∀ {F5 H5 : Hp} {e : Exn}, Pu F H F5 H5 → XEr K mg W F H σ e → XEr K mg W F5 H5 σ4 e := fun p z F' H' c d p' x => hW _ _ _ _ _ (z F' H' c d (p.trans p') x)
        have p23 := p2.trans p3
        refine hc xs[i] F3 H3 σ4 A4 a4 _ ((Post.of_bind k2).imp (fun b k3 F4 H4 p4 => ?_) fun e z => er p23 z)
        have p24 := p23.trans p4
        have keepD : ∀ {F5 H5 : Hp}, Pu F2 H2 F5 H5 → H5 D = some (.lst us) := fun p => p.hh D _ hD2
        have okL' : ∀ {F5 H5 : Hp}, Pu F2 H2 F5 H5 → OkL r K F5 H5 us ys A2 := fun p => hL.mono p.ff fun z hz => sub_eq p.hh (hL.dom z hz)
        have fr' : ∀ {F5 H5 : Hp}, Pu F2 H2 F5 H5 → Frs F H F5 (D :: A2) := fun {F5 H5} p => ⟨fr.nd, fr.fr, fun z hz => by
          rw [p.fo z ?_]
          · exact fr.fo z hz
          · rcases List.mem_cons.mp hz with h | h
            · rw [h, hD2]
              exact fun z => nomatch z
            · exact hL.dom z h⟩
        cases b with
        | true =>
          rw [if_pos rfl]
          refine he xs[i] F4 H4 σ4 A4 (a4.pu p4) _ ((Post.of_bind k3).imp (fun yv k4 v5 F5 H5 A5 p5 h5 fr5 => ?_) fun e z => er p24 z)
          have p25 : Pu F2 H2 F5 H5 := (p3.trans p4).trans p5
          refine ⟨us, keepD p25, ?_⟩
          have el : us.length = ys.length := okL_len hL
          by_cases hz : ys.length < sizeLine
          · have k4' : Post (lcGo c f (xs.drop (i + 1)) (ys ++ [yv])) P (XEr K mg W F H σ) := by
              simpa only [hz, if_true] using k4
            refine ⟨by rw [el]; exact hz, F5, us ++ [v5], ys ++ [yv], A2 ++ A5, ?_, sf.trans p25.ff, upd_same, ?_, ?_, k4'⟩
            · have p05 := p2.trans p25
              have hD0 : H D = none := fr.fr D List.mem_cons_self
              refine ⟨p05.ff, p05.hh.mut hD0, p05.fh.mut ((fr' p25).fo D List.mem_cons_self), p05.fo⟩
            · have notD : ∀ z ∈ A2 ++ A5, z ≠ D := fun z hz e => by
                subst e
                rcases List.mem_append.mp hz with h | h
                · exact (List.nodup_cons.mp fr.nd).1 h
                · have : H4 z = some (.lst us) := (p3.trans p4).hh z _ hD2
                  rw [fr5.fr z h] at this
                  cases this
              have one : OkL r K F5 H5 [v5] [yv] A5 := ⟨A5, [], by simp, h5, rfl⟩
              exact (okL_app (okL' p25) one).mono (.refl _) fun z hz => upd_ne (notD z hz)
            · refine ⟨?_, fun z hz => ?_, fun z hz => ?_⟩
              · have : D :: (A2 ++ A5) = (D :: A2) ++ A5 := rfl
                rw [this]
                refine List.nodup_append.mpr ⟨fr.nd, fr5.nd, fun x hx y hy e => ?_⟩
                subst e
                have n4 : H4 x ≠ none := by
                  refine ne_none_sub (p3.trans p4).hh ?_
                  rcases List.mem_cons.mp hx with h | h
                  · rw [h, hD2]
                    exact fun z => nomatch z
                  · exact hL.dom x h
                exact n4 (fr5.fr x hy)
              · rcases List.mem_append.mp (show z ∈ (D :: A2) ++ A5 from hz) with h | h
                · exact fr.fr z h
                · exact p24.hh.back (fr5.fr z h)
              · rcases List.mem_append.mp (show z ∈ (D :: A2) ++ A5 from hz) with h | h
                · exact (fr' p25).fo z h
                · exact fr5.fo z h
          · exfalso
            have k4' : Post (Res.bad : Res (List γ)) P (XEr K mg W F H σ) := by
              simpa only [hz, if_false] using k4
            exact k4'
        | false =>
          rw [if_neg Bool.false_ne_true]
          have p25 : Pu F2 H2 F4 H4 := p3.trans p4
          exact ⟨F4, us, ys, A2, p2.trans p25, sf.trans p25.ff, keepD p25, okL' p25, fr' p25, k3⟩
    · have e : i = xs.length := by omega
      subst e
      rw [List.drop_length] at k2
      exact .inl ⟨stop (Nat.le_refl _), k2 _ F2 H2 _ p2 ⟨D, us, A2, rfl, hD2, rfl, hL⟩ fr⟩

/-! ### iterators -/
theorem XI.enumL {e : Enc ι} {m : Res (List ι)} (h : XB K mg W S te (vD (eL e)) m) : XI K mg W S (iEnumA K (tCons te tNil)) (e2 eI e) (m.bind fun xs => .ok (xs.zipIdx.map fun p => ((p.2 : Int), p.1))) := fun F H σ A a Q q =>
  h F H σ A a _ ((Post.of_bind q).imp (fun xs k v F' H' p u => by
    obtain ⟨a, vs, rfl, h1, h2⟩ := dp_lst u
    have ll : (xs.zipIdx.map fun p : ι × Nat => ((p.2 : Int), p.1)).length = xs.length := by simp
    refine ⟨a, vs, rfl, .inl ⟨sqL_sub p.fh h1, k _ F' H' p fun F2 H2 s1 s2 i => ⟨fun hi => ⟨vs, sqL_sub (s1.trans s2) h1, by
      rw [dpAll_len h2, List.length_map]
      rw [ll] at hi
      exact hi⟩, fun x hx => ?_⟩⟩⟩
    have hi : i < xs.length := by
      have := (List.getElem?_eq_some_iff.mp hx).1
      rw [ll] at this
      exact this
    have hx' : x = ((i : Int), xs[i]) := by
      simp [hi] at hx
      exact hx.symm
    obtain ⟨v, h3, h4⟩ := dpAll_get (i := i) (d := e xs[i]) h2 (by simp [hi])
    refine ⟨⟨vs, v, sqL_sub (s1.trans s2) h1, h3⟩, fun w H' y => ?_⟩
    obtain ⟨T, z, rfl, hT, rfl, hz⟩ := y
    have := hz vs (sqL_sub (s1.trans s2) h1)
    rw [h3] at this
    cases this
    refine ⟨_, .new s2 hT, ?_⟩
    rw [hx']
    exact .tup (.of upd_same) (.cons (.int _) (.cons (dp_sub (s1.trans (.new (s2.back hT))) h4) .nil))) fun _ z => z)
theorem XI.enumV {e : Enc ι} {m : Res (List ι)} (h : XB K mg W S te (vD (eV e)) m) : XI K mg W S (iEnumA K (tCons te tNil)) (e2 eI e) (m.bind fun xs => .ok (xs.zipIdx.map fun p => ((p.2 : Int), p.1))) := fun F H σ A a Q q =>
  h F H σ A a _ ((Post.of_bind q).imp (fun xs k v F' H' p u => by
    obtain ⟨a, vs, rfl, h1, h2⟩ := dp_tup u
    have ll : (xs.zipIdx.map fun p : ι × Nat => ((p.2 : Int), p.1)).length = xs.length := by simp
    refine ⟨a, vs, rfl, .inr ⟨sqT_sub p.fh h1, k _ F' H' p fun F2 H2 s1 s2 i => ⟨fun hi => ⟨vs, sqT_sub (s1.trans s2) h1, by
      rw [dpAll_len h2, List.length_map]
      rw [ll] at hi
      exact hi⟩, fun x hx => ?_⟩⟩⟩
    have hi : i < xs.length := by
      have := (List.getElem?_eq_some_iff.mp hx).1
      rw [ll] at this
      exact this
    have hx' : x = ((i : Int), xs[i]) := by
      simp [hi] at hx
      exact hx.symm
    obtain ⟨v, h3, h4⟩ := dpAll_get (i := i) (d := e xs[i]) h2 (by simp [hi])
    refine ⟨⟨vs, v, sqT_sub (s1.trans s2) h1, h3⟩, fun w H' y => ?_⟩
    obtain ⟨T, z, rfl, hT, rfl, hz⟩ := y
    have := hz vs (sqT_sub (s1.trans s2) h1)
    rw [h3] at this
    cases this
    refine ⟨_, .new s2 hT, ?_⟩
    rw [hx']
    exact .tup (.of upd_same) (.cons (.int _) (.cons (dp_sub (s1.trans (.new (s2.back hT))) h4) .nil))) fun _ z => z)
theorem XI.zip {e : Enc ι} {f : Enc γ} {m : Res (List ι)} {m2 : Res (List γ)} (h : XB K mg W S ta (vD (eL e)) m) (h2 : XB K mg W S tb (vD (eL f)) m2) : XI K mg W S (iZip K (tCons ta (tCons tb tNil))) (e2 e f) (m.bind fun xs => m2.bind fun ys => .ok (xs.zip ys)) := fun F H σ A a Q q =>
  h.two h2 a ((Post.of_bind q).imp (fun x k => Post.of_bind k) fun e z => z) fun xs ys v u F' H' k p u1 u2 H1 => by
    obtain ⟨a, vs, rfl, h1, h2⟩ := dp_lst u1
    obtain ⟨b, ws, rfl, g1, g2⟩ := dp_lst u2
    have l1 : vs.length = xs.length := by rw [dpAll_len h2, List.length_map]
    have l2 : ws.length = ys.length := by rw [dpAll_len g2, List.length_map]
    refine ⟨a, b, vs, ws, rfl, sqL_sub p.fh h1, sqL_sub p.fh g1, k _ F' H' p fun F2 H2 s1 s2 i => ⟨fun hi => ⟨vs, ws, sqL_sub (s1.trans s2) h1, sqL_sub (s1.trans s2) g1, ?_⟩, fun x hx => ?_⟩⟩
    · rw [List.length_zip] at hi
      rw [l1, l2]
      omega
    · have hi := (List.getElem?_eq_some_iff.mp hx).1
      rw [List.length_zip] at hi
      have i1 : i < xs.length := by omega
      have i2 : i < ys.length := by omega
      have hx' : x = (xs[i], ys[i]) := by
        rw [List.getElem?_eq_getElem (by rw [List.length_zip]; omega), List.getElem_zip] at hx
        exact (Option.some.inj hx).symm
      obtain ⟨v, h3, h4⟩ := dpAll_get (i := i) (d := e xs[i]) h2 (by simp [i1])
      obtain ⟨w, g3, g4⟩ := dpAll_get (i := i) (d := f ys[i]) g2 (by simp [i2])
      refine ⟨⟨vs, ws, v, w, sqL_sub (s1.trans s2) h1, sqL_sub (s1.trans s2) g1, h3, g3⟩, fun z H' y => ?_⟩
      obtain ⟨T, z1, z2, rfl, hT, rfl, q1, q2⟩ := y
      have e1 := q1 vs (sqL_sub (s1.trans s2) h1)
      have e2 := q2 ws (sqL_sub (s1.trans s2) g1)
      rw [h3] at e1
      rw [g3] at e2
      cases e1
      cases e2
      refine ⟨_, .new s2 hT, ?_⟩
      rw [hx']
      exact .tup (.of upd_same) (.cons (dp_sub (s1.trans (.new (s2.back hT))) h4) (.cons (dp_sub (s1.trans (.new (s2.back hT))) g4) .nil))

/-! ### changes of an owned list -/
theorem set_self {σ : L2.St} {i : Nat} {o : Option V} (e : σ[i]? = some o) : σ.set i o = σ := by
  refine List.ext_getElem? fun j => ?_
  by_cases z : i = j
  · subst z
    rw [e, List.getElem?_set_self (List.getElem?_eq_some_iff.mp e).1]
  · rw [List.getElem?_set_ne z]
theorem At.modX {F H : Hp} {σ : L2.St} {A : List Addr} {i : Nat} {r : Rp ι} {x : ι} (a : At K F H σ S A) (hs : S[i]? = some (.val r x)) : ∃ v Ai, σ[i]? = some (some v) ∧ (∀ z ∈ Ai, z ∈ A) ∧ Ai.Nodup ∧ (∀ z ∈ Ai, F z = none) ∧ r.ok K F H v x Ai ∧
    ∀ (F' H' : Hp) (κ : Type) (r' : Rp κ) (x' : κ) (Ai' : List Addr), Sub F F' → Sub F' H' → (∀ z o, H z = some o → z ∉ Ai → H' z = some o) → (∀ z, H z ≠ none → z ∉ Ai → F' z = F z) → (∀ z ∈ Ai', z ∈ Ai ∨ z ∉ A) → Ai'.Nodup → (∀ z ∈ Ai', F' z = none) → (∀ z, H z ≠ none → H' z ≠ none) → r'.ok K F' H' v x' Ai' →
      ∃ A', At K F' H' σ (S.set i (.val r' x')) A' ∧ ∀ z ∈ A', z ∈ A ∨ z ∈ Ai' := by
  obtain ⟨o, A1, Ai, A2, e1, e2, e3, e4⟩ := a.sl.at hs
  cases o with
  | none => exact e3.elim
  | some v =>
    have d := a.sl.dom
    subst e2
    have fo := a.fo
    have n1 := List.nodup_append.mp a.nd
    have n2 := List.nodup_append.mp n1.2.1
    have in1 : ∀ z ∈ A1, z ∈ A1 ++ (Ai ++ A2) := fun z h => List.mem_append_left _ h
    have inI : ∀ z ∈ Ai, z ∈ A1 ++ (Ai ++ A2) := fun z h => List.mem_append_right _ (List.mem_append_left _ h)
    have in2 : ∀ z ∈ A2, z ∈ A1 ++ (Ai ++ A2) := fun z h => List.mem_append_right _ (List.mem_append_right _ h)
    have no1 : ∀ z ∈ A1, z ∉ Ai := fun z h k => n1.2.2 z h z (List.mem_append_left _ k) rfl
    have no2 : ∀ z ∈ A2, z ∉ Ai := fun z h k => n2.2.2 z k z h rfl
    refine ⟨v, Ai, e1, inI, n2.1, fun z hz => fo z (inI z hz), e3, fun F' H' κ r' x' Ai' sf sh hh hf aa nd fo' hs' hr => ?_⟩
    have stay : ∀ z, z ∈ A1 ∨ z ∈ A2 → H' z = H z := fun z hz => by
      have hn : H z ≠ none := d z (hz.elim (in1 z) (in2 z))
      have hI : z ∉ Ai := hz.elim (no1 z) (no2 z)
      cases q : H z with
      | none => exact absurd q hn
      | some o => exact hh z o q hI
    have key := e4 F' H' (some v) (.val r' x') Ai' sf stay hr
    rw [set_self e1] at key
    have apart : ∀ z, z ∈ A1 ∨ z ∈ A2 → z ∉ Ai' := fun z hz k => by
      rcases aa z k with h | h
      · exact hz.elim (fun q => no1 z q h) (fun q => no2 z q h)
      · exact h (hz.elim (in1 z) (in2 z))
    refine ⟨A1 ++ (Ai' ++ A2), ⟨sh, ?_, fun z hz => ?_, key⟩, fun z hz => ?_⟩
    · refine List.nodup_append.mpr ⟨n1.1, List.nodup_append.mpr ⟨nd, n2.2.1, fun y hy w hw q => ?_⟩, fun y hy w hw q => ?_⟩
      · subst q
        exact apart y (.inr hw) hy
      · subst q
        rcases List.mem_append.mp hw with h | h
        · exact apart y (.inl hy) h
        · exact n1.2.2 y hy y (List.mem_append_right _ h) rfl
    · rcases List.mem_append.mp hz with h | h
      · rw [hf z (d z (in1 z h)) (no1 z h)]
        exact fo z (in1 z h)
      · rcases List.mem_append.mp h with h | h
        · exact fo' z h
        · rw [hf z (d z (in2 z h)) (no2 z h)]
          exact fo z (in2 z h)
    · rcases List.mem_append.mp hz with h | h
      · exact .inl (in1 z h)
      · rcases List.mem_append.mp h with h | h
        · exact .inr h
        · exact .inl (in2 z h)
theorem At.mod {F H : Hp} {σ : L2.St} {A : List Addr} {i : Nat} {r : Rp ι} {x : ι} (a : At K F H σ S A) (hs : S[i]? = some (.val r x)) : ∃ v Ai, σ[i]? = some (some v) ∧ (∀ z ∈ Ai, z ∈ A) ∧ Ai.Nodup ∧ (∀ z ∈ Ai, F z = none) ∧ r.ok K F H v x Ai ∧
    ∀ (F' H' : Hp) (κ : Type) (r' : Rp κ) (x' : κ) (Ai' : List Addr), Sub F F' → Sub F' H' → (∀ z o, H z = some o → z ∉ Ai → H' z = some o) → (∀ z, H z ≠ none → z ∉ Ai → F' z = F z) → (∀ z ∈ Ai', z ∈ Ai ∨ H z = none) → Ai'.Nodup → (∀ z ∈ Ai', F' z = none) → (∀ z, H z ≠ none → H' z ≠ none) → r'.ok K F' H' v x' Ai' →
      ∃ A', At K F' H' σ (S.set i (.val r' x')) A' ∧ Nx F H A F' H' A' := by
  obtain ⟨v, Ai, e1, h1, h2, h3, h4, md⟩ := a.modX hs
  exact ⟨v, Ai, e1, h1, h2, h3, h4, fun F' H' κ r' x' Ai' q1 q2 q3 q4 q5 q6 q7 q8 q9 => by
    obtain ⟨A', g1, g2⟩ := md F' H' κ r' x' Ai' q1 q2 q3 q4 (fun z hz => (q5 z hz).imp (fun h => h) fun h k => a.sl.dom z k h) q6 q7 q8 q9
    exact ⟨A', g1, ⟨q1, fun z o h hn => q3 z o h fun k => hn (h1 z k), fun z h hn => q4 z h fun k => hn (h1 z k), fun z hz => (g2 z hz).elim .inl fun h => (q5 z h).imp (h1 z) fun h => h, q8⟩⟩⟩
/-- ρ is an owned list of items r, it may be of one known place -/
class Own (ρ : Rp (List ι)) (r : outParam (Rp ι)) : Prop where
  to : ∀ {K : Fg} {F H : Hp} {v : V} {xs : List ι} {A : List Addr}, ρ.ok K F H v xs A → (ow r).ok K F H v xs A
  back : ∀ {K : Fg} {F H F' H' : Hp} {v : V} {xs ys : List ι} {A A' : List Addr}, ρ.ok K F H v xs A → (ow r).ok K F' H' v ys A' → ρ.ok K F' H' v ys A'
instance {r : Rp ι} : Own (ow r) r := ⟨fun h => h, fun _ h => h⟩
/-- .. at the value w -/
def pin (w : V) (r : Rp ι) : Rp ι where
  ok := fun K F H v x A => v = w ∧ r.ok K F H v x A
  mono := fun h s t => ⟨h.1, r.mono h.2 s t⟩
  dom := fun h => r.dom h.2
instance {r : Rp ι} {w : V} {ρ : Rp (List ι)} [Own ρ r] : Own (pin w ρ) r := ⟨fun h => Own.to h.2, fun h k => ⟨h.1, Own.back h.2 k⟩⟩
theorem frz_pin {r : Rp ι} {e : Enc ι} {w : V} (h : Frz r e) : Frz (pin w r) e := fun _ _ _ _ _ _ _ k => h _ _ _ _ _ _ _ k.2
theorem vw_pin {r : Rp ι} {U : View ι} {w : V} (h : Vw r U) : Vw (pin w r) U := fun _ _ _ _ _ _ s k => h _ _ _ _ _ _ s k.2
@[irreducible] def appQ {α : Type} (xs : List α) (x : α) : Option (List α) := if xs.length < sizeLine then some (xs ++ [x]) else none
/-- xs.append(e) -/
theorem Y.append {i : Nat} {ρ : Rp (List ι)} {r : Rp ι} [Own ρ r] {xs : List ι} {me : Res ι} {k : List ι → Res (Fl α β τ)} (hs : S[i]? = some (.val ρ xs)) (he : XO K mg W S te r me) (hu : ∀ ys, Y K mg W (S.set i (.val ρ ys)) u R B N (k ys)) :
    Y K mg W S (tSeq (tDrop (tBM K "list" rAppend (tVar i) (tCons te tNil))) u) R B N (me.bind fun x => (chk (appQ xs x)).bind k) := ⟨fun h => .bind fun x => .bind fun ys => (hu ys).no h, fun F H σ A a D q => by
  obtain ⟨v, Ai, e1, inA, ndI, foI, hρ, md⟩ := a.mod hs
  obtain ⟨l, vs, A', e2, hl, e3, okl⟩ := Own.to hρ
  subst e2 e3
  refine ⟨_, e1, .inl ⟨rfl, vs, .of hl⟩, ?_⟩
  refine he F H σ A a _ ((Post.of_bind q).imp (fun x k2 w F1 H1 Av p hr fr => ?_) fun e z => z.x)
  obtain ⟨ys, e4, k3⟩ := Post.of_chk (Post.of_bind k2)
  unfold appQ at e4
  split at e4
  · rename_i c
    cases e4
    have el : vs.length = xs.length := okL_len okl
    have hl1 : H1 l = some (.lst vs) := p.hh l _ hl
    refine ⟨l, vs, w, rfl, rfl, hl1, by rw [el]; exact c, ?_⟩
    have nd1 := List.nodup_cons.mp ndI
    have okl1 : OkL r K F1 H1 vs xs A' := okl.mono p.ff fun z hz => sub_eq p.hh (okl.dom z hz)
    have avn : ∀ z ∈ Av, z ≠ l := fun z hz q => by
      have := fr.fr z hz
      rw [q, hl] at this
      cases this
    have one : OkL r K F1 H1 [w] [x] Av := ⟨Av, [], by simp, hr, rfl⟩
    obtain ⟨A2, a2, n2⟩ := md F1 (upd H1 l (.lst (vs ++ [w]))) _ ρ (xs ++ [x]) (l :: (A' ++ Av)) p.ff (p.fh.mut ((p.fo l (by rw [hl]; exact fun z => nomatch z)).trans (foI l List.mem_cons_self)))
      (fun z o h hn => by
        rw [upd_ne (fun q => hn (by rw [q]; exact List.mem_cons_self))]
        exact p.hh z o h)
      (fun z h _ => p.fo z h)
      (fun z hz => by
        rcases List.mem_cons.mp hz with h | h
        · exact .inl (by rw [h]; exact List.mem_cons_self)
        · rcases List.mem_append.mp h with h | h
          · exact .inl (List.mem_cons_of_mem _ h)
          · exact .inr (fr.fr z h))
      (List.nodup_cons.mpr ⟨fun h => by
        rcases List.mem_append.mp h with h | h
        · exact nd1.1 h
        · exact avn l h rfl, List.nodup_append.mpr ⟨nd1.2, fr.nd, fun y hy z hz q => by
          subst q
          exact okl.dom y hy (fr.fr y hz)⟩⟩)
      (fun z hz => by
        rcases List.mem_cons.mp (show z ∈ l :: (A' ++ Av) from hz) with h | h
        · rw [h, p.fo l (by rw [hl]; exact fun z => nomatch z)]
          exact foI l List.mem_cons_self
        · rcases List.mem_append.mp h with h | h
          · rw [p.fo z (okl.dom z h)]
            exact foI z (List.mem_cons_of_mem _ h)
          · exact fr.fo z h)
      (fun z h => by
        by_cases q : z = l
        · rw [q, upd_same]
          exact fun z => nomatch z
        · rw [upd_ne q]
          exact ne_none_sub p.hh h)
      (Own.back hρ ⟨l, vs ++ [w], A' ++ Av, rfl, upd_same, rfl, (okL_app okl1 one).mono (.refl _) fun z hz => upd_ne fun q => by
        rcases List.mem_append.mp hz with h | h
        · rw [q] at h
          exact nd1.1 h
        · exact avn z h q⟩)
    exact (hu _).run F1 _ σ A2 a2 D (Post.from n2 k3)
  · cases e4⟩
/-- the owned list at slot i, its items frozen, becomes ys -/
theorem At.lst {F H : Hp} {σ : L2.St} {A : List Addr} {i : Nat} {e : Enc ι} {ρ : Rp (List ι)} [Own ρ (fz e)] {xs : List ι} (a : At K F H σ S A) (hs : S[i]? = some (.val ρ xs)) : ∃ l vs, σ[i]? = some (some (.ref l)) ∧ H l = some (.lst vs) ∧ DpAll K F vs (xs.map e) ∧
    ∀ (F1 H1 : Hp) (ys : List ι) (ws : List V), Pu F H F1 H1 → DpAll K F1 ws (ys.map e) → ∃ A', At K F1 (upd H1 l (.lst ws)) σ (S.set i (.val ρ ys)) A' ∧ Nx F H A F1 (upd H1 l (.lst ws)) A' := by
  obtain ⟨v, Ai, e1, inA, ndI, foI, hρ, md⟩ := a.mod hs
  obtain ⟨l, vs, A', e2, hl, e3, okl⟩ := Own.to hρ
  obtain ⟨e4, dl⟩ := okL_fz okl
  subst e2 e3 e4
  have ln : H l ≠ none := by
    rw [hl]
    exact fun z => nomatch z
  refine ⟨l, vs, e1, hl, dl, fun F1 H1 ys ws p d => md F1 (upd H1 l (.lst ws)) _ ρ ys [l] p.ff (p.fh.mut ((p.fo l ln).trans (foI l List.mem_cons_self))) (fun z o h hn => by
      rw [upd_ne (fun q => hn (by rw [q]; exact List.mem_cons_self))]
      exact p.hh z o h) (fun z h _ => p.fo z h) (fun z hz => .inl hz) ndI (fun z hz => by
        have q : z = l := by simpa using hz
        rw [q, p.fo l ln]
        exact foI l List.mem_cons_self) (fun z h => by
        by_cases q : z = l
        · rw [q, upd_same]
          exact fun z => nomatch z
        · rw [upd_ne q]
          exact ne_none_sub p.hh h) (Own.back hρ ⟨l, ws, [], rfl, upd_same, rfl, okL_of d⟩)⟩
@[irreducible] def setQ {α : Type} (xs : List α) (i : Int) (x : α) : Option (List α) := (ixN xs.length i).map fun j => xs.set j x
theorem dpAll_set {F : Hp} {e : Enc ι} {w : V} {x : ι} (h : Dp K F w (e x)) : ∀ {vs : List V} {xs : List ι} (j : Nat), DpAll K F vs (xs.map e) → DpAll K F (vs.set j w) ((xs.set j x).map e)
  | [], [], _, _ => .nil
  | v :: vs, y :: ys, 0, .cons _ t => .cons h t
  | v :: vs, y :: ys, j + 1, .cons g t => .cons g (dpAll_set h j t)
  | [], _ :: _, _, h => nomatch h
  | _ :: _, [], _, h => nomatch h
/-- xs[i] = e -/
theorem Y.setI {i : Nat} {ρ : Rp (List ι)} {e : Enc ι} [Own ρ (fz e)] {xs : List ι} {me : Res ι} {mi : Res Int} {k : List ι → Res (Fl α β τ)} (hs : S[i]? = some (.val ρ xs)) (he : XB K mg W S te (vD e) me) (hi : XB K mg W S ta (vD eI) mi) (hu : ∀ ys, Y K mg W (S.set i (.val ρ ys)) u R B N (k ys)) :
    Y K mg W S (tSeq (tAsg te (gSub (tVar i) ta rSetL)) u) R B N (me.bind fun x => mi.bind fun j => (chk (setQ xs j x)).bind k) := ⟨fun h => .bind fun x => .bind fun _ => .bind fun ys => (hu ys).no h, fun F H σ A a D q => by
  obtain ⟨l, vs, e1, hl, dl, md⟩ := a.lst hs
  refine he F H σ A a _ ((Post.of_bind q).imp (fun x k2 w F1 H1 p1 u1 => ⟨_, e1, hi F1 H1 σ A (a.pu p1) _ ((Post.of_bind k2).imp (fun j k2 jv F2 H2 p2 u2 => ?_) fun e z => z.x.pu p1)⟩) fun e z => z.x)
  obtain ⟨ys, e4, k3⟩ := Post.of_chk (Post.of_bind k2)
  have p := p1.trans p2
  unfold setQ at e4
  cases c : ixN xs.length j with
  | none =>
    rw [c] at e4
    cases e4
  | some n =>
    rw [c] at e4
    cases e4
    have el : vs.length = xs.length := by rw [dpAll_len dl, List.length_map]
    obtain ⟨A2, a2, n2⟩ := md F2 H2 (xs.set n x) (vs.set n w) p (dpAll_set (dp_sub p2.ff u1) n (dpAll_sub p.ff dl))
    exact ⟨l, vs, j, n, rfl, dp_int u2, p.hh l _ hl, by rw [el]; exact c, (hu _).run F2 _ σ A2 a2 D (Post.from n2 k3)⟩⟩
@[irreducible] def getQ {α : Type} (xs : List α) (i : Int) : Option α := if 0 ≤ i then xs[i.toNat]? else none
/-- xs[i] += e -/
theorem Y.augI {i : Nat} {ρ : Rp (List Int)} [Own ρ (fz eI)] {f : Int → Int → Int} {xs : List Int} {me mi : Res Int} {k : List Int → Res (Fl α β τ)} (hs : S[i]? = some (.val ρ xs)) (hi : XB K mg W S ta (vD eI) mi) (he : XB K mg W S te (vD eI) me) (hu : ∀ ys, Y K mg W (S.set i (.val ρ ys)) u R B N (k ys)) :
    Y K mg W S (tSeq (tAugS (tVar i) ta te (rGetL K) (ipI f) rSetL) u) R B N (mi.bind fun j => (chk (getQ xs j)).bind fun x => me.bind fun y => k (xs.set j.toNat (f x y))) := ⟨fun h => .bind fun x => .bind fun _ => .bind fun y => (hu _).no h, fun F H σ A a D q => by
  obtain ⟨l, vs, e1, hl, dl, md⟩ := a.lst hs
  refine ⟨_, e1, hi F H σ A a _ ((Post.of_bind q).imp (fun j k2 jv F1 H1 p1 u1 => ?_) fun e z => z.x)⟩
  have el : vs.length = xs.length := by rw [dpAll_len dl, List.length_map]
  obtain ⟨x, e4, k2⟩ := Post.of_chk (Post.of_bind k2)
  unfold getQ at e4
  split at e4
  · rename_i c0
    have c1 : j.toNat < xs.length := (List.getElem?_eq_some_iff.mp e4).1
    obtain ⟨w, hw, dw⟩ := dpAll_get (i := j.toNat) (d := eI x) dl (by rw [List.getElem?_map, e4]; rfl)
    have ej : ((j.toNat : Nat) : Int) = j := Int.toNat_of_nonneg c0
    have at1 : atI vs j = some w := by
      rw [← ej]
      exact atI_nat hw
    have ix1 : ixN vs.length j = some j.toNat := by
      unfold ixN
      rw [if_pos c0, if_pos (by rw [el]; omega)]
    refine ⟨l, vs, j, w, rfl, dp_int u1, .of (p1.hh l _ hl), c0, at1, ?_⟩
    refine he F1 H1 σ A (a.pu p1) _ ((Post.of_bind k2).imp (fun y k3 yv F2 H2 p2 u2 => ?_) fun e z => z.x.pu p1)
    have p := p1.trans p2
    obtain ⟨A2, a2, n2⟩ := md F2 H2 (xs.set j.toNat (f x y)) (vs.set j.toNat (.int (f x y))) p (dpAll_set (.int _) _ (dpAll_sub p.ff dl))
    exact ⟨x, y, dp_int dw, dp_int u2, l, vs, j, j.toNat, rfl, dp_int u1, p.hh l _ hl, ix1, (hu _).run F2 _ σ A2 a2 D (Post.from n2 k3)⟩
  · cases e4⟩
/-- x op= e, ints -/
theorem Y.aug {i : Nat} {f : Int → Int → Int} {x : Int} {me : Res Int} {k : Int → Res (Fl α β τ)} (hs : S[i]? = some (.val (fz eI) x)) (he : XB K mg W S te (vD eI) me) (hu : ∀ z, Y K mg W (S.set i (.val (fz eI) z)) u R B N (k z)) (hi : S[i]?.isSome = true) :
    Y K mg W S (tSeq (tAug i te (ipI f)) u) R B N (me.bind fun y => (Res.ok (f x y)).bind k) := ⟨fun h => .bind fun y => (hu _).no h, fun F H σ A a D q => by
  obtain ⟨o, A1, Ai, A2, e1, e2, e3, _⟩ := a.sl.at hs
  cases o with
  | none => exact e3.elim
  | some v =>
    refine ⟨v, e1, he F H σ A a _ ((Post.of_bind q).imp (fun y k2 yv F1 H1 p u => ?_) fun e z => z.x)⟩
    obtain ⟨A', a', n⟩ := a.setF (e := eI) (x := f x y) p (.int _) (lt_some hi)
    exact ⟨x, y, dp_int e3.2, dp_int u, (hu _).run F1 H1 _ A' a' D (Post.from n k2)⟩⟩

/-! ### targets of two and three names -/
theorem some_set {i j : Nat} {x : Sl} (h : S[j]?.isSome = true) : (S.set i x)[j]?.isSome = true := by
  have q := lt_some h
  rw [List.getElem?_eq_getElem (by rw [List.length_set]; exact q)]
  rfl
theorem XTg.pair {i j : Nat} {e : Enc ι} {f : Enc γ} (hi : S[i]?.isSome = true) (hj : S[j]?.isSome = true) : XTg K S (gTup K 2 (gCons (gName i) (gCons (gName j) gNil))) [i, j] (e2 e f) (fun p => (S.set i (.val (fz e) p.1)).set j (.val (fz f) p.2)) :=
  XTg.tup (XTgs.cons (f := Prod.fst) (ts := [i]) (us := [j]) (XTg.name hi) fun p => XTgs.cons (D := fun _ => []) (f := fun _ => p.2) (ts := [j]) (us := []) (S2 := fun _ => (S.set i (.val (fz e) p.1)).set j (.val (fz f) p.2)) (XTg.name (some_set hj)) fun _ => XTgs.nil)
theorem XTg.trip {i j k : Nat} {κ : Type} {e : Enc ι} {f : Enc γ} {g : Enc κ} (hi : S[i]?.isSome = true) (hj : S[j]?.isSome = true) (hk : S[k]?.isSome = true) : XTg K S (gTup K 3 (gCons (gName i) (gCons (gName j) (gCons (gName k) gNil)))) [i, j, k] (e3 e f g) (fun p => ((S.set i (.val (fz e) p.1)).set j (.val (fz f) p.2.1)).set k (.val (fz g) p.2.2)) :=
  XTg.tup (XTgs.cons (f := Prod.fst) (ts := [i]) (us := [j, k]) (XTg.name hi) fun p => XTgs.cons (D := fun _ => [g p.2.2]) (f := fun _ => p.2.1) (ts := [j]) (us := [k]) (S2 := fun _ => ((S.set i (.val (fz e) p.1)).set j (.val (fz f) p.2.1)).set k (.val (fz g) p.2.2)) (XTg.name (some_set hj)) fun _ =>
    XTgs.cons (D := fun _ => []) (f := fun _ => p.2.2) (ts := [k]) (us := []) (S2 := fun _ => ((S.set i (.val (fz e) p.1)).set j (.val (fz f) p.2.1)).set k (.val (fz g) p.2.2)) (XTg.name (some_set (some_set hk))) fun _ => XTgs.nil)
end
theorem hu100 {A : Around} {k : Nat} (hr : Room k A) : A.units + 100 < cLine := by
  have := hr.un
  omega

section
variable {K : Fg} {mg : Str → Option Value} {W : WX} {S S' : List Sl} {te ta tb tc : TE} {tt : TT} {t t1 t2 u : TS}
variable {α β τ τ1 ι γ : Type} {R : Rp α} {B : β → List Sl} {N : Option (τ → List Sl)}
theorem Y.assoc {m : Res (Fl α β τ)} (h : Y K mg W S (tSeq t1 (tSeq t2 u)) R B N m) : Y K mg W S (tSeq (tSeq t1 t2) u) R B N m := ⟨h.no, h.run⟩
/-- a, b = x, y -/
theorem XA.go {D : τ → List PyData} {m : Res τ} {ta : TA} (h : XA K mg W S ta D m) : XA K mg W S ta D m := h
theorem Y.par {i j : Nat} {e : Enc ι} {f : Enc γ} {m1 : Res ι} {m2 : Res γ} {k : ι → γ → Res (Fl α β τ)} (h1 : XB K mg W S ta (vD e) m1) (h2 : XB K mg W S tb (vD f) m2) (hu : ∀ x y, Y K mg W ((S.set i (.val (fz e) x)).set j (.val (fz f) y)) u R B N (k x y)) (hi : S[i]?.isSome = true) (hj : S[j]?.isSome = true) :
    Y K mg W S (tSeq (tPar i j (tCons ta (tCons tb tNil))) u) R B N (m1.bind fun x => m2.bind fun y => k x y) := ⟨fun h => .bind fun x => .bind fun y => (hu x y).no h, fun F H σ A a D q =>
  h1.two (R := fun v _ w H2 => ∃ v1 w1, [v, w] = [v1, w1] ∧ u D ((σ.set i (some v1)).set j (some w1)) H2) h2 a ((Post.of_bind q).imp (fun x k2 => (Post.of_bind k2).imp (fun _ k => k) fun _ z => z.x) fun e z => z.x) fun x y v w F2 H2 k2 p u1 u2 H1 => by
    obtain ⟨A1, a1, n1⟩ := a.setF p u1 (lt_some hi)
    obtain ⟨A2, a2, n2⟩ := a1.setF (.refl p.fh) u2 (lt_some (some_set hj))
    exact ⟨v, w, rfl, (hu x y).run F2 H2 _ A2 a2 D (Post.from (n1.trans n2) k2)⟩⟩

/-! ### None -/
class NotNone {α : Type} (e : Enc α) : Prop where
  nn : ∀ x, e x ≠ .none
instance : NotNone (α := Int) PyData.int := ⟨fun _ h => nomatch h⟩
instance : NotNone (α := Bool) PyData.bool := ⟨fun _ h => nomatch h⟩
instance : NotNone (α := Str) PyData.str := ⟨fun _ h => nomatch h⟩
instance {e : Enc ι} : NotNone (eL e) := ⟨fun _ h => nomatch h⟩
instance {e : Enc ι} : NotNone (eV e) := ⟨fun _ h => nomatch h⟩
instance {e : Enc ι} {f : Enc γ} : NotNone (e2 e f) := ⟨fun _ h => nomatch h⟩
instance {κ : Type} {e : Enc ι} {f : Enc γ} {g : Enc κ} : NotNone (e3 e f g) := ⟨fun _ h => nomatch h⟩
theorem v_none {F : Hp} {v : V} {d : PyData} (h : Dp K F v d) (hd : d ≠ .none) : decide (v = .non) = false := decide_eq_false fun e => by
  rw [e] at h
  cases h
  exact hd rfl
theorem o_isN {e : Enc ι} [NotNone e] : Op K (fun x y H Q => y = .non ∧ Q (.bl (decide (x = .non))) H) (vD (eO e)) (vD eN) vB (fun o _ => some o.isNone) := fun F H v u x y z s h1 h2 ez Q q => by
  cases ez
  refine ⟨dp_non h2, ?_⟩
  cases x with
  | none =>
    rw [dp_non h1]
    exact q _ F H (.refl s) (.bl _)
  | some x =>
    rw [v_none h1 (NotNone.nn x)]
    exact q _ F H (.refl s) (.bl _)
theorem o_notN {e : Enc ι} [NotNone e] : Op K (fun x y H Q => y = .non ∧ Q (.bl (!decide (x = .non))) H) (vD (eO e)) (vD eN) vB (fun o _ => some o.isSome) := fun F H v u x y z s h1 h2 ez Q q => by
  cases ez
  refine ⟨dp_non h2, ?_⟩
  cases x with
  | none =>
    rw [dp_non h1]
    exact q _ F H (.refl s) (.bl _)
  | some x =>
    rw [v_none h1 (NotNone.nn x)]
    exact q _ F H (.refl s) (.bl _)
/-- of a thing that is no None -/
theorem o_isN0 {e : Enc ι} [NotNone e] : Op K (fun x y H Q => y = .non ∧ Q (.bl (decide (x = .non))) H) (vH e) (vD eN) vB (fun _ _ => some false) := fun F H v u x y z s h1 h2 ez Q q => by
  cases ez
  refine ⟨dp_non h2, ?_⟩
  rw [v_none h1 (NotNone.nn x)]
  exact q _ F H (.refl s) (.bl _)
theorem o_notN0 {e : Enc ι} [NotNone e] : Op K (fun x y H Q => y = .non ∧ Q (.bl (!decide (x = .non))) H) (vH e) (vD eN) vB (fun _ _ => some true) := fun F H v u x y z s h1 h2 ez Q q => by
  cases ez
  refine ⟨dp_non h2, ?_⟩
  rw [v_none h1 (NotNone.nn x)]
  exact q _ F H (.refl s) (.bl _)
def optQ {α : Type} (o : Option α) : Res α := chk o
/-- taken for granted that it is no None -/
theorem XB.unopt {e : Enc ι} {m : Res (Option ι)} (h : XB K mg W S te (vD (eO e)) m) : XB K mg W S te (vD e) (m.bind optQ) := h.castM optQ fun x => by
  cases x with
  | none => trivial
  | some x => rfl
/-- is, is not, of truths -/
theorem o_isB : Op K (fun x y H Q => ∃ a b, x = .bl a ∧ y = .bl b ∧ Q (.bl (decide (a = b))) H) vB vB vB (fun a b => some (decide (a = b))) := fun F H v u x y z s h1 h2 ez Q q => by
  cases ez
  exact ⟨x, y, dp_bl h1, dp_bl h2, q _ F H (.refl s) (.bl _)⟩
theorem o_notB : Op K (fun x y H Q => ∃ a b, x = .bl a ∧ y = .bl b ∧ Q (.bl (!decide (a = b))) H) vB vB vB (fun a b => some (!decide (a = b))) := fun F H v u x y z s h1 h2 ez Q q => by
  cases ez
  exact ⟨x, y, dp_bl h1, dp_bl h2, q _ F H (.refl s) (.bl _)⟩

/-! ### isinstance -/
/-- the built-in type of data -/
def tyD : PyData → String
  | .none => "NoneType"
  | .bool _ => "bool"
  | .int _ => "int"
  | .str _ => "str"
  | .list _ => "list"
  | .tuple _ => "tuple"
  | .dict _ => "dict"

theorem tyX_of {H : Hp} {v : V} {d : PyData} (h : Dp K H v d) : TyX K H v (.type (tyD d)) := by
  cases h with
  | non => exact .base .non
  | bl b => exact .base (.bl b)
  | int i => exact .base (.int i)
  | str x => exact .base (.str x)
  | lst h t =>
    rcases h with (h | ⟨o, h⟩) | ⟨o, its, n, h1, h2, _⟩
    · exact .base (.lst h)
    · exact .base (.frz h)
    · exact .kList h1 h2
  | tup h t =>
    rcases h with (h | ⟨o, h⟩) | ⟨o, its, n, h1, h2, _⟩
    · exact .base (.tup h)
    · exact .fTuple h
    · exact .kTuple h1 h2
/-- isinstance(x, T) of data, T a built-in class -/
def isQ (T : String) (d : PyData) : Option Bool := kitB (tyD d) T
theorem XB.isi {e : Enc ι} {m : Res ι} {T : String} (h : XB K mg W S ta (vH e) m) : XB K mg W S (tCB (rIsi K) (tCons ta (tCons (tC (.ty T)) tNil))) vB (m.bind fun x => chk (isQ T (e x))) := fun F H σ A a Q q =>
  h F H σ A a _ ((Post.of_bind q).imp (fun x k v F1 H1 p1 u1 => by
    obtain ⟨b, e1, k⟩ := Post.of_chk k
    exact ⟨v, .ty T, .type (tyD (e x)), .type T, b, rfl, .ty T, tyX_of u1, kit_ty e1, k _ F1 H1 p1 (.bl b)⟩) fun e z => z)
/-- .. where the answer is known -/
theorem XB.isiT {e : Enc ι} {m : Res ι} {T : String} {b : Bool} (h : XB K mg W S ta (vH e) m) (hb : ∀ x, isQ T (e x) = some b) : XB K mg W S (tCB (rIsi K) (tCons ta (tCons (tC (.ty T)) tNil))) vB (m.bind fun _ => .ok b) := fun F H σ A a Q q =>
  h F H σ A a _ ((Post.of_bind q).imp (fun x k v F1 H1 p1 u1 => ⟨v, .ty T, .type (tyD (e x)), .type T, b, rfl, .ty T, tyX_of u1, kit_ty (hb x), k _ F1 H1 p1 (.bl b)⟩) fun e z => z)
end
end TP

set_option Elab.async false
set_option linter.all false
set_option maxRecDepth 100000
set_option maxHeartbeats 4000000
set_option autoImplicit false
/-! TP, part 5: more operations. -/
namespace TP
open PySem PySem.Spec L2

section
variable {K : Fg} {mg : Str → Option Value} {W : WX} {S S' : List Sl} {te ta tb tc : TE} {tt : TT} {t t1 t2 u : TS}
variable {α β τ τ1 ι γ : Type} {R : Rp α} {B : β → List Sl} {N : Option (τ → List Sl)}

/-! ### in, not in -/
theorem rInP_list {X : Cx} (hu : X.A.units + 100 < cLine) : OpR X (compareOp .In) (rInP false X.K) := by
  intro pins s σ H x y v u Q I rx ry h
  obtain ⟨d, a, xs, ds, hx, rfl, hs, hd, p1, p2, dp, q⟩ := h
  obtain ⟨as, ra⟩ := Dp.reads I d x v hx rx
  have q' : Q (.bl (ds.any fun y => PyData.eqv y d)) H := by
    have e : (false != ds.any fun y => PyData.eqv y d) = ds.any fun y => PyData.eqv y d := by simp
    rw [← e]
    exact q
  rcases hs with hs | hs
  · obtain ⟨bs, rb⟩ := Dp.reads I (.list ds) (.ref a) u (.lst hs hd) ry
    refine PySem.SeqAt.in_list_data rb ra p1 p2 (by omega) ⟨.bl _, H, I, rfl, q'⟩
  · obtain ⟨bs, rb⟩ := Dp.reads I (.tuple ds) (.ref a) u (.tup hs hd) ry
    refine PySem.SeqAt.in_tuple_data rb ra p1 p2 (by omega) ⟨.bl _, H, I, rfl, q'⟩
theorem op_inP {X : Cx} (hu : X.A.units + 100 < cLine) : OpR X (compareOp .In) (rInP false X.K) := rInP_list hu
theorem op_niP {X : Cx} (hu : X.A.units + 100 < cLine) : OpR X (compareOp .NotIn) (rInP true X.K) := by
  intro pins s σ H x y v u Q I rx ry h
  obtain ⟨d, a, xs, ds, hx, rfl, hs, hd, p1, p2, dp, q⟩ := h
  obtain ⟨as, ra⟩ := Dp.reads I d x v hx rx
  have q' : Q (.bl (!ds.any fun y => PyData.eqv y d)) H := by
    have e : (true != ds.any fun y => PyData.eqv y d) = !ds.any fun y => PyData.eqv y d := by simp
    rw [← e]
    exact q
  rcases hs with hs | hs
  · obtain ⟨bs, rb⟩ := Dp.reads I (.list ds) (.ref a) u (.lst hs hd) ry
    refine PySem.SeqAt.notIn_list_data rb ra p1 p2 (by omega) ⟨.bl _, H, I, rfl, q'⟩
  · obtain ⟨bs, rb⟩ := Dp.reads I (.tuple ds) (.ref a) u (.tup hs hd) ry
    refine PySem.SeqAt.notIn_tuple_data rb ra p1 p2 (by omega) ⟨.bl _, H, I, rfl, q'⟩
theorem any_mem [DecidableEq α] {e : Enc α} [Law e] (x : α) : ∀ xs : List α, ((xs.map e).any fun y => PyData.eqv y (e x)) = decide (x ∈ xs)
  | [] => by simp
  | y :: ys => by
    rw [List.map_cons, List.any_cons, Law.eqv, any_mem x ys, ← Bool.decide_or]
    exact decide_eq_decide.mpr (by rw [List.mem_cons]; exact or_congr ⟨Eq.symm, Eq.symm⟩ Iff.rfl)
theorem o_inGo [DecidableEq α] {e : Enc α} [Law e] (neg : Bool) (hd : Law.dep e ≤ 64) {F H : Hp} {a : Addr} {vs : List V} {v : V} {x : α} {ys : List α} (s : Sub F H) (h1 : Dp K H v (e x)) (g1 : Sq K H a vs) (g2 : DpAll K F vs (ys.map e)) {Q : VK} (q : Q (.bl (neg != decide (x ∈ ys))) H) : rInP neg K v (.ref a) H Q :=
  ⟨_, a, vs, _, h1, rfl, g1, dpAll_sub s g2, plainAll_map ys, Law.plain x, Nat.le_trans (Law.dep_le x) hd, by rw [any_mem]; exact q⟩
theorem o_inL [DecidableEq α] {e : Enc α} [Law e] (hd : Law.dep e ≤ 64 := by decide) : Op K (rInP false K) (vH e) (vL e) vB (fun x ys => some (decide (x ∈ ys))) := fun F H v u x ys z s h1 h2 ez Q q => by
  obtain ⟨a, vs, rfl, g1, g2⟩ := h2
  cases ez
  exact o_inGo false hd s h1 (.inl g1) g2 (q _ F H (.refl s) (by simp only [Bool.false_bne]; exact .bl _))
theorem o_inV [DecidableEq α] {e : Enc α} [Law e] (hd : Law.dep e ≤ 64 := by decide) : Op K (rInP false K) (vH e) (vD (eV e)) vB (fun x ys => some (decide (x ∈ ys))) := fun F H v u x ys z s h1 h2 ez Q q => by
  obtain ⟨a, vs, rfl, g1, g2⟩ := dp_tup h2
  cases ez
  exact o_inGo false hd s h1 (.inr (sqT_sub s g1)) g2 (q _ F H (.refl s) (by simp only [Bool.false_bne]; exact .bl _))
theorem o_niL [DecidableEq α] {e : Enc α} [Law e] (hd : Law.dep e ≤ 64 := by decide) : Op K (rInP true K) (vH e) (vL e) vB (fun x ys => some (!decide (x ∈ ys))) := fun F H v u x ys z s h1 h2 ez Q q => by
  obtain ⟨a, vs, rfl, g1, g2⟩ := h2
  cases ez
  exact o_inGo true hd s h1 (.inl g1) g2 (q _ F H (.refl s) (by simp only [Bool.true_bne]; exact .bl _))
theorem o_niV [DecidableEq α] {e : Enc α} [Law e] (hd : Law.dep e ≤ 64 := by decide) : Op K (rInP true K) (vH e) (vD (eV e)) vB (fun x ys => some (!decide (x ∈ ys))) := fun F H v u x ys z s h1 h2 ez Q q => by
  obtain ⟨a, vs, rfl, g1, g2⟩ := dp_tup h2
  cases ez
  exact o_inGo true hd s h1 (.inr (sqT_sub s g1)) g2 (q _ F H (.refl s) (by simp only [Bool.true_bne]; exact .bl _))

/-! ### tuples joined -/
theorem o_catA {e : Enc α} : Op K (rCatA K) (vD (eV e)) (vD (eV e)) (vD (eV e)) catQ := fun F H v u x y z s h1 h2 ez Q q => by
  obtain ⟨a, vs, rfl, g1, g2⟩ := dp_tup h1
  obtain ⟨b, ws, rfl, g3, g4⟩ := dp_tup h2
  unfold catQ at ez
  split at ez
  · rename_i c
    cases ez
    have e1 : vs.length = x.length := by
      rw [dpAll_len g2, List.length_map]
    have e2 : ws.length = y.length := by
      rw [dpAll_len g4, List.length_map]
    have all : DpAll K F (vs ++ ws) ((x ++ y).map e) := by
      rw [List.map_append]
      exact dpAll_app g2 g4
    refine ⟨a, b, vs, ws, rfl, rfl, sqT_sub s g1, sqT_sub s g3, by rw [e1, e2]; exact c, fun h => ?_, fun _ h => ?_, fun _ _ p hp => ?_⟩
    · subst h
      exact q _ F H (.refl s) (.tup g3 all)
    · subst h
      rw [List.append_nil] at all
      exact q _ F H (.refl s) (.tup g1 all)
    · exact q _ _ _ (.new s hp) (.tup (.of upd_same) (dpAll_sub (.new (s.back hp)) all))
  · cases ez

/-! ### two numbers, a truth as a number -/
theorem o_max2 : Cl2 K (fun xs H Q => ∃ i j, xs = [.int i, .int j] ∧ Q (.int (if j > i then j else i)) H) vI vI vI (fun i j => some (if j > i then j else i)) := fun F H v u x y z s h1 h2 ez Q q => by
  cases ez
  exact ⟨x, y, by rw [dp_int h1, dp_int h2], q _ F H (.refl s) (.int _)⟩
theorem o_min2 : Cl2 K (fun xs H Q => ∃ i j, xs = [.int i, .int j] ∧ Q (.int (if j < i then j else i)) H) vI vI vI (fun i j => some (if j < i then j else i)) := fun F H v u x y z s h1 h2 ez Q q => by
  cases ez
  exact ⟨x, y, by rw [dp_int h1, dp_int h2], q _ F H (.refl s) (.int _)⟩
theorem o_intB : Cl1 K (fun xs H Q => (∃ i, xs = [.int i] ∧ Q (.int i) H) ∨ ∃ k, xs = [.bl k] ∧ Q (.int (if k then 1 else 0)) H) vB vI (fun b => some (if b then (1 : Int) else 0)) := fun F H v x z s h1 ez Q q => by
  cases ez
  exact .inr ⟨x, by rw [dp_bl h1], q _ F H (.refl s) (.int _)⟩

/-! ### sorted -/
/-- the items as they stand when sorted -/
@[irreducible] def sortL (lt : α → α → Bool) (xs : List α) : List α := xs.mergeSort fun a b => !lt b a
class Srt {α : Type} [DecidableEq α] (e : Enc α) extends Ordl e where
  srt : ∀ xs : List α, PySem.W.Sortable (xs.map e)
instance : Srt (α := Int) PyData.int where
  srt _ := .others fun b => ⟨fun h => (by cases h), fun _ h => (by cases h)⟩
instance : Srt (α := Str) PyData.str where
  srt _ := .others fun b => ⟨fun h => (by cases h), fun _ h => (by cases h)⟩
instance srt2 [DecidableEq α] [DecidableEq β] {e : Enc α} {f : Enc β} [Ordl e] [Ordl f] : Srt (e2 e f) where
  srt _ := .tuples fun b => ⟨_, _, rfl⟩
theorem sort_map [DecidableEq α] {e : Enc α} [Ordl e] (xs : List α) : (xs.map e).mergeSort (PySem.W.dataLe false id) = (sortL (Ordl.lt e) xs).map e := by
  unfold sortL
  refine (List.map_mergeSort fun a _ b _ => ?_).symm
  rw [PySem.W.dataLe_eq]
  show (!Ordl.lt e b a) = (!PySem.W.dataLt (e b) (e a))
  rw [Ordl.lt_eq]
theorem dpAll_zip {F : Hp} : ∀ {vs : List V} {ds : List PyData}, DpAll K F vs ds → ∀ p ∈ vs.zip ds, Dp K F p.1 p.2
  | _, _, .nil, p, h => by simp at h
  | _, _, .cons h1 t, p, h => by
    rw [List.zip_cons_cons] at h
    rcases List.mem_cons.mp h with z | z
    · rw [z]
      exact h1
    · exact dpAll_zip t p z
theorem each_dp {F : Hp} {zs : List (V × PyData)} (h : ∀ p ∈ zs, Dp K F p.1 p.2) : ∀ {ys : List V} {ds : List PyData}, PySem.W.EachIs (fun y d => (y, d) ∈ zs) ys ds → DpAll K F ys ds
  | _, _, .nil => .nil
  | _, _, .cons m t => .cons (h _ m) (each_dp h t)
theorem o_sort [DecidableEq α] {e : Enc α} [Srt e] (hd : Law.dep e ≤ 64 := by decide) : Cl1O K (rSortD false K) (vL e) (ow (fz e)) (fun xs => some (sortL (Ordl.lt e) xs)) := fun F H v x z s h1 ez Q q => by
  obtain ⟨a, vs, rfl, g1, g2⟩ := h1
  cases ez
  refine ⟨a, vs, x.map e, rfl, g1, dpAll_sub s g2, .of fun b b' => Ordl.alike b b', Srt.srt x, fun d hd' => ?_, fun ys p he hp => newL s ?_ hp q⟩
  · obtain ⟨b, _, rfl⟩ := List.mem_map.mp hd'
    exact Nat.le_trans (Law.dep_le b) hd
  · rw [sort_map] at he
    exact each_dp (dpAll_zip g2) he

/-! ### a < b < c -/
def chainR {α : Type} (ma mb mc : Res α) (p q : α → α → Bool) : Res Bool := ma.bind fun a => mb.bind fun b => if p a b then mc.bind fun c => .ok (q b c) else .ok false
theorem XB.chain {p q : Int → Int → Bool} {ma mb mc : Res Int} (ha : XB K mg W S ta vI ma) (hb : XB K mg W S tb vI mb) (hc : XB K mg W S tc vI mc) :
    XB K mg W S (tChain (rI0 fun i j => .bl (p i j)) (rI0 fun i j => .bl (q i j)) ta tb tc) vB (chainR ma mb mc p q) := fun F H σ A a Q k =>
  ha.two hb a ((Post.of_bind k).imp (fun x k => Post.of_bind k) fun e z => z) fun x y v u F2 H2 k p1 u1 u2 H1 => by
    refine ⟨x, y, dp_int u1, dp_int u2, p x y, rfl, ?_⟩
    by_cases c : p x y = true
    · rw [if_pos c] at k ⊢
      exact hc F2 H2 σ A (a.pu p1) _ ((Post.of_bind k).imp (fun w k v3 F3 H3 p3 u3 => ⟨y, w, dp_int u2, dp_int u3, k _ F3 H3 (p1.trans p3) (.bl _)⟩) fun e z => z.pu p1)
    · rw [if_neg c] at k ⊢
      exact k _ F2 H2 p1 (.bl false)

/-! ### statements -/
theorem Y.never {m : Res (Fl α β τ)} (h : m = .bad := by rfl) : Y K mg W S (tSeq tNever u) R B N m := by
  subst h
  exact ⟨fun _ s e => (by cases e), fun F H σ A a D q => q.elim⟩
/-- a block that does not go on, where one that may is asked -/
theorem YOk.anyN {F H : Hp} {A : List Addr} {D : Ends} {N' : Option (τ → List Sl)} {m : Res (Fl α β τ)} (no : NoNx m) (h : Post m (YOk K F H A R B N' D) (YEr K mg W F H A)) : Post m (YOk K F H A R B (none : Option (τ → List Sl)) D) (YEr K mg W F H A) := by
  have := Post.any (X := D.nx) (N' := (none : Option (τ → List Sl))) no h
  exact this
theorem Y.anyN {m : Res (Fl α β τ)} (h : Y K mg W S t R B (none : Option (τ → List Sl)) m) : Y K mg W S t R B N m := ⟨fun _ => h.no rfl, fun F H σ A a D q =>
  h.run F H σ A a D (YOk.anyN (h.no rfl) q)⟩
end
end TP
namespace TP
open PySem PySem.Spec L2
theorem Y.eqM {α β τ : Type} {K : Fg} {mg : Str → Option Value} {W : WX} {S : List Sl} {t : TS} {R : Rp α} {B : β → List Sl} {N : Option (τ → List Sl)} {m m' : Res (Fl α β τ)} (h : Y K mg W S t R B N m') (e : m' = m) : Y K mg W S t R B N m := e ▸ h
theorem bind_ok {α β : Type} (x : α) (f : α → Res β) : Res.bind (.ok x) f = f x := (rfl : Res.bind (.ok x) f = f x).trans rfl
theorem chk_ok {α : Type} (x : α) : chk (some x) = .ok x := (rfl : chk (some x) = .ok x).trans rfl
end TP
namespace TP
open PySem PySem.Spec L2
/-- a law's promise: the answer is True -/
def spL (K : Fg) : Sp := fun vs H Q _ => ∃ (a : Addr) (ns : List Int), vs = [.ref a] ∧ SqL K H a (ns.map V.int) ∧ ns.length ≤ 63 ∧ (∀ z ∈ ns, Builtin.Int.intBits z ≤ 1048576) ∧ ∀ H', Q (.bl true) H'
theorem dp_ints {K : Fg} {H : Hp} : ∀ ns : List Int, DpAll K H (ns.map V.int) (ns.map eI)
  | [] => .nil
  | n :: ns => .cons (.int n) (dp_ints ns)
theorem law_ok {P : Program} {w : World} {K : Fg} {mg : Str → Option Value} {base : Heap} {CX : CXT} {k : Nat} {f : Addr} {fd : FuncData} {ps : List Str} {m : List Int × Unit → Res Bool}
    (F : FnOk P w K mg base CX k f fd ps (spP K mg (fun t => [.val (fz (eL eI)) t.1]) (fz eB) m)) (h : ∀ ns : List Int, ns.length ≤ 63 → (∀ z ∈ ns, Builtin.Int.intBits z ≤ 1048576) → m (ns, ()) = .ok true) : FnOk P w K mg base CX k f fd ps (spL K) :=
  F.imp fun vs H Q E q => by
    obtain ⟨a, ns, rfl, hS, hl, hb, hq⟩ := q
    refine ⟨(ns, ()), H, [], ⟨.refl _, List.nodup_nil, fun _ z => (by cases z), [], [], rfl, ⟨rfl, .lst hS (dp_ints ns)⟩, rfl⟩, ?_⟩
    rw [h ns hl hb]
    exact fun v F' H' Av n s r nd fo => by
      rw [dp_bl r.2]
      exact hq H'
theorem cx_no {P : Program} {w : World} {H : Hp} {s : Shared} {e : Value} {s' : Shared} (h : L2.CX P w [] H s (fun _ _ _ => False) e s') : False := by
  obtain ⟨_, _, _, _, _, _, _, _, _, _, _, _, h⟩ := h
  exact h
end TP

set_option Elab.async false
set_option linter.all false
set_option maxRecDepth 100000
set_option maxHeartbeats 4000000
set_option autoImplicit false
/-! TP, part 6: what mirrors answer; no program in sight. -/
namespace TP
open PySem PySem.Spec L2

section
variable {α β γ τ τ1 ι : Type}
/-- the mirror answers, and the answer is a P -/
def Ret (m : Res α) (P : α → Prop) : Prop := ∃ x, m = .ok x ∧ P x
theorem ret_ok {x : α} {P : α → Prop} (h : P x) : Ret (.ok x) P := ⟨x, rfl, h⟩
theorem ret_is {m : Res α} {x : α} {P : α → Prop} (e : m = .ok x) (h : P x) : Ret m P := ⟨x, e, h⟩
theorem ret_eq {m : Res α} {x : α} (h : Ret m fun y => y = x) : m = .ok x := by
  obtain ⟨y, e, rfl⟩ := h
  exact e
theorem ret_imp {m : Res α} {P Q : α → Prop} (h : Ret m P) (k : ∀ x, P x → Q x) : Ret m Q := by
  obtain ⟨x, e, p⟩ := h
  exact ⟨x, e, k x p⟩
theorem ret_bind {m : Res α} {f : α → Res β} {P : β → Prop} (h : Ret m fun x => Ret (f x) P) : Ret (m.bind f) P := by
  obtain ⟨x, rfl, y, e, p⟩ := h
  exact ⟨y, e, p⟩
theorem ret_bindP {m : Res α} {f : α → Res β} {Q : α → Prop} {P : β → Prop} (h : Ret m Q) (k : ∀ x, Q x → Ret (f x) P) : Ret (m.bind f) P := ret_bind (ret_imp h k)
theorem ret_chk {o : Option α} {x : α} {P : α → Prop} (e : o = some x) (h : P x) : Ret (chk o) P := ⟨x, by rw [e]; rfl, h⟩
theorem ret_chkB {o : Option α} {x : α} {f : α → Res β} {P : β → Prop} (e : o = some x) (h : Ret (f x) P) : Ret ((chk o).bind f) P := ret_bind (ret_chk e h)
theorem ret_okB {x : α} {f : α → Res β} {P : β → Prop} (h : Ret (f x) P) : Ret ((Res.ok x).bind f) P := ret_bind (ret_ok h)
theorem ret_if {c : Bool} {x y : Res α} {P : α → Prop} (h1 : c = true → Ret x P) (h2 : c = false → Ret y P) : Ret (ifR (.ok c) x y) P := by
  cases c with
  | true => exact h1 rfl
  | false => exact h2 rfl
theorem ret_ifD {c : Prop} [Decidable c] {x y : Res α} {P : α → Prop} (h1 : c → Ret x P) (h2 : ¬c → Ret y P) : Ret (ifR (.ok (decide c)) x y) P :=
  ret_if (fun h => h1 (of_decide_eq_true h)) fun h => h2 (of_decide_eq_false h)
theorem ret_flb {m : Res (Fl α β τ1)} {k : τ1 → Res (Fl α β τ)} {P : Fl α β τ → Prop} (h : Ret m fun fl => match fl with
    | .nx s => Ret (k s) P
    | .rt x => P (.rt x)
    | .bk s => P (.bk s)
    | .ct s => P (.ct s)) : Ret (m.flb k) P := by
  obtain ⟨fl, rfl, h⟩ := h
  cases fl with
  | nx s => exact h
  | rt x => exact ⟨_, rfl, h⟩
  | bk s => exact ⟨_, rfl, h⟩
  | ct s => exact ⟨_, rfl, h⟩
theorem ret_fin {m : Res (Fl α β τ)} {P : α → Prop} (h : Ret m fun fl => match fl with
    | .rt x => P x
    | _ => False) : Ret (Res.fin m) P := by
  obtain ⟨fl, rfl, h⟩ := h
  cases fl with
  | rt x => exact ⟨x, rfl, h⟩
  | nx s => exact h.elim
  | bk s => exact h.elim
  | ct s => exact h.elim
theorem fin_rt {x : α} : Res.fin (.ok (.rt x) : Res (Fl α β τ)) = .ok x := rfl
theorem flb_nx {s : τ1} {k : τ1 → Res (Fl α β τ)} : Res.flb (.ok (.nx s) : Res (Fl α β τ1)) k = k s := rfl
theorem flb_rt {x : α} {k : τ1 → Res (Fl α β τ)} : Res.flb (.ok (.rt x) : Res (Fl α β τ1)) k = .ok (.rt x) := rfl
theorem ifR_t {x y : Res α} : ifR (.ok true) x y = x := rfl
theorem ifR_f {x y : Res α} : ifR (.ok false) x y = y := rfl
theorem ifR_ok {c : Bool} {x y : Res α} : ifR (.ok c) x y = if c = true then x else y := rfl
theorem orR_ok {a b : Bool} : orR (.ok a) (.ok b) = .ok (a || b) := by cases a <;> rfl
theorem andR_ok {a b : Bool} : andR (.ok a) (.ok b) = .ok (a && b) := by cases a <;> rfl
theorem noer_ok {x : α} : Res.noer (.ok x) = .ok x := rfl
/-- a loop with what holds at each turn: done, to come, the state -/
theorem ret_for {f : ι → τ1 → Res (Fl α τ1 τ1)} {P : Fl α β τ1 → Prop} (I : List ι → List ι → τ1 → Prop)
    (step : ∀ d x t s, I d (x :: t) s → Ret (f x s) fun fl => match fl with
      | .nx s' => I (d ++ [x]) t s'
      | .ct s' => I (d ++ [x]) t s'
      | .bk s' => P (.nx s')
      | .rt r => P (.rt r))
    (fin : ∀ d s, I d [] s → P (.nx s)) : ∀ (xs d : List ι) (s : τ1), I d xs s → Ret (forR f xs s) P
  | [], d, s, h => ⟨_, rfl, fin d s h⟩
  | x :: xs, d, s, h => by
    obtain ⟨fl, e, k⟩ := step d x xs s h
    rw [forR, e]
    cases fl with
    | nx s' => exact ret_for I step fin xs _ s' k
    | ct s' => exact ret_for I step fin xs _ s' k
    | bk s' => exact ⟨_, rfl, k⟩
    | rt r => exact ⟨_, rfl, k⟩
theorem forR_congr {f g : ι → τ1 → Res (Fl α τ1 τ1)} : ∀ (xs : List ι) (s : τ1), (∀ x ∈ xs, ∀ s, f x s = g x s) → (forR f xs s : Res (Fl α β τ1)) = forR g xs s
  | [], s, _ => rfl
  | x :: xs, s, h => by
    rw [forR, forR, h x List.mem_cons_self s]
    refine congrArg _ (funext fun fl => ?_)
    have ih : ∀ s, (forR f xs s : Res (Fl α β τ1)) = forR g xs s := fun s => forR_congr xs s fun y hy => h y (List.mem_cons_of_mem _ hy)
    cases fl with
    | nx s' => exact ih s'
    | ct s' => exact ih s'
    | bk s' => rfl
    | rt r => rfl
/-- a loop that only looks for a first -/
theorem forR_any {p : ι → Bool} {r : α} : ∀ (xs : List ι) (s : τ1), (forR (fun x s => ifR (.ok (p x)) (.ok (.rt r)) (.ok (.nx s))) xs s : Res (Fl α β τ1)) = if xs.any p = true then .ok (.rt r) else .ok (.nx s)
  | [], s => rfl
  | x :: xs, s => by
    rw [forR, List.any_cons]
    cases e : p x with
    | true => rfl
    | false =>
      rw [Bool.false_or]
      exact forR_any xs s
/-- a loop that goes on throughout -/
theorem forR_fold {f : ι → τ1 → Res (Fl α τ1 τ1)} {g : τ1 → ι → τ1} : ∀ (xs : List ι) (s : τ1), (∀ x ∈ xs, ∀ s, f x s = .ok (.nx (g s x))) → (forR f xs s : Res (Fl α β τ1)) = .ok (.nx (xs.foldl g s))
  | [], s, _ => rfl
  | x :: xs, s, h => by
    rw [forR, h x List.mem_cons_self s]
    exact forR_fold xs _ fun y hy => h y (List.mem_cons_of_mem _ hy)
theorem ret_while {c : τ1 → Res Bool} {f : τ1 → Res (Fl α τ1 τ1)} {P : Fl α β τ1 → Prop} (I : τ1 → Prop) (μ : τ1 → Nat)
    (step : ∀ s, I s → Ret (c s) fun b => if b = true then Ret (f s) fun fl => (match fl with
      | .nx s' => I s' ∧ μ s' < μ s
      | .ct s' => I s' ∧ μ s' < μ s
      | .bk s' => P (.nx s')
      | .rt r => P (.rt r)) else P (.nx s)) : ∀ (n : Nat) (s : τ1), I s → μ s < n → Ret (whileR c f n s) P
  | 0, s, _, h => absurd h (Nat.not_lt_zero _)
  | n + 1, s, h, hn => by
    obtain ⟨b, e, k⟩ := step s h
    rw [whileR, e]
    cases b with
    | false => exact ⟨_, rfl, k⟩
    | true =>
      obtain ⟨fl, e2, k2⟩ := k
      rw [e2]
      cases fl with
      | nx s' => exact ret_while I μ step n s' k2.1 (by omega)
      | ct s' => exact ret_while I μ step n s' k2.1 (by omega)
      | bk s' => exact ⟨_, rfl, k2⟩
      | rt r => exact ⟨_, rfl, k2⟩
theorem lcGo_ok {c : ι → Res Bool} {f : ι → Res γ} {p : ι → Bool} {g : ι → γ} : ∀ (xs : List ι) (acc : List γ), (∀ x ∈ xs, c x = .ok (p x)) → (∀ x ∈ xs, p x = true → f x = .ok (g x)) → acc.length + xs.length ≤ sizeLine → lcGo c f xs acc = .ok (acc ++ (xs.filter p).map g)
  | [], acc, _, _, _ => by simp [lcGo]
  | x :: xs, acc, h1, h2, h3 => by
    rw [List.length_cons] at h3
    rw [lcGo, h1 x List.mem_cons_self, List.filter_cons]
    cases e : p x with
    | true =>
      rw [ifR_t, h2 x List.mem_cons_self e, bind_ok, if_pos (by omega), if_pos rfl, lcGo_ok xs _ (fun y hy => h1 y (List.mem_cons_of_mem _ hy)) (fun y hy => h2 y (List.mem_cons_of_mem _ hy)) (by rw [List.length_append, List.length_singleton]; omega)]
      simp
    | false =>
      rw [ifR_f, if_neg Bool.false_ne_true]
      exact lcGo_ok xs acc (fun y hy => h1 y (List.mem_cons_of_mem _ hy)) (fun y hy => h2 y (List.mem_cons_of_mem _ hy)) (by omega)
/-- a comprehension without a condition -/
theorem lcR_map {f : ι → Res γ} {g : ι → γ} {xs : List ι} (h : ∀ x ∈ xs, f x = .ok (g x)) (hl : xs.length ≤ sizeLine) : lcR (fun _ => .ok true) f xs = .ok (xs.map g) := by
  have := lcGo_ok (c := fun _ => .ok true) (f := f) (p := fun _ => true) (g := g) xs [] (fun _ _ => rfl) (fun x hx _ => h x hx) (by simpa using hl)
  rw [List.nil_append, List.filter_eq_self.mpr fun _ _ => rfl] at this
  exact this
theorem lcR_filter {c : ι → Res Bool} {f : ι → Res γ} {p : ι → Bool} {g : ι → γ} {xs : List ι} (h1 : ∀ x ∈ xs, c x = .ok (p x)) (h2 : ∀ x ∈ xs, p x = true → f x = .ok (g x)) (hl : xs.length ≤ sizeLine) : lcR c f xs = .ok ((xs.filter p).map g) := by
  have := lcGo_ok (c := c) (f := f) xs [] h1 h2 (by simpa using hl)
  rw [List.nil_append] at this
  exact this

/-! ### the checks -/
theorem mulQ_ok {a b : Int} (h : a.natAbs.log2 + b.natAbs.log2 < 1000000) : mulQ a b = some (a * b) := by
  unfold mulQ
  rw [if_pos (by unfold cMul; exact decide_eq_true h)]
theorem log2_le {a : Int} {n : Nat} (h : a.natAbs < 2 ^ (n + 1)) : a.natAbs.log2 ≤ n := by
  by_cases z : a.natAbs = 0
  · rw [z]
    exact Nat.zero_le _
  · exact Nat.le_of_lt_succ ((Nat.log2_lt z).mpr h)
theorem log2_of {a : Int} (n : Nat) (h1 : -(2 ^ (n + 1) : Int) < a) (h2 : a < 2 ^ (n + 1)) : a.natAbs.log2 ≤ n := by
  refine log2_le ?_
  have e : ((2 ^ (n + 1) : Nat) : Int) = 2 ^ (n + 1) := by norm_cast
  rw [← e] at h1 h2
  omega
theorem divQ_ok {a b : Int} (h : 0 < b) (h2 : b < 2 ^ 1000) : divQ a b = some (a / b) := by
  unfold divQ
  rw [if_pos]
  unfold cDiv
  refine decide_eq_true ⟨h, ?_⟩
  have := log2_of (a := b) 999 (by omega) (by omega)
  omega
theorem modQ_ok {a b : Int} (h : 0 < b) : modQ a b = some (a % b) := by
  unfold modQ
  rw [if_pos (by unfold cMod; exact decide_eq_true h)]
theorem ixQ_ok {xs : List α} {i : Int} (h0 : 0 ≤ i) (h1 : i < xs.length) : ixQ xs i = some (xs[i.toNat]'(by omega)) := by
  unfold ixQ atI ixN
  rw [if_pos h0, if_pos h1, Option.bind_some, List.getElem?_eq_getElem]
theorem ixQ_neg {xs : List α} {i : Int} (h0 : i < 0) (h1 : -(xs.length : Int) ≤ i) : ixQ xs i = some (xs[(i + xs.length).toNat]'(by omega)) := by
  unfold ixQ atI ixN
  rw [if_neg (by omega), if_pos h1, Option.bind_some, List.getElem?_eq_getElem]
theorem catQ_ok {xs ys : List α} (h : xs.length + ys.length ≤ 16777216) : catQ xs ys = some (xs ++ ys) := by
  unfold catQ
  rw [if_pos (show _ ≤ sizeLine from h)]
theorem appQ_ok {xs : List α} {x : α} (h : xs.length < 16777216) : appQ xs x = some (xs ++ [x]) := by
  unfold appQ
  rw [if_pos (show _ < sizeLine from h)]
theorem repQ_ok {xs : List α} {k : Int} (h0 : 0 ≤ k) (h1 : k ≤ 16777216) (h : xs.length * k.toNat ≤ 16777216) : repQ xs k = some (List.replicate k.toNat xs).flatten := by
  unfold repQ
  rw [if_pos ⟨by omega, by omega, show _ ≤ sizeLine from h⟩]
theorem okRange_ok {lo hi : Int} (h0 : -4611686018427387904 ≤ lo) (h1 : lo < 4611686018427387904) (h2 : -4611686018427387904 ≤ hi) (h3 : hi < 4611686018427387904) : okRange lo hi = some (rangeL lo hi) := by
  unfold okRange
  rw [if_pos ⟨by omega, by omega, by omega, by omega⟩]
theorem mem_range {lo hi i : Int} : i ∈ rangeL lo hi ↔ lo ≤ i ∧ i < hi := by
  unfold rangeL
  rw [List.mem_map]
  refine ⟨fun ⟨k, h, e⟩ => ?_, fun ⟨h1, h2⟩ => ⟨(i - lo).toNat, ?_, ?_⟩⟩
  · rw [List.mem_range] at h
    omega
  · rw [List.mem_range]
    omega
  · omega
theorem len_range {lo hi : Int} : (rangeL lo hi).length = (hi - lo).toNat := by
  unfold rangeL
  rw [List.length_map, List.length_range]
theorem setQ_ok {xs : List α} {i : Int} {x : α} (h0 : 0 ≤ i) (h1 : i < xs.length) : setQ xs i x = some (xs.set i.toNat x) := by
  unfold setQ ixN
  rw [if_pos h0, if_pos h1]
  rfl
theorem getQ_ok {xs : List α} {i : Int} (h0 : 0 ≤ i) (h1 : i < xs.length) : getQ xs i = some (xs[i.toNat]'(by omega)) := by
  unfold getQ
  rw [if_pos h0, List.getElem?_eq_getElem]
/-! ### cuts -/
theorem cut_len (xs : List α) (lo hi : Option Int) : (cutA xs lo hi).length ≤ xs.length := by
  unfold cutA
  rw [List.length_take, List.length_drop]
  omega
theorem sIx_p {n d : Nat} {v : Int} (h : 0 ≤ v) : HT.sIx n d (some v) = min v.toNat n := by
  show (if v < 0 then (v + (n : Int)).toNat else min v.toNat n) = min v.toNat n
  rw [if_neg (by omega)]
theorem sIx_m {n d : Nat} {v : Int} (h : v < 0) : HT.sIx n d (some v) = (v + (n : Int)).toNat := by
  show (if v < 0 then (v + (n : Int)).toNat else min v.toNat n) = _
  rw [if_pos h]
theorem sIx_0 {n d : Nat} : HT.sIx n d none = d := rfl
theorem cut_from {xs : List α} {n : Int} (h : 0 ≤ n) : cutA xs (some n) none = xs.drop n.toNat := by
  unfold cutA
  rw [sIx_p h, sIx_0]
  by_cases k : n.toNat ≤ xs.length
  · rw [Nat.min_eq_left k, List.take_of_length_le (by rw [List.length_drop]; omega)]
  · rw [Nat.min_eq_right (by omega), List.drop_eq_nil_of_le (Nat.le_refl _), List.drop_eq_nil_of_le (by omega), List.take_nil]
theorem cut_to {xs : List α} {n : Int} (h : 0 ≤ n) : cutA xs none (some n) = xs.take n.toNat := by
  unfold cutA
  rw [sIx_p h, sIx_0, List.drop_zero, Nat.sub_zero]
  by_cases k : n.toNat ≤ xs.length
  · rw [Nat.min_eq_left k]
  · rw [Nat.min_eq_right (by omega), List.take_of_length_le (Nat.le_refl _), List.take_of_length_le (by omega)]
theorem cut_mid {xs : List α} {m n : Int} (h : 0 ≤ m) (k : m ≤ n) : cutA xs (some m) (some n) = (xs.drop m.toNat).take (n.toNat - m.toNat) := by
  unfold cutA
  rw [sIx_p h, sIx_p (by omega)]
  by_cases k : n.toNat ≤ xs.length
  · rw [Nat.min_eq_left k, Nat.min_eq_left (by omega)]
  · by_cases k2 : m.toNat ≤ xs.length
    · rw [Nat.min_eq_right (by omega), Nat.min_eq_left k2, List.take_of_length_le (by rw [List.length_drop]; omega), List.take_of_length_le (by rw [List.length_drop]; omega)]
    · rw [Nat.min_eq_right (by omega), Nat.min_eq_right (by omega), List.drop_eq_nil_of_le (Nat.le_refl _), List.drop_eq_nil_of_le (by omega), List.take_nil, List.take_nil]
theorem cut_last {xs : List α} : cutA xs none (some (-1)) = xs.dropLast := by
  unfold cutA
  rw [sIx_m (by omega), sIx_0, List.drop_zero, Nat.sub_zero, List.dropLast_eq_take]
  congr 1
  omega
theorem sortL_perm {lt : α → α → Bool} (xs : List α) : (sortL lt xs).Perm xs := by
  unfold sortL
  exact List.mergeSort_perm _ _
theorem sortL_len {lt : α → α → Bool} (xs : List α) : (sortL lt xs).length = xs.length := (sortL_perm xs).length_eq
end
end TP

set_option Elab.async false
set_option linter.all false
set_option maxRecDepth 100000
set_option maxHeartbeats 4000000
set_option autoImplicit false
/-! TP, part 7: more changes of owned lists; borrowing. -/
namespace TP
open PySem PySem.Spec L2

section
variable {K : Fg} {mg : Str → Option Value} {W : WX} {S S' : List Sl} {te ta tb tc : TE} {tt : TT} {t t1 t2 u : TS}
variable {α β τ τ1 ι γ : Type} {R : Rp α} {B : β → List Sl} {N : Option (τ → List Sl)}

/-! ### methods of an owned list whose items are frozen -/
theorem Y.rev {i : Nat} {ρ : Rp (List ι)} {e : Enc ι} [Own ρ (fz e)] {xs : List ι} {k : List ι → Res (Fl α β τ)} (hs : S[i]? = some (.val ρ xs)) (hu : ∀ ys, Y K mg W (S.set i (.val ρ ys)) u R B N (k ys)) :
    Y K mg W S (tSeq (tDrop (tBM0 K "list" rReverse (tVar i))) u) R B N ((Res.ok xs.reverse).bind k) := ⟨fun h => .bind fun ys => (hu ys).no h, fun F H σ A a D q => by
  obtain ⟨l, vs, e1, hl, dl, md⟩ := a.lst hs
  refine ⟨_, e1, .inl ⟨rfl, vs, .of hl⟩, l, vs, rfl, rfl, hl, ?_⟩
  obtain ⟨A2, a2, n2⟩ := md F H xs.reverse vs.reverse (.refl a.fh) (by
    rw [List.map_reverse]
    exact dpAll_rev dl)
  exact (hu _).run F _ σ A2 a2 D (Post.from n2 q)⟩
where dpAll_rev {F : Hp} : ∀ {vs : List V} {ds : List PyData}, DpAll K F vs ds → DpAll K F vs.reverse ds.reverse
  | _, _, .nil => .nil
  | _, _, .cons h t => by
    rw [List.reverse_cons, List.reverse_cons]
    exact dpAll_app (dpAll_rev t) (.cons h .nil)
theorem Y.clear {i : Nat} {ρ : Rp (List ι)} {e : Enc ι} [Own ρ (fz e)] {xs : List ι} {k : List ι → Res (Fl α β τ)} (hs : S[i]? = some (.val ρ xs)) (hu : ∀ ys, Y K mg W (S.set i (.val ρ ys)) u R B N (k ys)) :
    Y K mg W S (tSeq (tDrop (tBM0 K "list" rClear (tVar i))) u) R B N ((Res.ok ([] : List ι)).bind k) := ⟨fun h => .bind fun ys => (hu ys).no h, fun F H σ A a D q => by
  obtain ⟨l, vs, e1, hl, dl, md⟩ := a.lst hs
  refine ⟨_, e1, .inl ⟨rfl, vs, .of hl⟩, l, vs, rfl, rfl, hl, ?_⟩
  obtain ⟨A2, a2, n2⟩ := md F H [] [] (.refl a.fh) .nil
  exact (hu _).run F _ σ A2 a2 D (Post.from n2 q)⟩
/-- xs.extend(ys) -/
theorem list_extW (l : Addr) (items : Array Value) (n : Nat) (b : Addr) (items2 : Array Value) (n2 : Nat) (dd2 : Option Addr) (sl2 : Array (Option Value)) (h0 : ¬(!items.isEmpty && Builtin.List.listTooLong (items.size + items2.size)) = true) (h1 : items.size ≤ sizeLine) (h2 : items.size + items2.size ≤ sizeLine + 1) :
    Meets (Builtin.«list.extend» ⟨[.ref l, .ref b], []⟩) (fun _ R s => s.heap.get? l = some { cls := .type "list", dict := none, data := .seq items n, slots := #[] } ∧ s.heap.get? b = some { cls := .type "list", dict := dd2, data := .seq items2 n2, slots := sl2 } ∧
      R (.ok (.ret Value.none)) { s with heap := s.heap.update l (Obj.mapSeq fun x => x ++ items2), toks := s.toks }) := .of_wp fun prog w A R s h => by
  obtain ⟨hp, g, d, tk, os⟩ := s
  obtain ⟨hl, hb, h⟩ := h
  have k1 := AutoSeq1.idx_int
  have k2 := AutoSeq1.sub_tuple_tuple
  have k3 := AutoSeq1.sub_list_list
  have k4 := AutoSeq1.sub_tuple_list
  have k5 := AutoSeq1.sub_list_tuple
  have hz : (items ++ items2).size ≤ sizeLine + 1 := by
    rw [Array.size_append]
    exact h2
  wp_walk using (wpAny_updateSeq hl rfl (hz := h1) (_hz' := hz)), wpAny_loadPart' hl, wpAny_loadPart' hb
  exact ⟨_, rfl, h⟩
def rExtS (K : Fg) : V → List V → Hp → VK → Prop := fun x vs H Q => ∃ l b xs zs, x = .ref l ∧ vs = [.ref b] ∧ H l = some (.lst xs) ∧ SqL K H b zs ∧ xs.length + zs.length ≤ sizeLine ∧ Q .non (upd H l (.lst (xs ++ zs)))
theorem mt_extS {X : Cx} : MtM X "list.extend" (rExtS X.K) := by
  intro pins s σ H x vs v us Q I rx rv h
  obtain ⟨l, b, xs, zs, rfl, rfl, hH, hB, hz, q⟩ := h
  cases rx
  obtain ⟨u, rfl, ru⟩ := rv.one
  cases ru
  obtain ⟨z, its, n, r, hl, e⟩ := I.lstM hH
  obtain ⟨its2, r2, hl2, z2⟩ := I.list hB
  have l2 := r2.length
  obtain ⟨⟨cls2, dd2, data2, sl2⟩, ho2, hc2, n2, hd2⟩ := hl2.isList
  simp only at hc2 hd2
  subst hc2 hd2
  have hsz : its.toArray.size + its2.toArray.size ≤ sizeLine := by
    rw [List.size_toArray, List.size_toArray, ← hl, ← l2]
    exact hz
  have hlong : ¬ (!its.toArray.isEmpty && Builtin.List.listTooLong (its.toArray.size + its2.toArray.size)) = true := by
    rw [notLongL hsz, Bool.and_false]
    exact Bool.false_ne_true
  refine call_meets F.slot_list_extend ⟨_, e, rfl⟩ F.entry_list_extend (F.args_list_extend_2 _ _) (list_extW l its.toArray n b its2.toArray n2 dd2 sl2 hlong (by omega) (by omega)) ⟨e, ho2, ?_⟩
  refine ⟨.non, _, I.lset (its' := its ++ its2) hH e (by simp) (r.append r2) ?_, rfl, q⟩
  rw [List.length_append]
  exact hz
theorem Y.ext {i : Nat} {ρ : Rp (List ι)} {e : Enc ι} [Own ρ (fz e)] {xs : List ι} {me : Res (List ι)} {k : List ι → Res (Fl α β τ)} (hs : S[i]? = some (.val ρ xs)) (he : XB K mg W S te (vL e) me) (hu : ∀ ys, Y K mg W (S.set i (.val ρ ys)) u R B N (k ys)) :
    Y K mg W S (tSeq (tDrop (tBM K "list" (rExtS K) (tVar i) (tCons te tNil))) u) R B N (me.bind fun ys => (chk (catQ xs ys)).bind k) := ⟨fun h => .bind fun x => .bind fun ys => (hu ys).no h, fun F H σ A a D q => by
  obtain ⟨l, vs, e1, hl, dl, md⟩ := a.lst hs
  refine ⟨_, e1, .inl ⟨rfl, vs, .of hl⟩, ?_⟩
  refine he F H σ A a _ ((Post.of_bind q).imp (fun ys k2 w F1 H1 p h1 => ?_) fun e z => z.x)
  obtain ⟨b, ws, rfl, g1, g2⟩ := h1
  obtain ⟨zs, e4, k3⟩ := Post.of_chk (Post.of_bind k2)
  unfold catQ at e4
  split at e4
  · rename_i c
    cases e4
    have el : vs.length = xs.length := by rw [dpAll_len dl, List.length_map]
    have el2 : ws.length = ys.length := by rw [dpAll_len g2, List.length_map]
    obtain ⟨A2, a2, n2⟩ := md F1 H1 (xs ++ ys) (vs ++ ws) p (by
      rw [List.map_append]
      exact dpAll_app (dpAll_sub p.ff dl) g2)
    exact ⟨l, b, vs, ws, rfl, rfl, p.hh l _ hl, g1, by rw [el, el2]; exact c, (hu _).run F1 _ σ A2 a2 D (Post.from n2 k3)⟩
  · cases e4⟩

/-! ### xs.remove(x) -/
def rRemD (K : Fg) : V → List V → Hp → VK → Prop := fun x vs H Q => ∃ (l : Addr) (xs : List V) (ds : List PyData) (y : V) (d : PyData) (j : Nat), x = .ref l ∧ vs = [y] ∧ H l = some (.lst xs) ∧ DpAll K H xs ds ∧ Dp K H y d ∧ PyData.plainAll ds = true ∧ d.plain = true ∧ d.depth ≤ 64 ∧ PySem.SeqAt.dataPlace ds d = some j ∧ Q .non (upd H l (.lst (xs.eraseIdx j)))
theorem mt_remD {X : Cx} (hu : X.A.units + 100 < cLine) : MtM X "list.remove" (rRemD X.K) := by
  intro pins s σ H x vs v us Q I rx rv h
  obtain ⟨l, xs, ds, y, d, j, rfl, rfl, hH, hd, hy, p1, p2, dp, hj, q⟩ := h
  cases rx
  obtain ⟨u, rfl, ru⟩ := rv.one
  obtain ⟨z, its, n, r, hl, e⟩ := I.lstM hH
  obtain ⟨as, rs⟩ := Dp.readsAll I ds xs its hd r
  obtain ⟨bs, rx⟩ := Dp.reads I d y u hy ru
  refine PySem.SeqAt.remove_list_data (vs := its.toArray) ⟨_, e, rfl, _, rfl⟩ (by simpa using rs) rx p1 p2 (by omega) hj (by rw [List.size_toArray]; omega) ?_
  refine ⟨.non, _, I.lset (its' := its.eraseIdx j) hH e ?_ (r.eraseIdx j) ?_, rfl, q⟩
  · rw [List.eraseIdxIfInBounds_toArray]
  · rw [List.length_eraseIdx]
    split <;> omega
@[irreducible] def remQ [DecidableEq ι] (xs : List ι) (x : ι) : Option (List ι) := (xs.findIdx? fun y => decide (y = x)).map fun j => xs.eraseIdx j
theorem dpAll_erase {F : Hp} : ∀ {vs : List V} {ds : List PyData} (j : Nat), DpAll K F vs ds → DpAll K F (vs.eraseIdx j) (ds.eraseIdx j)
  | _, _, _, .nil => .nil
  | _, _, 0, .cons _ t => t
  | _, _, j + 1, .cons h t => .cons h (dpAll_erase j t)
theorem map_erase {f : ι → γ} : ∀ (xs : List ι) (j : Nat), (xs.eraseIdx j).map f = (xs.map f).eraseIdx j
  | [], _ => by simp
  | x :: xs, 0 => rfl
  | x :: xs, j + 1 => by
    show f x :: (xs.eraseIdx j).map f = f x :: (xs.map f).eraseIdx j
    rw [map_erase xs j]
theorem place_map [DecidableEq ι] {e : Enc ι} [Law e] (x : ι) (xs : List ι) : PySem.SeqAt.dataPlace (xs.map e) (e x) = xs.findIdx? fun y => decide (y = x) := by
  unfold PySem.SeqAt.dataPlace
  rw [List.findIdx?_map]
  congr 1
  funext y
  exact Law.eqv y x
theorem Y.rem [DecidableEq ι] {i : Nat} {ρ : Rp (List ι)} {e : Enc ι} [Law e] [Own ρ (fz e)] {xs : List ι} {me : Res ι} {k : List ι → Res (Fl α β τ)} (hs : S[i]? = some (.val ρ xs)) (he : XB K mg W S te (vH e) me) (hu : ∀ ys, Y K mg W (S.set i (.val ρ ys)) u R B N (k ys)) (hd : Law.dep e ≤ 64 := by decide) :
    Y K mg W S (tSeq (tDrop (tBM K "list" (rRemD K) (tVar i) (tCons te tNil))) u) R B N (me.bind fun x => (chk (remQ xs x)).bind k) := ⟨fun h => .bind fun x => .bind fun ys => (hu ys).no h, fun F H σ A a D q => by
  obtain ⟨l, vs, e1, hl, dl, md⟩ := a.lst hs
  refine ⟨_, e1, .inl ⟨rfl, vs, .of hl⟩, ?_⟩
  refine he F H σ A a _ ((Post.of_bind q).imp (fun x k2 w F1 H1 p h1 => ?_) fun e z => z.x)
  obtain ⟨zs, e4, k3⟩ := Post.of_chk (Post.of_bind k2)
  unfold remQ at e4
  cases c : xs.findIdx? fun y => decide (y = x) with
  | none =>
    rw [c] at e4
    cases e4
  | some j =>
    rw [c] at e4
    cases e4
    have dl1 := dpAll_sub (p.ff.trans p.fh) dl
    obtain ⟨A2, a2, n2⟩ := md F1 H1 (xs.eraseIdx j) (vs.eraseIdx j) p (by
      rw [map_erase]
      exact dpAll_erase j (dpAll_sub p.ff dl))
    exact ⟨l, vs, xs.map e, w, e x, j, rfl, rfl, p.hh l _ hl, dl1, h1, plainAll_map xs, Law.plain x, Nat.le_trans (Law.dep_le x) hd, by rw [place_map]; exact c, (hu _).run F1 _ σ A2 a2 D (Post.from n2 k3)⟩⟩

/-! ### x = xs.pop(), x = xs.pop(n) -/
@[irreducible] def lastQ (xs : List ι) : Option ι := xs[xs.length - 1]?
theorem dpAll_dropLast {F : Hp} {vs : List V} {ds : List PyData} (h : DpAll K F vs ds) : DpAll K F vs.dropLast ds.dropLast := by
  rw [List.dropLast_eq_take, List.dropLast_eq_take, dpAll_len h]
  exact dpAll_take _ h
/-- x = xs.pop() -/
theorem Y.pop {i j : Nat} {ρ : Rp (List ι)} {e : Enc ι} [Own ρ (fz e)] {xs : List ι} {k : ι → List ι → Res (Fl α β τ)} (hs : S[i]? = some (.val ρ xs)) (hu : ∀ x ys, Y K mg W ((S.set i (.val ρ ys)).set j (.val (fz e) x)) u R B N (k x ys)) (hj : S[j]?.isSome = true) :
    Y K mg W S (tSeq (tAsg (tBM0 K "list" rPop (tVar i)) (gName j)) u) R B N ((chk (lastQ xs)).bind fun x => (Res.ok xs.dropLast).bind fun ys => k x ys) := ⟨fun h => .bind fun x => .bind fun ys => (hu x ys).no h, fun F H σ A a D q => by
  obtain ⟨l, vs, e1, hl, dl, md⟩ := a.lst hs
  obtain ⟨x, e4, k3⟩ := Post.of_chk (Post.of_bind q)
  unfold lastQ at e4
  have el : vs.length = xs.length := by rw [dpAll_len dl, List.length_map]
  obtain ⟨w, hw, dw⟩ := dpAll_get (d := e x) dl (by rw [List.getElem?_map, e4]; rfl)
  obtain ⟨A2, a2, n2⟩ := md F H xs.dropLast vs.dropLast (.refl a.fh) (by
    rw [List.map_dropLast]
    exact dpAll_dropLast dl)
  obtain ⟨A3, a3, n3⟩ := a2.setF (.refl a2.fh) dw (lt_some (some_set hj))
  refine ⟨_, e1, .inl ⟨rfl, vs, .of hl⟩, l, vs, w, rfl, rfl, hl, by rw [el]; exact hw, ?_⟩
  exact (hu x _).run F _ _ A3 a3 D (Post.from (n2.trans n3) k3)⟩

/-! ### xs[::-1] -/
theorem dpAll_revL {F : Hp} : ∀ {vs : List V} {ds : List PyData}, DpAll K F vs ds → DpAll K F vs.reverse ds.reverse
  | _, _, .nil => .nil
  | _, _, .cons h t => by
    rw [List.reverse_cons, List.reverse_cons]
    exact dpAll_app (dpAll_revL t) (.cons h .nil)
theorem XO.revL {e : Enc ι} {m : Res (List ι)} (h : XB K mg W S te (vL e) m) : XO K mg W S (tRevL K te) (ow (fz e)) (m.bind fun xs => .ok xs.reverse) := fun F H σ A a Q q =>
  h F H σ A a _ ((Post.of_bind q).imp (fun xs k v F1 H1 p1 u1 => by
    obtain ⟨b, vs, rfl, g1, g2⟩ := u1
    refine ⟨b, vs, rfl, g1, fun p hp => newL (xs := xs.reverse) p1.fh ?_ hp fun w F' H' Av p u fr => k w F' H' Av (p1.trans p) u (fr.pu p1)⟩
    rw [List.map_reverse]
    exact dpAll_revL g2) fun _ z => z)

/-! ### borrowing: a value without lists, made while an owned list stands still -/
mutual
def noLst : PyData → Bool
  | .list _ => false
  | .tuple xs => noLstAll xs
  | .dict _ => false
  | _ => true
def noLstAll : List PyData → Bool
  | [] => true
  | x :: xs => noLst x && noLstAll xs
end
mutual
theorem dp_less {F F' : Hp} (k : ∀ z, F' z = F z ∨ ∃ vs, F z = some (.lst vs)) : ∀ {v : V} {d : PyData}, Dp K F v d → noLst d = true → Dp K F' v d
  | _, _, .non, _ => .non
  | _, _, .bl b, _ => .bl b
  | _, _, .int i, _ => .int i
  | _, _, .str x, _ => .str x
  | _, _, .lst h t, e => by
    simp only [noLst] at e
    cases e
  | _, _, .tup (a := a) (xs := xs) h t, e => by
    simp only [noLst] at e
    refine .tup ?_ (dpAll_less k t e)
    rcases h with h | h
    · refine .inl ?_
      have key : ∀ o, F a = some o → (∀ vs, o ≠ .lst vs) → F' a = some o := fun o h1 h2 => by
        rcases k a with z | ⟨vs, z⟩
        · rw [z, h1]
        · rw [h1] at z
          exact absurd (Option.some.inj z) (h2 vs)
      rcases h with h | ⟨o, h⟩
      · exact .inl (key _ h fun vs z => by cases z)
      · exact .inr ⟨o, key _ h fun vs z => by cases z⟩
    · exact .inr h
theorem dpAll_less {F F' : Hp} (k : ∀ z, F' z = F z ∨ ∃ vs, F z = some (.lst vs)) : ∀ {vs : List V} {ds : List PyData}, DpAll K F vs ds → noLstAll ds = true → DpAll K F' vs ds
  | _, _, .nil, _ => .nil
  | _, _, .cons h t, e => by
    simp only [noLstAll, Bool.and_eq_true] at e
    exact .cons (dp_less k h e.1) (dpAll_less k t e.2)
end
/-- all objects of the footprint are lists -/
def Lsts (r : Rp ι) : Prop := ∀ (K : Fg) (F H : Hp) (v : V) (x : ι) (A : List Addr), r.ok K F H v x A → ∀ a ∈ A, ∃ vs, H a = some (.lst vs)
theorem lsts_fz {e : Enc ι} : Lsts (fz e) := fun _ _ _ _ _ _ h a ha => by
  rw [h.1] at ha
  cases ha
theorem lstsL {r : Rp ι} (hr : Lsts r) {F H : Hp} : ∀ {vs : List V} {xs : List ι} {A : List Addr}, OkL r K F H vs xs A → ∀ a ∈ A, ∃ vs, H a = some (.lst vs)
  | [], [], _, h => fun a ha => by
    have h' : _ = [] := h
    rw [h'] at ha
    cases ha
  | v :: vs, x :: xs, _, ⟨A1, A2, e, h1, h2⟩ => fun a ha => by
    subst e
    rcases List.mem_append.mp ha with z | z
    · exact hr _ _ _ _ _ _ h1 a z
    · exact lstsL hr h2 a z
  | [], _ :: _, _, h => h.elim
  | _ :: _, [], _, h => h.elim
theorem lsts_ow {r : Rp ι} (hr : Lsts r) : Lsts (ow r) := fun _ _ _ _ _ _ ⟨a, vs, A', h1, h2, h3, h4⟩ b hb => by
  subst h3
  rcases List.mem_cons.mp hb with z | z
  · subst z
    exact ⟨vs, h2⟩
  · exact lstsL hr h4 b z
theorem XB.borrow {i : Nat} {r : Rp ι} {e : Enc ι} {f : Enc γ} {x : ι} {m : Res γ} (hs : S[i]? = some (.val r x)) (l : Frz r e) (ll : Lsts r) (nf : ∀ y, noLst (f y) = true) (h : XB K mg W (S.set i (.val (fz e) x)) te (vD f) m) : XB K mg W S te (vD f) m.noer := fun F H σ A a Q q => by
  obtain ⟨o, A1, Ai, A2, e1, e2, e3, e4⟩ := a.sl.at hs
  cases o with
  | none => exact e3.elim
  | some v =>
    have d := a.sl.dom
    subst e2
    have fo := a.fo
    have n1 := List.nodup_append.mp a.nd
    have n2 := List.nodup_append.mp n1.2.1
    have inI : ∀ z ∈ Ai, z ∈ A1 ++ (Ai ++ A2) := fun z h => List.mem_append_right _ (List.mem_append_left _ h)
    have hf : Sub F (addF F H Ai) := sub_add fun z hz => fo z (inI z hz)
    have hv : Dp K (addF F H Ai) v (e x) := l _ _ _ _ _ _ _ e3 hf fun z hz => addF_in hz
    have key := e4 (addF F H Ai) H (some v) (.val (fz e) x) [] hf (fun _ _ => rfl) ⟨rfl, hv⟩
    rw [set_self e1] at key
    have sub : List.Sublist (A1 ++ ([] ++ A2)) (A1 ++ (Ai ++ A2)) := List.Sublist.append (.refl _) (List.sublist_append_right _ _)
    have notI : ∀ z, z ∈ A1 ++ ([] ++ A2) → z ∉ Ai := fun z hz hi => by
      rcases List.mem_append.mp hz with h | h
      · exact n1.2.2 z h z (List.mem_append_left _ hi) rfl
      · exact n2.2.2 z hi z (by simpa using h) rfl
    have fh1 : Sub (addF F H Ai) H := fun z o hz => by
      by_cases hi : z ∈ Ai
      · rw [addF_in hi] at hz
        exact hz
      · rw [addF_out hi] at hz
        exact a.fh z o hz
    have lst : ∀ z ∈ Ai, ∃ vs, H z = some (.lst vs) := ll _ _ _ _ _ _ e3
    refine h (addF F H Ai) H σ _ ⟨fh1, a.nd.sublist sub, fun z hz => ?_, key⟩ Q ?_
    · rw [addF_out (notI z hz)]
      exact fo z (sub.mem hz)
    · cases em : m with
      | er z =>
        rw [em] at q
        exact False.elim q
      | bad =>
        rw [em] at q
        exact False.elim q
      | ok y =>
        rw [em] at q
        have q' : ∀ v F' H', Pu F H F' H' → (vD f).ok K F' H' v y → Q v H' := q
        intro w F' H' p u
        classical
        have hz1 : ∀ z ∈ Ai, F' z = H z := fun z hz => (p.fo z (d z (inI z hz))).trans (addF_in hz)
        refine q' w (fun z => if z ∈ Ai then none else F' z) H' ⟨fun z o hz => ?_, p.hh, fun z o hz => ?_, fun z hz => ?_⟩ (dp_less (fun z => ?_) u (nf y))
        · have hn : z ∉ Ai := fun k => by
            rw [fo z (inI z k)] at hz
            cases hz
          show (if z ∈ Ai then none else F' z) = some o
          rw [if_neg hn]
          exact p.ff z o (hf z o hz)
        · have hz' : (if z ∈ Ai then none else F' z) = some o := hz
          by_cases hn : z ∈ Ai
          · rw [if_pos hn] at hz'
            cases hz'
          · rw [if_neg hn] at hz'
            exact p.fh z o hz'
        · show (if z ∈ Ai then none else F' z) = F z
          by_cases hn : z ∈ Ai
          · rw [if_pos hn, fo z (inI z hn)]
          · rw [if_neg hn, p.fo z hz, addF_out hn]
        · show (if z ∈ Ai then none else F' z) = F' z ∨ _
          by_cases hn : z ∈ Ai
          · obtain ⟨vs, e⟩ := lst z hn
            exact .inr ⟨vs, by rw [hz1 z hn, e]⟩
          · exact .inl (if_neg hn)

/-! ### min(xs, default=None) -/
def rMinN (K : Fg) : List V → List V → Hp → VK → Prop := fun vs ws H Q => ∃ (a : Addr) (xs : List V) (ds : List PyData), vs = [.ref a] ∧ ws = [.non] ∧ SqL K H a xs ∧ DpAll K H xs ds ∧ PySem.W.AlikeAll ds ∧ PyData.depthAll ds ≤ 64 ∧ (ds = [] → Q .non H) ∧ ∀ y ys (i : Nat) v, ds = y :: ys → xs[i]? = some v → ds[i]? = some (PySem.W.minD y ys) → Q v H
theorem cr_minN {X : Cx} (hc : X.calm = true) (hu : X.A.units + 100 < cLine) : CallRK X (.builtin "min") [Str.ofString "default"] (rMinN X.K) := by
  intro pins s σ H vs zs us ws Q I r rz h
  obtain ⟨a, xs, ds, rfl, rfl, hs, hd, al, dp, q0, q⟩ := h
  obtain ⟨its, rv, hl, _⟩ := I.list hs
  obtain ⟨as, rs⟩ := Dp.readsAll I ds xs its hd rv
  rw [Vals.ref1 r]
  obtain ⟨w, rfl, rw'⟩ := vals1 rz
  cases rw'
  refine PySem.W.min_list_default (I.ok.hd hc) hl.isList (by simpa using rs) al (by omega) (fun e h' tk hk => ⟨.non, H, I.kept hk, rfl, q0 e⟩) fun y ys i v h' tk bs e hi r hk => ?_
  have hi' : its[i]? = some v := by simpa using hi
  obtain ⟨z, e1, e2⟩ := vals_back rv hi'
  have hl2 : i < ds.length := by
    rw [← readsAll_length rs]
    exact (List.getElem?_eq_some_iff.mp hi').1
  obtain ⟨v', bs', g1, g2⟩ := readsAll_get (i := i) (d := ds[i]) rs (by simp [hl2])
  rw [hi'] at g1
  cases g1
  have e3 := reads_one (PyProof.Rows.Reads.keeps hk g2) r
  exact ⟨z, H, I.kept hk, e2, q y ys i z e e1 (by rw [List.getElem?_eq_getElem hl2, e3])⟩
@[irreducible] def minN (lt : ι → ι → Bool) (xs : List ι) : Option ι := extL lt false xs
theorem XB.minN [DecidableEq ι] {e : Enc ι} [Ordl e] {m : Res (List ι)} (h : XB K mg W S ta (TP.vL e) m) (hd : Law.dep e ≤ 64 := by decide) : XB K mg W S (tCKw (rMinN K) (tCons ta tNil) (tCons (tC .non) tNil)) (vD (eO e)) (m.bind fun xs => .ok (TP.minN (Ordl.lt e) xs)) := fun F H σ A a Q q =>
  h F H σ A a _ ((Post.of_bind q).imp (fun xs k v F1 H1 p1 u1 => by
    obtain ⟨b, vs, rfl, g1, g2⟩ := u1
    refine ⟨b, vs, xs.map e, rfl, rfl, g1, dpAll_sub p1.fh g2, ⟨?_, ?_⟩, Nat.le_trans (depthAll_map (e := e) xs) hd, fun z => ?_, fun y ys i v e1 e2 e3 => ?_⟩
    · intro d hd d' hd'
      obtain ⟨b, _, rfl⟩ := List.mem_map.mp hd
      obtain ⟨b', _, rfl⟩ := List.mem_map.mp hd'
      exact Ordl.alike b b'
    · intro d hd
      obtain ⟨b, _, rfl⟩ := List.mem_map.mp hd
      exact Ordl.notNone b
    · have z' : xs = [] := List.map_eq_nil_iff.mp z
      subst z'
      refine k .non F1 H1 p1 ?_
      unfold TP.minN
      exact .non
    · cases xs with
      | nil => cases e1
      | cons x xs =>
        rw [List.map_cons] at e1
        obtain ⟨rfl, rfl⟩ := List.cons.inj e1
        have em := ext_map (e := e) false xs x
        rw [show PySem.W.minD (e x) (xs.map e) = extD false (e x) (xs.map e) from rfl, em] at e3
        obtain ⟨w, h3, h4⟩ := dpAll_get g2 e3
        rw [e2] at h3
        cases h3
        refine k v F1 H1 p1 ?_
        unfold TP.minN
        exact h4) fun _ z => z)
end
end TP

set_option Elab.async false
set_option linter.all false
set_option maxRecDepth 100000
set_option maxHeartbeats 4000000
set_option autoImplicit false
/-! TP, part 8: lists within owned lists. -/
namespace TP
open PySem PySem.Spec L2

section
variable {K : Fg} {mg : Str → Option Value} {W : WX} {S S' : List Sl} {te ta tb tc : TE} {tt : TT} {t t1 t2 u : TS}
variable {α β τ τ1 ι γ : Type} {R : Rp α} {B : β → List Sl} {N : Option (τ → List Sl)}

theorem OkL.at {r : Rp ι} {F H : Hp} : ∀ {vs : List V} {xs : List ι} {A : List Addr} {k : Nat} {x : ι}, OkL r K F H vs xs A → xs[k]? = some x → ∃ w A1 Ak A2, vs[k]? = some w ∧ A = A1 ++ (Ak ++ A2) ∧ r.ok K F H w x Ak ∧
    ∀ (F' H' : Hp) (x' : ι) (Ak' : List Addr), Sub F F' → (∀ a, a ∈ A1 ∨ a ∈ A2 → H' a = H a) → r.ok K F' H' w x' Ak' → OkL r K F' H' vs (xs.set k x') (A1 ++ (Ak' ++ A2))
  | [], [], _, _, _, _, e => by simp at e
  | v :: vs, y :: ys, _, 0, x, ⟨A1, A2, e, h1, h2⟩, z => by
    simp at z
    subst z e
    exact ⟨v, [], A1, A2, rfl, rfl, h1, fun F' H' x' Ak' sf sh h' => ⟨Ak', A2, rfl, h', h2.mono sf fun a ha => sh a (.inr ha)⟩⟩
  | v :: vs, y :: ys, _, k + 1, x, ⟨A1, A2, e, h1, h2⟩, z => by
    obtain ⟨w, B1, Bk, B2, q1, q2, q3, q4⟩ := OkL.at (k := k) (x := x) h2 (by simpa using z)
    subst e q2
    refine ⟨w, A1 ++ B1, Bk, B2, by simpa using q1, by rw [List.append_assoc], q3, fun F' H' x' Ak' sf sh h' => ?_⟩
    rw [List.append_assoc]
    exact ⟨A1, _, rfl, r.mono h1 sf fun a ha => sh a (.inl (List.mem_append_left _ ha)), q4 F' H' x' Ak' sf (fun a ha => sh a (ha.imp (fun z => List.mem_append_right _ z) fun z => z)) h'⟩
  | [], _ :: _, _, _, _, h, _ => h.elim
  | _ :: _, [], _, _, _, h, _ => h.elim

/-- the value v, a part of what the slots own, may become another of its kind -/
def Mod (K : Fg) (F H : Hp) (σ : L2.St) (A : List Addr) (r : Rp ι) (v : V) (Ai : List Addr) (Sf : ι → List Sl) : Prop :=
  ∀ (F' H' : Hp) (x' : ι) (Ai' : List Addr), Sub F F' → Sub F' H' → (∀ z o, H z = some o → z ∉ Ai → H' z = some o) → (∀ z, H z ≠ none → z ∉ Ai → F' z = F z) → (∀ z ∈ Ai', z ∈ Ai ∨ z ∉ A) → Ai'.Nodup → (∀ z ∈ Ai', F' z = none) → (∀ z, H z ≠ none → H' z ≠ none) → r.ok K F' H' v x' Ai' →
      ∃ A', At K F' H' σ (Sf x') A' ∧ ∀ z ∈ A', z ∈ A ∨ z ∈ Ai'
structure Part (K : Fg) (F H : Hp) (σ : L2.St) (A : List Addr) (r : Rp ι) (x : ι) (v : V) (Ai : List Addr) (Sf : ι → List Sl) : Prop where
  dom : ∀ z ∈ A, H z ≠ none
  inA : ∀ z ∈ Ai, z ∈ A
  nd : Ai.Nodup
  fo : ∀ z ∈ Ai, F z = none
  ok : r.ok K F H v x Ai
  mod : Mod K F H σ A r v Ai Sf
theorem At.part {F H : Hp} {σ : L2.St} {A : List Addr} {i : Nat} {r : Rp ι} {x : ι} (a : At K F H σ S A) (hs : S[i]? = some (.val r x)) : ∃ v Ai, σ[i]? = some (some v) ∧ Part K F H σ A r x v Ai fun x' => S.set i (.val r x') := by
  obtain ⟨v, Ai, e1, inA, ndI, foI, hr, md⟩ := a.modX hs
  exact ⟨v, Ai, e1, a.sl.dom, inA, ndI, foI, hr, fun F' H' x' Ai' => md F' H' _ r x' Ai'⟩
/-- an item of an owned list -/
theorem Part.item {F H : Hp} {σ : L2.St} {A : List Addr} {ρ : Rp (List ι)} {r : Rp ι} [Own ρ r] {xs : List ι} {v : V} {Ai : List Addr} {Sf : List ι → List Sl} (p : Part K F H σ A ρ xs v Ai Sf) {k : Nat} {x : ι} (hk : xs[k]? = some x) :
    ∃ l vs w Ak, v = .ref l ∧ H l = some (.lst vs) ∧ vs.length = xs.length ∧ vs[k]? = some w ∧ Part K F H σ A r x w Ak fun x' => Sf (xs.set k x') := by
  obtain ⟨l, vs, A', e2, hl, e3, okl⟩ := Own.to p.ok
  subst e2 e3
  obtain ⟨w, A1, Ak, A2, h1, e4, h2, h3⟩ := okl.at hk
  subst e4
  have nd := List.nodup_cons.mp p.nd
  have n1 := List.nodup_append.mp nd.2
  have n2 := List.nodup_append.mp n1.2.1
  have d := okl.dom
  have in1 : ∀ z ∈ A1, z ∈ l :: (A1 ++ (Ak ++ A2)) := fun z h => List.mem_cons_of_mem _ (List.mem_append_left _ h)
  have inK : ∀ z ∈ Ak, z ∈ l :: (A1 ++ (Ak ++ A2)) := fun z h => List.mem_cons_of_mem _ (List.mem_append_right _ (List.mem_append_left _ h))
  have in2 : ∀ z ∈ A2, z ∈ l :: (A1 ++ (Ak ++ A2)) := fun z h => List.mem_cons_of_mem _ (List.mem_append_right _ (List.mem_append_right _ h))
  have noK1 : ∀ z ∈ A1, z ∉ Ak := fun z h k => n1.2.2 z h z (List.mem_append_left _ k) rfl
  have noK2 : ∀ z ∈ A2, z ∉ Ak := fun z h k => n2.2.2 z k z h rfl
  have noKl : l ∉ Ak := fun h => nd.1 (List.mem_append_right _ (List.mem_append_left _ h))
  have ln : H l ≠ none := by
    rw [hl]
    exact fun z => nomatch z
  have dA : ∀ z, z ∈ A1 ∨ z ∈ A2 → H z ≠ none := fun z hz => d z (hz.elim (fun h => List.mem_append_left _ h) fun h => List.mem_append_right _ (List.mem_append_right _ h))
  refine ⟨l, vs, w, Ak, rfl, hl, okL_len okl, h1, p.dom, fun z hz => p.inA z (inK z hz), n2.1, fun z hz => p.fo z (inK z hz), h2, fun F' H' x' Ak' sf sh hh hf aa nd' fo' hs' hr => ?_⟩
  have stay : ∀ z, z ∈ A1 ∨ z ∈ A2 → H' z = H z := fun z hz => by
    cases q : H z with
    | none => exact absurd q (dA z hz)
    | some o => exact hh z o q (hz.elim (noK1 z) (noK2 z))
  have apart : ∀ z, z ∈ A1 ∨ z ∈ A2 → z ∉ Ak' := fun z hz k => by
    rcases aa z k with h | h
    · exact hz.elim (fun q => noK1 z q h) (fun q => noK2 z q h)
    · exact h (hz.elim (fun q => p.inA z (in1 z q)) fun q => p.inA z (in2 z q))
  have apl : l ∉ Ak' := fun k => by
    rcases aa l k with h | h
    · exact noKl h
    · exact h (p.inA l List.mem_cons_self)
  refine (fun z : ∃ A', At K F' H' σ (Sf (xs.set k x')) A' ∧ ∀ z ∈ A', z ∈ A ∨ z ∈ l :: (A1 ++ (Ak' ++ A2)) => ?_) (p.mod F' H' (xs.set k x') (l :: (A1 ++ (Ak' ++ A2))) sf sh (fun z o h hn => hh z o h fun k => hn (inK z k)) (fun z h hn => hf z h fun k => hn (inK z k)) (fun z hz => ?_) (List.nodup_cons.mpr ⟨fun h => ?_, List.nodup_append.mpr ⟨n1.1, List.nodup_append.mpr ⟨nd', n2.2.1, fun y hy w hw q => ?_⟩, fun y hy w hw q => ?_⟩⟩) (fun z hz => ?_) hs' (Own.back p.ok ⟨l, vs, _, rfl, hh l _ hl noKl, rfl, h3 F' H' x' Ak' sf stay hr⟩))
  · obtain ⟨A', g1, g3⟩ := z
    refine ⟨A', g1, fun z hz => ?_⟩
    rcases g3 z hz with h | h
    · exact .inl h
    · rcases List.mem_cons.mp h with h | h
      · exact .inl (p.inA z (by rw [h]; exact List.mem_cons_self))
      · rcases List.mem_append.mp h with h | h
        · exact .inl (p.inA z (in1 z h))
        · rcases List.mem_append.mp h with h | h
          · exact .inr h
          · exact .inl (p.inA z (in2 z h))
  · rcases List.mem_cons.mp hz with h | h
    · exact .inl (by rw [h]; exact List.mem_cons_self)
    · rcases List.mem_append.mp h with h | h
      · exact .inl (in1 z h)
      · rcases List.mem_append.mp h with h | h
        · exact (aa z h).imp (inK z) fun q => q
        · exact .inl (in2 z h)
  · rcases List.mem_append.mp h with h | h
    · exact nd.1 (List.mem_append_left _ h)
    · rcases List.mem_append.mp h with h | h
      · exact apl h
      · exact nd.1 (List.mem_append_right _ (List.mem_append_right _ h))
  · subst q
    exact apart y (.inr hw) hy
  · subst q
    rcases List.mem_append.mp hw with h | h
    · exact apart y (.inl hy) h
    · exact n1.2.2 y hy y (List.mem_append_right _ h) rfl
  · rcases List.mem_cons.mp hz with h | h
    · rw [h, hf l ln noKl]
      exact p.fo l List.mem_cons_self
    · rcases List.mem_append.mp h with h | h
      · rw [hf z (dA z (.inl h)) (noK1 z h)]
        exact p.fo z (in1 z h)
      · rcases List.mem_append.mp h with h | h
        · exact fo' z h
        · rw [hf z (dA z (.inr h)) (noK2 z h)]
          exact p.fo z (in2 z h)
/-- .. behind a step that only lays -/
theorem Part.pu {F H F1 H1 : Hp} {σ : L2.St} {A : List Addr} {r : Rp ι} {x : ι} {v : V} {Ai : List Addr} {Sf : ι → List Sl} (p : Part K F H σ A r x v Ai Sf) (q : Pu F H F1 H1) : Part K F1 H1 σ A r x v Ai Sf where
  dom := fun z hz => ne_none_sub q.hh (p.dom z hz)
  inA := p.inA
  nd := p.nd
  fo := fun z hz => (q.fo z (r.dom p.ok z hz)).trans (p.fo z hz)
  ok := r.mono p.ok q.ff fun z hz => sub_eq q.hh (r.dom p.ok z hz)
  mod := fun F' H' x' Ai' sf sh hh hf aa nd fo hs hr => by
    exact p.mod F' H' x' Ai' (q.ff.trans sf) sh (fun z o h hn => hh z o (q.hh z o h) hn) (fun z h hn => (hf z (ne_none_sub q.hh h) hn).trans (q.fo z h)) aa nd fo (fun z h => hs z (ne_none_sub q.hh h)) hr
/-- the objects there but for the place itself, and a new list at it -/
theorem Part.put {F H F1 H1 : Hp} {σ : L2.St} {A : List Addr} {ρ : Rp (List ι)} {r : Rp ι} [Own ρ r] {xs ys : List ι} {v : V} {Ai : List Addr} {Sf : List ι → List Sl} (p : Part K F H σ A ρ xs v Ai Sf) (q : Pu F H F1 H1) {l : Addr} (hv : v = .ref l) {ws : List V} {A2 : List Addr}
    (sub : ∀ z ∈ A2, (z ∈ Ai ∧ z ≠ l) ∨ z ∉ A) (nd : A2.Nodup) (fo : ∀ z ∈ A2, F1 z = none) (ok : OkL r K F1 H1 ws ys A2) : ∃ A', At K F1 (upd H1 l (.lst ws)) σ (Sf ys) A' ∧ (∀ z ∈ A', z ∈ A ∨ z ∈ A2) ∧ (∀ z o, H z = some o → z ∉ A → upd H1 l (.lst ws) z = some o) ∧ ∀ z, H z ≠ none → upd H1 l (.lst ws) z ≠ none := by
  obtain ⟨l', vs, A', e2, hl, e3, okl⟩ := Own.to p.ok
  subst hv e3
  cases e2
  have ln : H l ≠ none := by
    rw [hl]
    exact fun z => nomatch z
  have lA : l ∈ A := p.inA l List.mem_cons_self
  have nl : ∀ z ∈ A2, z ≠ l := fun z hz => (sub z hz).elim (fun h => h.2) fun h k => h (k ▸ lA)
  have hs : ∀ z, H z ≠ none → upd H1 l (.lst ws) z ≠ none := fun z h => by
    by_cases k : z = l
    · rw [k, upd_same]
      exact fun z => nomatch z
    · rw [upd_ne k]
      exact ne_none_sub q.hh h
  obtain ⟨A3, h1, h2⟩ := p.mod F1 (upd H1 l (.lst ws)) ys (l :: A2) q.ff (q.fh.mut ((q.fo l ln).trans (p.fo l List.mem_cons_self))) (fun z o h hn => by
      rw [upd_ne (fun k => hn (by rw [k]; exact List.mem_cons_self))]
      exact q.hh z o h) (fun z h _ => q.fo z h) (fun z hz => by
      rcases List.mem_cons.mp hz with h | h
      · exact .inl (by rw [h]; exact List.mem_cons_self)
      · exact (sub z h).imp (fun k => k.1) fun k => k) (List.nodup_cons.mpr ⟨fun h => nl l h rfl, nd⟩) (fun z hz => by
      rcases List.mem_cons.mp hz with h | h
      · rw [h, q.fo l ln]
        exact p.fo l List.mem_cons_self
      · exact fo z h) hs (Own.back p.ok ⟨l, ws, A2, rfl, upd_same, rfl, ok.mono (.refl _) fun z hz => upd_ne (nl z hz)⟩)
  refine ⟨A3, h1, fun z hz => (h2 z hz).elim .inl fun h => ?_, fun z o h hn => ?_, hs⟩
  · rcases List.mem_cons.mp h with h | h
    · exact .inl (by rw [h]; exact lA)
    · exact .inr h
  · rw [upd_ne fun k => hn (by rw [k]; exact lA)]
    exact q.hh z o h
theorem Part.putN {F H F1 H1 : Hp} {σ : L2.St} {A : List Addr} {ρ : Rp (List ι)} {r : Rp ι} [Own ρ r] {xs ys : List ι} {v : V} {Ai : List Addr} {Sf : List ι → List Sl} (p : Part K F H σ A ρ xs v Ai Sf) (q : Pu F H F1 H1) {l : Addr} (hv : v = .ref l) {ws : List V} {A2 : List Addr}
    (sub : ∀ z ∈ A2, (z ∈ Ai ∧ z ≠ l) ∨ H z = none) (nd : A2.Nodup) (fo : ∀ z ∈ A2, F1 z = none) (ok : OkL r K F1 H1 ws ys A2) : ∃ A', At K F1 (upd H1 l (.lst ws)) σ (Sf ys) A' ∧ Nx F H A F1 (upd H1 l (.lst ws)) A' := by
  obtain ⟨A', h1, h2, h3, h4⟩ := p.put q hv (fun z hz => (sub z hz).imp (fun h => h) fun h k => p.dom z k h) nd fo ok
  exact ⟨A', h1, q.ff, h3, fun z h _ => q.fo z h, fun z hz => (h2 z hz).elim .inl fun h => (sub z h).imp (fun h => p.inA z h.1) fun h => h, h4⟩
/-- .. its items frozen -/
theorem Part.lst {F H : Hp} {σ : L2.St} {A : List Addr} {ρ : Rp (List ι)} {e : Enc ι} [Own ρ (fz e)] {xs : List ι} {v : V} {Ai : List Addr} {Sf : List ι → List Sl} (p : Part K F H σ A ρ xs v Ai Sf) : ∃ l vs, v = .ref l ∧ H l = some (.lst vs) ∧ DpAll K F vs (xs.map e) ∧
    ∀ (F1 H1 : Hp) (ys : List ι) (ws : List V), Pu F H F1 H1 → DpAll K F1 ws (ys.map e) → ∃ A', At K F1 (upd H1 l (.lst ws)) σ (Sf ys) A' ∧ Nx F H A F1 (upd H1 l (.lst ws)) A' := by
  obtain ⟨l, vs, A', e2, hl, e3, okl⟩ := Own.to p.ok
  obtain ⟨e4, dl⟩ := okL_fz okl
  exact ⟨l, vs, e2, hl, dl, fun F1 H1 ys ws q d => p.putN q e2 (A2 := []) (fun _ z => (by cases z)) List.nodup_nil (fun _ z => (by cases z)) (okL_of d)⟩

/-! ### places: a name, an item of a place -/
variable {κ ζ : Type}
def XP (K : Fg) (mg : Str → Option Value) (W : WX) (S : List Sl) (te : TE) {ι κ ζ : Type} (r : Rp ι) (m : Res (ι × κ)) (up : κ → ι → ζ) (Sr : ζ → List Sl) : Prop :=
  ∀ F H σ A, At K F H σ S A → ∀ Q : VK, Post m (fun p => ∀ v F' H' Ai, Pu F H F' H' → Part K F' H' σ A r p.1 v Ai (fun x' => Sr (up p.2 x')) → Q v H') (XEr K mg W F H σ) → te σ H Q
theorem XP.var {i : Nat} {r : Rp ι} {x : ι} (h : S[i]? = some (.val r x)) : XP K mg W S (tVar i) r (.ok (x, ())) (fun (_ : Unit) x' => x') (fun x' => S.set i (.val r x')) := fun F H σ A a Q q => by
  obtain ⟨v, Ai, e1, p⟩ := a.part h
  exact ⟨v, e1, q v F H Ai (.refl a.fh) p⟩
@[irreducible] def itQ {ι : Type} (xs : List ι) (j : Int) : Option (ι × Nat) := (ixN xs.length j).bind fun k => (xs[k]?).map fun x => (x, k)
theorem XP.item {ρ : Rp (List ι)} {r : Rp ι} [Own ρ r] {m : Res (List ι × κ)} {mi : Res Int} {up : κ → List ι → ζ} {Sr : ζ → List Sl} (h : XP K mg W S te ρ m up Sr) (hi : XB K mg W S ta (vD eI) mi) :
    XP K mg W S (tOp (rIxL K) te ta) r (m.bind fun p => mi.bind fun j => (chk (itQ p.1 j)).bind fun q => .ok (q.1, (p.2, p.1, q.2))) (fun c x' => up c.1 (c.2.1.set c.2.2 x')) Sr := fun F H σ A a Q q =>
  h F H σ A a _ ((Post.of_bind q).imp (fun p k v F1 H1 Ai p1 part => hi F1 H1 σ A (a.pu p1) _ ((Post.of_bind k).imp (fun j k2 jv F2 H2 p2 u2 => by
    obtain ⟨z, ez, k3⟩ := Post.of_chk (Post.of_bind k2)
    have part2 := part.pu p2
    unfold itQ at ez
    cases c : ixN p.1.length j with
    | none =>
      rw [c] at ez
      cases ez
    | some n =>
      rw [c, Option.bind_some] at ez
      cases g : p.1[n]? with
      | none =>
        rw [g] at ez
        cases ez
      | some y =>
        rw [g] at ez
        cases ez
        obtain ⟨l, vs, w, Ak, rfl, hl, el, hw, pk⟩ := part2.item g
        refine ⟨l, vs, j, w, rfl, dp_int u2, .of hl, ?_, k3 w F2 H2 Ak (p1.trans p2) pk⟩
        unfold atI
        rw [el, c]
        exact hw) fun e z => z.pu p1)) fun e z => z)

/-! ### changes at a place -/
theorem part_ty {F H : Hp} {σ : L2.St} {A : List Addr} {ρ : Rp (List ι)} {r : Rp ι} [Own ρ r] {xs : List ι} {v : V} {Ai : List Addr} {Sf : List ι → List Sl} (p : Part K F H σ A ρ xs v Ai Sf) : tyV K "list" v H := by
  obtain ⟨l, vs, A', rfl, hl, e3, okl⟩ := Own.to p.ok
  exact .inl ⟨rfl, vs, .of hl⟩
/-- place.append(e) -/
theorem Y.mapp {ρ : Rp (List ι)} {r : Rp ι} [Own ρ r] {m : Res (List ι × κ)} {up : κ → List ι → ζ} {Sr : ζ → List Sl} {me : Res ι} {k : ζ → Res (Fl α β τ)} (h : XP K mg W S te ρ m up Sr) (he : XO K mg W S ta r me) (hu : ∀ z, Y K mg W (Sr z) u R B N (k z)) :
    Y K mg W S (tSeq (tDrop (tBM K "list" rAppend te (tCons ta tNil))) u) R B N (m.bind fun p => me.bind fun x => (chk (appQ p.1 x)).bind fun ys => (Res.ok (up p.2 ys)).bind k) := ⟨fun h => .bind fun p => .bind fun x => .bind fun ys => .bind fun z => (hu z).no h, fun F H σ A a D q =>
  h F H σ A a _ ((Post.of_bind q).imp (fun p k2 v F1 H1 Ai p1 part => by
    refine ⟨part_ty part, he F1 H1 σ A (a.pu p1) _ ((Post.of_bind k2).imp (fun x k2 w F2 H2 Av p2 hr fr => ?_) fun e z => z.x.pu p1)⟩
    obtain ⟨ys, e4, k3⟩ := Post.of_chk (Post.of_bind k2)
    unfold appQ at e4
    split at e4
    · rename_i c
      cases e4
      have part2 := part.pu p2
      obtain ⟨l, vs, A', e2, hl, e3, okl⟩ := Own.to part2.ok
      obtain ⟨l', vs', A'', e2', hl', e3', okl'⟩ := Own.to part.ok
      have fr1 : ∀ z ∈ Av, z ∉ Ai := fun z hz k => ρ.dom part.ok z k (fr.fr z hz)
      subst e3
      have ndA := List.nodup_cons.mp part2.nd
      have one : OkL r K F2 H2 [w] [x] Av := ⟨Av, [], by simp, hr, rfl⟩
      obtain ⟨A2, a2, n2⟩ := part.putN p2 e2 (ws := vs ++ [w]) (ys := p.1 ++ [x]) (A2 := A' ++ Av) (fun z hz => by
          rcases List.mem_append.mp hz with h | h
          · exact .inl ⟨List.mem_cons_of_mem _ h, fun k => ndA.1 (k ▸ h)⟩
          · exact .inr (fr.fr z h)) (List.nodup_append.mpr ⟨ndA.2, fr.nd, fun y hy z hz k => by
          subst k
          exact fr1 y hz (List.mem_cons_of_mem _ hy)⟩) (fun z hz => by
          rcases List.mem_append.mp hz with h | h
          · exact part2.fo z (List.mem_cons_of_mem _ h)
          · exact fr.fo z h) (okL_app okl one)
      refine ⟨l, vs, w, e2, rfl, hl, by rw [okL_len okl]; exact c, ?_⟩
      exact (hu _).run F2 _ σ A2 a2 D (Post.from ((p1.nx fun z hz => .inl hz).trans n2) k3)
    · cases e4) fun e z => z.x)⟩
section
variable {ρ : Rp (List ι)} {m : Res (List ι × κ)} {up : κ → List ι → ζ} {Sr : ζ → List Sl} {k : ζ → Res (Fl α β τ)}
theorem Y.mrev {e : Enc ι} [Own ρ (fz e)] (h : XP K mg W S te ρ m up Sr) (hu : ∀ z, Y K mg W (Sr z) u R B N (k z)) :
    Y K mg W S (tSeq (tDrop (tBM0 K "list" rReverse te)) u) R B N (m.bind fun p => (Res.ok (up p.2 p.1.reverse)).bind k) := ⟨fun h => .bind fun p => .bind fun z => (hu z).no h, fun F H σ A a D q =>
  h F H σ A a _ ((Post.of_bind q).imp (fun p k2 v F1 H1 Ai p1 part => by
    obtain ⟨l, vs, e2, hl, dl, md⟩ := Part.lst (e := e) part
    obtain ⟨A2, a2, n2⟩ := md F1 H1 p.1.reverse vs.reverse (.refl p1.fh) (by
      rw [List.map_reverse]
      exact dpAll_revL dl)
    exact ⟨part_ty part, l, vs, e2, rfl, hl, (hu _).run F1 _ σ A2 a2 D (Post.from ((p1.nx fun z hz => .inl hz).trans n2) k2)⟩) fun e z => z.x)⟩
theorem Y.mclear {e : Enc ι} [Own ρ (fz e)] (h : XP K mg W S te ρ m up Sr) (hu : ∀ z, Y K mg W (Sr z) u R B N (k z)) :
    Y K mg W S (tSeq (tDrop (tBM0 K "list" rClear te)) u) R B N (m.bind fun p => (Res.ok (up p.2 [])).bind k) := ⟨fun h => .bind fun p => .bind fun z => (hu z).no h, fun F H σ A a D q =>
  h F H σ A a _ ((Post.of_bind q).imp (fun p k2 v F1 H1 Ai p1 part => by
    obtain ⟨l, vs, e2, hl, dl, md⟩ := Part.lst (e := e) part
    obtain ⟨A2, a2, n2⟩ := md F1 H1 [] [] (.refl p1.fh) .nil
    exact ⟨part_ty part, l, vs, e2, rfl, hl, (hu _).run F1 _ σ A2 a2 D (Post.from ((p1.nx fun z hz => .inl hz).trans n2) k2)⟩) fun e z => z.x)⟩
theorem Y.mext {e : Enc ι} [Own ρ (fz e)] {me : Res (List ι)} (h : XP K mg W S te ρ m up Sr) (he : XB K mg W S ta (vL e) me) (hu : ∀ z, Y K mg W (Sr z) u R B N (k z)) :
    Y K mg W S (tSeq (tDrop (tBM K "list" (rExtS K) te (tCons ta tNil))) u) R B N (m.bind fun p => me.bind fun ys => (chk (catQ p.1 ys)).bind fun zs => (Res.ok (up p.2 zs)).bind k) := ⟨fun h => .bind fun p => .bind fun x => .bind fun ys => .bind fun z => (hu z).no h, fun F H σ A a D q =>
  h F H σ A a _ ((Post.of_bind q).imp (fun p k2 v F1 H1 Ai p1 part => by
    refine ⟨part_ty part, he F1 H1 σ A (a.pu p1) _ ((Post.of_bind k2).imp (fun ys k2 w F2 H2 p2 h2 => ?_) fun e z => z.x.pu p1)⟩
    obtain ⟨b, ws, rfl, g1, g2⟩ := h2
    obtain ⟨zs, e4, k3⟩ := Post.of_chk (Post.of_bind k2)
    unfold catQ at e4
    split at e4
    · rename_i c
      cases e4
      obtain ⟨l, vs, e2, hl, dl, md⟩ := Part.lst (e := e) part
      have el : vs.length = p.1.length := by rw [dpAll_len dl, List.length_map]
      have el2 : ws.length = ys.length := by rw [dpAll_len g2, List.length_map]
      obtain ⟨A2, a2, n2⟩ := md F2 H2 (p.1 ++ ys) (vs ++ ws) p2 (by
        rw [List.map_append]
        exact dpAll_app (dpAll_sub p2.ff dl) g2)
      exact ⟨l, b, vs, ws, e2, rfl, p2.hh l _ hl, g1, by rw [el, el2]; exact c, (hu _).run F2 _ σ A2 a2 D (Post.from ((p1.nx fun z hz => .inl hz).trans n2) k3)⟩
    · cases e4) fun e z => z.x)⟩
end
/-- place[i] = e, e a value of its own -/
theorem OkL.set {r : Rp ι} {F H : Hp} : ∀ {vs : List V} {xs : List ι} {A : List Addr} (k : Nat) {w : V} {x : ι} {Av : List Addr}, OkL r K F H vs xs A → k < xs.length → r.ok K F H w x Av → A.Nodup → Av.Nodup → (∀ z ∈ Av, z ∉ A) → ∃ A2, OkL r K F H (vs.set k w) (xs.set k x) A2 ∧ A2.Nodup ∧ ∀ z ∈ A2, z ∈ A ∨ z ∈ Av
  | [], [], _, _, _, _, _, _, hk, _, _, _, _ => absurd hk (Nat.not_lt_zero _)
  | v :: vs, y :: ys, _, 0, w, x, Av, ⟨A1, A2, e, h1, h2⟩, _, hr, nd, nv, ap => by
    subst e
    have n1 := List.nodup_append.mp nd
    refine ⟨Av ++ A2, ⟨Av, A2, rfl, hr, h2⟩, List.nodup_append.mpr ⟨nv, n1.2.1, fun a ha b hb q => ?_⟩, fun z hz => ?_⟩
    · subst q
      exact ap a ha (List.mem_append_right _ hb)
    · exact (List.mem_append.mp hz).elim .inr fun h => .inl (List.mem_append_right _ h)
  | v :: vs, y :: ys, _, k + 1, w, x, Av, ⟨A1, A2, e, h1, h2⟩, hk, hr, nd, nv, ap => by
    subst e
    have n1 := List.nodup_append.mp nd
    obtain ⟨A3, g1, g2, g3⟩ := OkL.set k h2 (by simpa using hk) hr n1.2.1 nv fun z hz k => ap z hz (List.mem_append_right _ k)
    refine ⟨A1 ++ A3, ⟨A1, A3, rfl, h1, g1⟩, List.nodup_append.mpr ⟨n1.1, g2, fun a ha b hb q => ?_⟩, fun z hz => ?_⟩
    · subst q
      rcases g3 a hb with h | h
      · exact n1.2.2 a ha a h rfl
      · exact ap a h (List.mem_append_left _ ha)
    · rcases List.mem_append.mp hz with h | h
      · exact .inl (List.mem_append_left _ h)
      · exact (g3 z h).imp (fun h => List.mem_append_right _ h) fun h => h
  | [], _ :: _, _, _, _, _, _, h, _, _, _, _, _ => h.elim
  | _ :: _, [], _, _, _, _, _, h, _, _, _, _, _ => h.elim
theorem Y.mset {ρ : Rp (List ι)} {r : Rp ι} [Own ρ r] {m : Res (List ι × κ)} {up : κ → List ι → ζ} {Sr : ζ → List Sl} {me : Res ι} {mi : Res Int} {k : ζ → Res (Fl α β τ)} {tv : TE} (he : XO K mg W S tv r me) (h : XP K mg W S te ρ m up Sr) (hi : XB K mg W S ta (vD eI) mi) (hu : ∀ z, Y K mg W (Sr z) u R B N (k z)) :
    Y K mg W S (tSeq (tAsg tv (gSub te ta rSetL)) u) R B N (me.bind fun x => m.bind fun p => mi.bind fun j => (chk (setQ p.1 j x)).bind fun ys => (Res.ok (up p.2 ys)).bind k) := ⟨fun h => .bind fun x => .bind fun p => .bind fun j => .bind fun ys => .bind fun z => (hu z).no h, fun F H σ A a D q => by
  refine he F H σ A a _ ((Post.of_bind q).imp (fun x k2 w F1 H1 Av p1 hr fr => h F1 H1 σ A (a.pu p1) _ ((Post.of_bind k2).imp (fun p k2 v F2 H2 Ai p2 part => hi F2 H2 σ A ((a.pu p1).pu p2) _ ((Post.of_bind k2).imp (fun j k2 jv F3 H3 p3 u3 => ?_) fun e z => (z.x.pu p1).pu p2)) fun e z => z.x.pu p1)) fun e z => z.x)
  obtain ⟨ys, e4, k3⟩ := Post.of_chk (Post.of_bind k2)
  unfold setQ at e4
  cases c : ixN p.1.length j with
  | none =>
    rw [c] at e4
    cases e4
  | some n =>
    rw [c] at e4
    cases e4
    have part3 := part.pu p3
    obtain ⟨l, vs, A', e2, hl, e3, okl⟩ := Own.to part3.ok
    have hn := (ixN_seq c).2.1
    have p23 := p2.trans p3
    have avn : ∀ z ∈ Av, z ∉ Ai := fun z hz k => a.sl.dom z (part.inA z k) (fr.fr z hz)
    subst e3
    have ndA := List.nodup_cons.mp part3.nd
    obtain ⟨A2, g1, g2, g3⟩ := OkL.set (r := r) n okl hn (r.mono hr p23.ff fun z hz => sub_eq p23.hh (r.dom hr z hz)) ndA.2 fr.nd fun z hz k => avn z hz (List.mem_cons_of_mem _ k)
    obtain ⟨A4, a4, q1, q2, q3⟩ := part3.put (.refl (((a.pu p1).pu p2).pu p3).fh) e2 (A2 := A2) (ws := vs.set n w) (ys := p.1.set n x) (fun z hz => by
        rcases g3 z hz with h | h
        · exact .inl ⟨List.mem_cons_of_mem _ h, fun k => ndA.1 (k ▸ h)⟩
        · exact .inr fun k => a.sl.dom z k (fr.fr z h)) g2 (fun z hz => by
        rcases g3 z hz with h | h
        · exact part3.fo z (List.mem_cons_of_mem _ h)
        · exact (p23.fo z (r.dom hr z h)).trans (fr.fo z h)) g1
    have p13 := p1.trans p23
    refine ⟨l, vs, j, n, e2, dp_int u3, hl, by rw [okL_len okl]; exact c, (hu _).run F3 _ σ A4 a4 D (Post.from ?_ k3)⟩
    exact ⟨p13.ff, fun z o h hn => q2 z o (p13.hh z o h) hn, fun z h _ => p13.fo z h, fun z hz => (q1 z hz).elim .inl fun h => (g3 z h).elim (fun k => .inl (part.inA z (List.mem_cons_of_mem _ k))) fun k => .inr (fr.fr z k), fun z h => q3 z (ne_none_sub p13.hh h)⟩⟩
end
end TP

set_option Elab.async false
set_option linter.all false
set_option maxRecDepth 100000
set_option maxHeartbeats 4000000
set_option autoImplicit false
/-! TP, part 9: borrowing, freezing within, loops over owned lists. -/
namespace TP
open PySem PySem.Spec L2

section
variable {K : Fg} {mg : Str → Option Value} {W : WX} {S S' : List Sl} {te ta tb tc : TE} {tt : TT} {t t1 t2 u : TS}
variable {α β τ τ1 ι γ : Type} {R : Rp α} {B : β → List Sl} {N : Option (τ → List Sl)}

/-! ### borrowing -/
/-- it does not lean on frozen lists -/
def Less (r : Rp ι) : Prop := ∀ {K : Fg} {F F' H : Hp} {v : V} {x : ι} {A : List Addr}, (∀ z, F' z = F z ∨ ∃ vs, F z = some (.lst vs)) → r.ok K F H v x A → r.ok K F' H v x A
theorem less_fz {e : Enc ι} (nf : ∀ y, noLst (e y) = true) : Less (fz e) := fun k h => ⟨h.1, dp_less k h.2 (nf _)⟩
theorem less_okL {r : Rp ι} (h : Less r) {F F' H : Hp} (k : ∀ z, F' z = F z ∨ ∃ vs, F z = some (.lst vs)) : ∀ {vs : List V} {xs : List ι} {A : List Addr}, OkL r K F H vs xs A → OkL r K F' H vs xs A
  | [], [], _, h => h
  | v :: vs, x :: xs, _, ⟨A1, A2, e, h1, h2⟩ => ⟨A1, A2, e, h k h1, less_okL h k h2⟩
  | [], _ :: _, _, h => h.elim
  | _ :: _, [], _, h => h.elim
theorem less_ow {r : Rp ι} (h : Less r) : Less (ow r) := fun k ⟨a, vs, A', h1, h2, h3, h4⟩ => ⟨a, vs, A', h1, h2, h3, less_okL h k h4⟩
theorem lsts_pin {r : Rp ι} {w : V} (h : Lsts r) : Lsts (pin w r) := fun _ _ _ _ _ _ k => h _ _ _ _ _ _ k.2
theorem At.lend {F H : Hp} {σ : L2.St} {A : List Addr} {i : Nat} {r : Rp ι} {e : Enc ι} {x : ι} (a : At K F H σ S A) (hs : S[i]? = some (.val r x)) (l : Frz r e) (ll : Lsts r) : ∃ F1 A', At K F1 H σ (S.set i (.val (fz e) x)) A' ∧
    ∀ F' H', Pu F1 H F' H' → ∃ F2, Pu F H F2 H' ∧ (∀ z, F2 z = F' z ∨ ∃ vs, F' z = some (.lst vs)) ∧ ∀ z, F' z = none → F2 z = none := by
  obtain ⟨o, A1, Ai, A2, e1, e2, e3, e4⟩ := a.sl.at hs
  cases o with
  | none => exact e3.elim
  | some v =>
    have d := a.sl.dom
    subst e2
    have fo := a.fo
    have n1 := List.nodup_append.mp a.nd
    have n2 := List.nodup_append.mp n1.2.1
    have inI : ∀ z ∈ Ai, z ∈ A1 ++ (Ai ++ A2) := fun z h => List.mem_append_right _ (List.mem_append_left _ h)
    have hf : Sub F (addF F H Ai) := sub_add fun z hz => fo z (inI z hz)
    have hv : Dp K (addF F H Ai) v (e x) := l _ _ _ _ _ _ _ e3 hf fun z hz => addF_in hz
    have key := e4 (addF F H Ai) H (some v) (.val (fz e) x) [] hf (fun _ _ => rfl) ⟨rfl, hv⟩
    rw [set_self e1] at key
    have sub : List.Sublist (A1 ++ ([] ++ A2)) (A1 ++ (Ai ++ A2)) := List.Sublist.append (.refl _) (List.sublist_append_right _ _)
    have notI : ∀ z, z ∈ A1 ++ ([] ++ A2) → z ∉ Ai := fun z hz hi => by
      rcases List.mem_append.mp hz with h | h
      · exact n1.2.2 z h z (List.mem_append_left _ hi) rfl
      · exact n2.2.2 z hi z (by simpa using h) rfl
    have fh1 : Sub (addF F H Ai) H := fun z o hz => by
      by_cases hi : z ∈ Ai
      · rw [addF_in hi] at hz
        exact hz
      · rw [addF_out hi] at hz
        exact a.fh z o hz
    have lst : ∀ z ∈ Ai, ∃ vs, H z = some (.lst vs) := ll _ _ _ _ _ _ e3
    refine ⟨addF F H Ai, _, ⟨fh1, a.nd.sublist sub, fun z hz => ?_, key⟩, fun F' H' p => ?_⟩
    · rw [addF_out (notI z hz)]
      exact fo z (sub.mem hz)
    · classical
      have hz1 : ∀ z ∈ Ai, F' z = H z := fun z hz => (p.fo z (d z (inI z hz))).trans (addF_in hz)
      refine ⟨fun z => if z ∈ Ai then none else F' z, ⟨fun z o hz => ?_, p.hh, fun z o hz => ?_, fun z hz => ?_⟩, fun z => ?_, fun z hz => ?_⟩
      · have hn : z ∉ Ai := fun k => by
          rw [fo z (inI z k)] at hz
          cases hz
        show (if z ∈ Ai then none else F' z) = some o
        rw [if_neg hn]
        exact p.ff z o (hf z o hz)
      · have hz' : (if z ∈ Ai then none else F' z) = some o := hz
        by_cases hn : z ∈ Ai
        · rw [if_pos hn] at hz'
          cases hz'
        · rw [if_neg hn] at hz'
          exact p.fh z o hz'
      · show (if z ∈ Ai then none else F' z) = F z
        by_cases hn : z ∈ Ai
        · rw [if_pos hn, fo z (inI z hn)]
        · rw [if_neg hn, p.fo z hz, addF_out hn]
      · show (if z ∈ Ai then none else F' z) = F' z ∨ _
        by_cases hn : z ∈ Ai
        · obtain ⟨vs, e⟩ := lst z hn
          exact .inr ⟨vs, by rw [hz1 z hn, e]⟩
        · exact .inl (if_neg hn)
      · show (if z ∈ Ai then none else F' z) = none
        by_cases hn : z ∈ Ai
        · exact if_pos hn
        · rw [if_neg hn]
          exact hz
theorem XO.borrow {i : Nat} {r : Rp ι} {e : Enc ι} {f : Rp γ} {x : ι} {m : Res γ} (hs : S[i]? = some (.val r x)) (l : Frz r e) (ll : Lsts r) (lf : Less f) (h : XO K mg W (S.set i (.val (fz e) x)) te f m) : XO K mg W S te f m.noer := fun F H σ A a Q q => by
  obtain ⟨F1, A', a1, back⟩ := a.lend hs l ll
  refine h F1 H σ A' a1 Q ?_
  cases em : m with
  | er z =>
    rw [em] at q
    exact False.elim q
  | bad =>
    rw [em] at q
    exact False.elim q
  | ok y =>
    rw [em] at q
    intro w F' H' Av p u fr
    obtain ⟨F2, p2, k1, k2⟩ := back F' H' p
    exact q w F2 H' Av p2 (lf k1 u) ⟨fr.nd, fr.fr, fun z hz => k2 z (fr.fo z hz)⟩
theorem XT.borrow {i : Nat} {r : Rp ι} {e : Enc ι} {x : ι} {m : Res Bool} (hs : S[i]? = some (.val r x)) (l : Frz r e) (ll : Lsts r) (h : XT K mg W (S.set i (.val (fz e) x)) tt m) : XT K mg W S tt m.noer := fun F H σ A a Q q => by
  obtain ⟨F1, A', a1, back⟩ := a.lend hs l ll
  refine h F1 H σ A' a1 Q ?_
  cases em : m with
  | er z =>
    rw [em] at q
    exact False.elim q
  | bad =>
    rw [em] at q
    exact False.elim q
  | ok y =>
    rw [em] at q
    intro F' H' p
    obtain ⟨F2, p2, k1, k2⟩ := back F' H' p
    exact q F2 H' p2

/-! ### freezing within -/
theorem At.frzIn {F H : Hp} {σ : L2.St} {A : List Addr} {i : Nat} {r : Rp ι} {e : Enc ι} {x : List ι} (a : At K F H σ S A) (hs : S[i]? = some (.val (ow r) x)) (l : Frz r e) : ∃ F' A', At K F' H σ (S.set i (.val (ow (fz e)) x)) A' ∧ Nx F H A F' H A' := by
  obtain ⟨v, Ai, e1, inA, ndI, foI, ⟨p, vs, A', e2, hl, e3, okl⟩, md⟩ := a.mod hs
  subst e2 e3
  have nd := List.nodup_cons.mp ndI
  have sf : Sub F (addF F H A') := sub_add fun z hz => foI z (List.mem_cons_of_mem _ hz)
  obtain ⟨A2, a2, n2⟩ := md (addF F H A') H _ (ow (fz e)) x [p] sf (fun z o hz => by
      by_cases k : z ∈ A'
      · rw [addF_in k] at hz
        exact hz
      · rw [addF_out k] at hz
        exact a.fh z o hz) (fun z o h _ => h) (fun z h hn => addF_out fun k => hn (List.mem_cons_of_mem _ k)) (fun z hz => .inl (by
      have q : z = p := by simpa using hz
      rw [q]
      exact List.mem_cons_self)) (by simp) (fun z hz => by
      have q : z = p := by simpa using hz
      rw [q, addF_out nd.1]
      exact foI p List.mem_cons_self) (fun z h => h) ⟨p, vs, [], rfl, hl, rfl, okL_of (frzL l sf okl fun z hz => addF_in hz)⟩
  exact ⟨_, A2, a2, n2⟩
theorem Y.frzIn {i : Nat} {r : Rp ι} {e : Enc ι} {x : List ι} {m : Res (Fl α β τ)} (hs : S[i]? = some (.val (ow r) x)) (l : Frz r e) (h : Y K mg W (S.set i (.val (ow (fz e)) x)) t R B N m) : Y K mg W S t R B N m := ⟨h.no, fun F H σ A a D q => by
  obtain ⟨F', A', a', n⟩ := a.frzIn hs l
  exact h.run F' H σ A' a' D (Post.from n q)⟩
theorem XO.frzIn {r : Rp ι} {e : Enc ι} {m : Res (List ι)} (h : XO K mg W S te (ow r) m) (l : Frz r e) : XO K mg W S te (ow (fz e)) m := fun F H σ A a Q q =>
  h F H σ A a Q (q.imp (fun x k v F' H' Av p u fr => by
    obtain ⟨b, vs, A', rfl, hl, rfl, okl⟩ := u
    have nd := List.nodup_cons.mp fr.nd
    have sf : Sub F' (addF F' H' A') := sub_add fun z hz => fr.fo z (List.mem_cons_of_mem _ hz)
    have fr2 : Frs F H F' A' := ⟨nd.2, fun z hz => fr.fr z (List.mem_cons_of_mem _ hz), fun z hz => fr.fo z (List.mem_cons_of_mem _ hz)⟩
    refine k (.ref b) _ H' [b] (p.add fr2) ⟨b, vs, [], rfl, hl, rfl, okL_of (frzL l sf okl fun z hz => addF_in hz)⟩ ⟨by simp, fun z hz => ?_, fun z hz => ?_⟩
    · have q : z = b := by simpa using hz
      rw [q]
      exact fr.fr b List.mem_cons_self
    · have q : z = b := by simpa using hz
      rw [q, addF_out nd.1]
      exact fr.fo b List.mem_cons_self) fun _ z => z)

/-! ### for x in xs, the items changed -/
/-- the place itself, nothing known of what stands there -/
def rAt : Rp Addr where
  ok := fun _ _ _ v x A => A = [] ∧ v = .ref x
  mono := fun h _ _ => h
  dom := fun h a ha => by
    rw [h.1] at ha
    cases ha
def forM {α β ι τ1 : Type} (f : ι → τ1 → Res (Fl α (τ1 × ι) (τ1 × ι))) : List ι → List ι → τ1 → Res (Fl α β (τ1 × List ι))
  | d, [], s => .ok (.nx (s, d))
  | d, x :: xs, s => (f x s).bind fun fl => match fl with
    | .nx s' => forM f (d ++ [s'.2]) xs s'.1
    | .ct s' => forM f (d ++ [s'.2]) xs s'.1
    | .bk s' => .ok (.nx (s'.1, d ++ s'.2 :: xs))
    | .rt r => .ok (.rt r)
theorem okL_split {r : Rp ι} {F H : Hp} : ∀ {d : List ι} {vs : List V} {xs : List ι} {A : List Addr}, OkL r K F H vs (d ++ xs) A → ∃ v1 v2 A1 A2, vs = v1 ++ v2 ∧ A = A1 ++ A2 ∧ OkL r K F H v1 d A1 ∧ OkL r K F H v2 xs A2 ∧ v1.length = d.length
  | [], vs, xs, A, h => ⟨[], vs, [], A, rfl, rfl, rfl, h, rfl⟩
  | y :: d, v :: vs, xs, _, ⟨A1, A2, e, h1, h2⟩ => by
    obtain ⟨v1, v2, B1, B2, e1, e2, h3, h4, h5⟩ := okL_split (d := d) h2
    subst e e1 e2
    exact ⟨v :: v1, v2, A1 ++ B1, B2, rfl, (List.append_assoc _ _ _).symm, ⟨A1, B1, rfl, h1, h3⟩, h4, by rw [List.length_cons, List.length_cons, h5]⟩
  | _ :: _, [], _, _, h => h.elim
theorem Nx.grow {F H F' H' : Hp} {A A' C C' : List Addr} (n : Nx F H A F' H' A') (h : ∀ z ∈ A, z ∈ C) (h' : ∀ z ∈ C', z ∈ A' ∨ z ∈ C) : Nx F H C F' H' C' :=
  ⟨n.ff, fun z o q k => n.hh z o q fun w => k (h z w), fun z q k => n.fo z q fun w => k (h z w), fun z hz => (h' z hz).elim (fun w => (n.aa z w).imp (h z) fun w => w) .inl, n.hs⟩
theorem nodup_swap {l : Addr} {B1 Bx B3 C1 C2 : List Addr} (h1 : (l :: (B1 ++ B3)).Nodup) (h2 : (C1 ++ (Bx ++ C2)).Nodup) (h3 : ∀ z ∈ l :: (B1 ++ B3), z ∉ C1 ++ (Bx ++ C2)) : (l :: ((B1 ++ (Bx ++ B3)) ++ (C1 ++ C2))).Nodup := by
  have h : ((l :: (B1 ++ B3)) ++ (C1 ++ (Bx ++ C2))).Nodup := List.nodup_append.mpr ⟨h1, h2, fun a ha b hb e => h3 a ha (e ▸ hb)⟩
  refine (List.Perm.nodup_iff ?_).mp h
  refine List.perm_iff_count.mpr fun z => ?_
  simp only [List.count_append, List.count_cons]
  omega
theorem Y.forM {i j : Nat} {ρ : Rp (List ι)} {r : Rp ι} [Own ρ r] {xs : List ι} {tb : TS} {N1 : Addr → τ1 → List Sl} {N2 : τ1 × List ι → List Sl} {f : ι → τ1 → Res (Fl α (τ1 × ι) (τ1 × ι))} {s0 : τ1} (hs : S[i]? = some (.val ρ xs))
    (hw : ∀ l, Wk (S.set i (.val rAt l)) (N1 l s0)) (hi : ∀ l s, (N1 l s)[i]? = some (.val rAt l)) (hj : ∀ l s, (N1 l s)[j]? = some .nil) (hN : ∀ l s ys, (N1 l s).set i (.val ρ ys) = N2 (s, ys))
    (hb : ∀ l w x s, Y K mg W ((N1 l s).set j (.val (pin w r) x)) tb R (fun p : τ1 × ι => (N1 l p.1).set j (.val (pin w r) p.2)) (some fun p : τ1 × ι => (N1 l p.1).set j (.val (pin w r) p.2)) (f x s)) :
    Y K mg W S (tFor (iList K (tVar i)) (gName j) tb) R B (some N2) (TP.forM f [] xs s0) := ⟨fun h => (nomatch h), fun F H σ A a D q => by
  obtain ⟨o, A1, Ai, A2, e1, e2, e3, e4⟩ := a.sl.at hs
  cases o with
  | none => exact e3.elim
  | some v =>
    have hρ : ρ.ok K F H v xs Ai := e3
    obtain ⟨l, vs, A', rfl, hl, e5, okl⟩ := Own.to hρ
    subst e2 e5
    have fo := a.fo
    have dm := a.sl.dom
    have key := e4 F H (some (.ref l)) (.val rAt l) [] (.refl _) (fun _ _ => rfl) ⟨rfl, rfl⟩
    rw [set_self e1] at key
    have subA : List.Sublist (A1 ++ ([] ++ A2)) (A1 ++ (l :: A' ++ A2)) := List.Sublist.append (.refl _) (List.sublist_append_right _ _)
    obtain ⟨A0, k0, sub0⟩ := hw l K F H σ _ key
    have mem0 : ∀ z ∈ A0, z ∈ A1 ∨ z ∈ A2 := fun z hz => by
      have := sub0.mem hz
      simpa using this
    have n1 := List.nodup_append.mp a.nd
    have n2 := List.nodup_append.mp n1.2.1
    have back : ∀ {F2 H2 : Hp} {σ2 : L2.St} {s : τ1} {ys : List ι} {A2 A3 : List Addr}, At K F2 H2 σ2 (N1 l s) A2 → H2 l = some (.lst vs) → OkL r K F2 H2 vs ys A3 → (l :: (A3 ++ A2)).Nodup → (∀ z ∈ l :: A3, F2 z = none) → ∃ A4, At K F2 H2 σ2 (N2 (s, ys)) A4 ∧ ∀ z ∈ A4, z ∈ l :: (A3 ++ A2) := fun {F2 H2 σ2 s ys A2 A3} a2 h1 h2 h3 h4 => by
      obtain ⟨o, C1, Ci, C2, g1, g2, g3, g4⟩ := a2.sl.at (hi l s)
      cases o with
      | none => exact g3.elim
      | some v =>
        have g3' : Ci = [] ∧ v = .ref l := g3
        obtain ⟨z1, z2⟩ := g3'
        subst z1 z2 g2
        have h := g4 F2 H2 (some (.ref l)) (.val ρ ys) (l :: A3) (.refl _) (fun _ _ => rfl) (Own.back hρ ⟨l, vs, A3, rfl, h1, rfl, h2⟩)
        rw [set_self g1, hN] at h
        refine ⟨_, ⟨a2.fh, ?_, fun z hz => ?_, h⟩, fun z hz => ?_⟩
        · refine (List.Perm.nodup_iff ?_).mp h3
          refine List.perm_iff_count.mpr fun z => ?_
          simp only [List.count_append, List.count_cons, List.nil_append]
          omega
        · rcases List.mem_append.mp hz with h | h
          · exact a2.fo z (List.mem_append_left _ h)
          · rcases List.mem_append.mp h with h | h
            · exact h4 z h
            · exact a2.fo z (List.mem_append_right _ h)
        · simp only [List.mem_append, List.mem_cons, List.nil_append] at hz ⊢
          rcases hz with h | ((h | h) | h)
          · exact .inr (.inr (.inl h))
          · exact .inl h
          · exact .inr (.inl h)
          · exact .inr (.inr (.inr h))
    refine ⟨_, e1, l, rfl, ⟨vs, .of hl⟩, fun n m σ2 H2 => m = xs.length - n ∧ n ≤ xs.length ∧ ∃ F2 A7 s d A3, d.length = n ∧ H2 l = some (.lst vs) ∧ OkL r K F2 H2 vs (d ++ xs.drop n) A3 ∧ (l :: (A3 ++ A7)).Nodup ∧ (∀ z ∈ l :: A3, F2 z = none) ∧ Nx F H (A1 ++ (l :: A' ++ A2)) F2 H2 (l :: (A3 ++ A7)) ∧ At K F2 H2 σ2 (N1 l s) A7 ∧
      Post (TP.forM (β := β) f d (xs.drop n) s) (YOk K F H (A1 ++ (l :: A' ++ A2)) R B (some N2) D) (YEr K mg W F H (A1 ++ (l :: A' ++ A2))), ?_, ?_⟩
    · have nodup0 : (l :: (A' ++ A0)).Nodup := by
        have h : (l :: (A' ++ (A1 ++ ([] ++ A2)))).Nodup := by
          refine (List.Perm.nodup_iff ?_).mp a.nd
          refine List.perm_iff_count.mpr fun z => ?_
          simp only [List.count_append, List.count_cons, List.nil_append, List.cons_append]
          omega
        exact h.sublist (List.Sublist.cons₂ _ (List.Sublist.append (.refl _) sub0))
      refine ⟨xs.length, by simp, Nat.zero_le _, F, A0, s0, [], A', rfl, hl, okl, nodup0, fun z hz => fo z (List.mem_append_right _ (List.mem_append_left _ hz)), Nx.refl.less fun z hz => ?_, ⟨a.fh, (a.nd.sublist subA).sublist sub0, fun z hz => fo z (subA.mem (sub0.mem hz)), k0⟩, q⟩
      rcases List.mem_cons.mp hz with h | h
      · rw [h]
        exact List.mem_append_right _ (List.mem_append_left _ List.mem_cons_self)
      · rcases List.mem_append.mp h with h | h
        · exact List.mem_append_right _ (List.mem_append_left _ (List.mem_cons_of_mem _ h))
        · exact subA.mem (sub0.mem h)
    · rintro n m σ2 H2 ⟨rfl, hle, F2, A2', s, d, A3, hd, hl2, ok2, nd2, fo2, nx2, a2, k2⟩
      by_cases hlt : n < xs.length
      · rw [List.drop_eq_getElem_cons hlt] at ok2 k2
        obtain ⟨v1, v2, B1, B2, ev, eA, okd, okx, len1⟩ := okL_split ok2
        cases v2 with
        | nil => exact okx.elim
        | cons w v3 =>
          obtain ⟨Bx, B3, eB, hx, okr⟩ := okx
          subst ev eA eB
          have hvn : (v1 ++ w :: v3)[n]? = some w := by
            rw [← hd, ← len1]
            simp
          obtain ⟨o, C1, Cj, C2, g1, g2, g3, g4⟩ := a2.sl.at (hj l s)
          have g3' : Cj = [] := g3
          subst g2 g3'
          have a3 := g4 F2 H2 (some w) (.val (pin w r) xs[n]) Bx (.refl _) (fun _ _ => rfl) ⟨rfl, hx⟩
          have cnt : ∀ z, (l :: ((B1 ++ (Bx ++ B3)) ++ (C1 ++ ([] ++ C2)))).count z = ((l :: (B1 ++ B3)) ++ (C1 ++ (Bx ++ C2))).count z := fun z => by
            simp only [List.count_append, List.count_cons, List.nil_append, List.cons_append]
            omega
          have ndS : ((l :: (B1 ++ B3)) ++ (C1 ++ (Bx ++ C2))).Nodup := (List.Perm.nodup_iff (List.perm_iff_count.mpr cnt)).mp nd2
          obtain ⟨ndE, ndB, apart⟩ := List.nodup_append.mp ndS
          have inB1 : ∀ z ∈ B1, z ∈ l :: (B1 ++ B3) := fun z h => List.mem_cons_of_mem _ (List.mem_append_left _ h)
          have inB3 : ∀ z ∈ B3, z ∈ l :: (B1 ++ B3) := fun z h => List.mem_cons_of_mem _ (List.mem_append_right _ h)
          have domE : ∀ z ∈ l :: (B1 ++ B3), H2 z ≠ none := fun z hz => by
            rcases List.mem_cons.mp hz with h | h
            · rw [h, hl2]
              exact fun z => nomatch z
            · rcases List.mem_append.mp h with h | h
              · exact okd.dom z h
              · exact okr.dom z h
          have foE : ∀ z ∈ l :: (B1 ++ B3), F2 z = none := fun z hz => fo2 z (by
            simp only [List.mem_cons, List.mem_append] at hz ⊢
            rcases hz with h | h | h
            · exact .inl h
            · exact .inr (.inl h)
            · exact .inr (.inr (.inr h)))
          have atB : At K F2 H2 (σ2.set j (some w)) ((N1 l s).set j (.val (pin w r) xs[n])) (C1 ++ (Bx ++ C2)) := ⟨a2.fh, ndB, fun z hz => by
            simp only [List.mem_append] at hz
            rcases hz with h | h | h
            · exact a2.fo z (by simp [h])
            · exact fo2 z (by simp [h])
            · exact a2.fo z (by simp [h]), a3⟩
          have noE : ∀ z ∈ l :: (B1 ++ B3), z ∉ C1 ++ (Bx ++ C2) := fun z h k => apart z h z k rfl
          -- what holds behind a turn
          have behind : ∀ {F' H' : Hp} {σ' : L2.St} {s' : τ1 × ι} {A'' : List Addr}, Nx F2 H2 (C1 ++ (Bx ++ C2)) F' H' A'' → At K F' H' σ' ((N1 l s'.1).set j (.val (pin w r) s'.2)) A'' → ∃ A4 A5, H' l = some (.lst (v1 ++ w :: v3)) ∧ OkL r K F' H' (v1 ++ w :: v3) (d ++ s'.2 :: xs.drop (n + 1)) A5 ∧ (l :: (A5 ++ A4)).Nodup ∧ (∀ z ∈ l :: A5, F' z = none) ∧
              Nx F H (A1 ++ (l :: A' ++ A2)) F' H' (l :: (A5 ++ A4)) ∧ At K F' H' σ' (N1 l s'.1) A4 := fun {F' H' σ' s' A''} x a' => by
            have hjS : j < (N1 l s'.1).length := (List.getElem?_eq_some_iff.mp (hj l s'.1)).1
            obtain ⟨o', D1, Dj, D2, f1, f2, f3, f4⟩ := a'.sl.at (i := j) (s := .val (pin w r) s'.2) (by rw [List.getElem?_set_self hjS])
            cases o' with
            | none => exact f3.elim
            | some v' =>
              have f3' : v' = w ∧ r.ok K F' H' v' s'.2 Dj := f3
              obtain ⟨z1, hx'⟩ := f3'
              subst f2 z1
              have h5 := f4 F' H' (some v') .nil [] (.refl _) (fun _ _ => rfl) rfl
              have eS : ((N1 l s'.1).set j (.val (pin v' r) s'.2)).set j .nil = N1 l s'.1 := by
                rw [List.set_set]
                refine List.ext_getElem? fun k => ?_
                by_cases q : j = k
                · subst q
                  rw [List.getElem?_set_self hjS, hj]
                · rw [List.getElem?_set_ne q]
              rw [set_self f1, eS] at h5
              have sameE : ∀ z ∈ l :: (B1 ++ B3), H' z = H2 z := fun z hz => by
                cases q : H2 z with
                | none => exact absurd q (domE z hz)
                | some o => exact x.hh z o q (noE z hz)
              have apart' : ∀ z ∈ l :: (B1 ++ B3), z ∉ D1 ++ (Dj ++ D2) := fun z hz k => (x.aa z k).elim (noE z hz) fun h => domE z hz h
              have foE' : ∀ z ∈ l :: (B1 ++ B3), F' z = none := fun z hz => (x.fo z (domE z hz) (noE z hz)).trans (foE z hz)
              have nd' := nodup_swap ndE a'.nd apart'
              have okd' : OkL r K F' H' v1 d B1 := okd.mono x.ff fun z h => sameE z (inB1 z h)
              have okr' : OkL r K F' H' v3 (xs.drop (n + 1)) B3 := okr.mono x.ff fun z h => sameE z (inB3 z h)
              refine ⟨D1 ++ D2, B1 ++ (Dj ++ B3), (sameE l List.mem_cons_self).trans hl2, okL_app okd' ⟨Dj, B3, rfl, hx', okr'⟩, nd', fun z hz => ?_, ?_, ?_⟩
              · simp only [List.mem_cons, List.mem_append] at hz
                rcases hz with h | h | h | h
                · rw [h]
                  exact foE' l List.mem_cons_self
                · exact foE' z (inB1 z h)
                · exact a'.fo z (by simp [h])
                · exact foE' z (inB3 z h)
              · refine nx2.trans (x.grow (fun z hz => ?_) fun z hz => ?_)
                · simp only [List.mem_cons, List.mem_append] at hz ⊢
                  rcases hz with h | h | h <;> simp [h]
                · simp only [List.mem_cons, List.mem_append] at hz ⊢
                  rcases hz with h | ((h | h | h) | (h | h)) <;> simp [h]
              · refine ⟨a'.fh, ?_, fun z hz => ?_, h5⟩
                · exact a'.nd.sublist (List.Sublist.append (.refl _) (List.sublist_append_right _ _))
                · refine a'.fo z ?_
                  simp only [List.mem_append, List.nil_append] at hz ⊢
                  rcases hz with h | h <;> simp [h]
          have nxB : Nx F H (A1 ++ (l :: A' ++ A2)) F2 H2 (C1 ++ (Bx ++ C2)) := nx2.less fun z hz => by
            simp only [List.mem_cons, List.mem_append, List.nil_append] at hz ⊢
            rcases hz with h | h | h <;> simp [h]
          refine .inr ⟨⟨_, w, .of hl2, hvn⟩, fun σ' H' => ∃ F3 A4 s3 d3 A5, d3.length = n + 1 ∧ H' l = some (.lst (v1 ++ w :: v3)) ∧ OkL r K F3 H' (v1 ++ w :: v3) (d3 ++ xs.drop (n + 1)) A5 ∧ (l :: (A5 ++ A4)).Nodup ∧ (∀ z ∈ l :: A5, F3 z = none) ∧ Nx F H (A1 ++ (l :: A' ++ A2)) F3 H' (l :: (A5 ++ A4)) ∧ At K F3 H' σ' (N1 l s3) A4 ∧
            Post (TP.forM (β := β) f d3 (xs.drop (n + 1)) s3) (YOk K F H (A1 ++ (l :: A' ++ A2)) R B (some N2) D) (YEr K mg W F H (A1 ++ (l :: A' ++ A2))), fun σ' H' h => ?_, fun v H3 y => ?_⟩
          · obtain ⟨F3, A4, s3, d3, A5, q1, q2, q3, q4, q5, q6, q7, q8⟩ := h
            exact ⟨xs.length - (n + 1), by omega, rfl, hlt, F3, A4, s3, d3, A5, q1, q2, q3, q4, q5, q6, q7, q8⟩
          · obtain ⟨rfl, hy⟩ := y
            have ew := hy _ (.of hl2)
            rw [hvn] at ew
            cases ew
            refine (hb l w xs[n] s).run F2 H3 _ _ atB _ ((Post.of_bind k2).imp (fun fl k3 => match fl, k3 with
              | .nx s', k3 => fun F' H' σ' A'' x a' => ?_
              | .ct s', k3 => fun F' H' σ' A'' x a' => ?_
              | .bk s', k3 => fun F' H' σ' A'' x a' => ?_
              | .rt r', k3 => fun F' H' v Av y s r nd fo => k3 F' H' v Av (nxB.trans y) s r nd fo) fun e z => YEr.from nxB z)
            · obtain ⟨A4, A5, q1, q2, q3, q4, q5, q6⟩ := behind x a'
              exact ⟨F', A4, s'.1, d ++ [s'.2], A5, by rw [List.length_append, hd]; rfl, q1, by rw [List.append_assoc]; exact q2, q3, q4, q5, q6, k3⟩
            · obtain ⟨A4, A5, q1, q2, q3, q4, q5, q6⟩ := behind x a'
              exact ⟨F', A4, s'.1, d ++ [s'.2], A5, by rw [List.length_append, hd]; rfl, q1, by rw [List.append_assoc]; exact q2, q3, q4, q5, q6, k3⟩
            · obtain ⟨A4, A5, q1, q2, q3, q4, q5, q6⟩ := behind x a'
              obtain ⟨A6, p1, p2⟩ := back q6 q1 q2 q3 q4
              exact k3 F' H' σ' A6 (q5.less p2) p1
      · have e : n = xs.length := by omega
        subst e
        rw [List.drop_length] at k2 ok2
        rw [List.append_nil] at ok2
        obtain ⟨A6, p1, p2⟩ := back a2 hl2 ok2 nd2 fo2
        exact .inl ⟨⟨vs, .of hl2, by rw [okL_len okl]; exact Nat.le_refl _⟩, k2 F2 H2 σ2 A6 (nx2.less p2) p1⟩⟩
end
end TP

set_option Elab.async false
set_option linter.all false
set_option maxRecDepth 100000
set_option maxHeartbeats 4000000
set_option autoImplicit false
/-! TP, part 10: displays of owned lists, what is moved. -/
namespace TP
open PySem PySem.Spec L2

/-- data without lists -/
class NoL {α : Type} (e : Enc α) : Prop where
  h : ∀ x, noLst (e x) = true
instance : NoL PyData.int := ⟨fun _ => rfl⟩
instance : NoL PyData.bool := ⟨fun _ => rfl⟩
instance : NoL PyData.str := ⟨fun _ => rfl⟩
instance : NoL (fun _ : Unit => PyData.none) := ⟨fun _ => rfl⟩
instance : NoL e0 := ⟨fun _ => by simp [e0, noLst, noLstAll]⟩
section
variable {α β γ δ : Type} {e : Enc α} {f : Enc β} {g : Enc γ} {h : Enc δ}
instance [NoL e] : NoL (e1 e) := ⟨fun _ => by simp [e1, noLst, noLstAll, NoL.h]⟩
instance [NoL e] [NoL f] : NoL (e2 e f) := ⟨fun _ => by simp [e2, noLst, noLstAll, NoL.h]⟩
instance [NoL e] [NoL f] [NoL g] : NoL (e3 e f g) := ⟨fun _ => by simp [e3, noLst, noLstAll, NoL.h]⟩
instance [NoL e] [NoL f] [NoL g] [NoL h] : NoL (e4 e f g h) := ⟨fun _ => by simp [e4, noLst, noLstAll, NoL.h]⟩
theorem noLstAll_map [NoL e] : ∀ xs : List α, noLstAll (xs.map e) = true
  | [] => by simp [noLstAll]
  | x :: xs => by simp [noLstAll, NoL.h, noLstAll_map xs]
instance [NoL e] : NoL (eV e) := ⟨fun xs => by simp [eV, noLst, noLstAll_map]⟩
instance [NoL e] : NoL (eO e) := ⟨fun o => by
  cases o with
  | none => rfl
  | some x => exact NoL.h x⟩
end
section
variable {K : Fg} {mg : Str → Option Value} {W : WX} {S S' : List Sl} {te ta tb tc : TE} {tr : TA} {tt : TT} {t t1 t2 u : TS}
variable {α β τ τ1 ι γ κ ζ : Type} {R : Rp α} {B : β → List Sl} {N : Option (τ → List Sl)}
theorem atL_okL {r : Rp ι} {F H : Hp} : ∀ {vs : List V} {xs : List ι} {A : List Addr}, AtL K F H (vs.map some) (xs.map fun x => Sl.val r x) A → OkL r K F H vs xs A
  | [], [], _, h => h
  | v :: vs, x :: xs, _, ⟨A1, A2, e, h1, h2⟩ => ⟨A1, A2, e, h1, atL_okL h2⟩
  | [], _ :: _, _, h => h.elim
  | _ :: _, [], _, h => h.elim
theorem XO.lstG {r : Rp ι} {G : τ → List Sl} {m : Res τ} (h : XG K mg W S tr G m) (f : τ → List ι) (hf : ∀ t, G t = (f t).map fun x => Sl.val r x) (n : Nat) (hn : ∀ t, (f t).length = n := by intro _; rfl) (hz : n ≤ sizeLine := by decide) :
    XO K mg W S (tLst tr) (ow r) (m.bind fun t => .ok (f t)) := fun F H σ A a Q q =>
  h F H σ A a _ ((Post.of_bind q).imp (fun t k vs F1 H1 Ag p1 u1 fr => by
    rw [hf] at u1
    have ok := atL_okL u1
    refine ⟨by rw [okL_len ok, hn]; exact hz, fun p hp => ?_⟩
    have np : ∀ z ∈ Ag, z ≠ p := fun z hz e => by
      subst e
      exact ok.dom z hz hp
    refine k (.ref p) F1 _ (p :: Ag) (p1.trans (.newO p1.fh hp)) ⟨p, vs, Ag, rfl, upd_same, rfl, ok.mono (.refl _) fun z hz => upd_ne (np z hz)⟩ ⟨List.nodup_cons.mpr ⟨fun h => np p h rfl, fr.nd⟩, fun z hz => ?_, fun z hz => ?_⟩
    · rcases List.mem_cons.mp hz with h | h
      · rw [h]
        exact p1.hh.back hp
      · exact fr.fr z h
    · rcases List.mem_cons.mp hz with h | h
      · rw [h]
        exact p1.fh.back hp
      · exact fr.fo z h) fun e z => z)
theorem Y.retN2 {e : Enc α} {x : α} (hR : e x = .none) : Y K mg W S (tSeq tRetN u) (fz e) B N (.ok (.rt x)) := ⟨fun _ => .rt, fun F H σ A a D q => by
  refine q F H .non [] (Nx.refl.less fun _ z => (by cases z)) a.fh ⟨rfl, ?_⟩ List.nodup_nil fun _ z => (by cases z)
  rw [hR]
  exact .non⟩
/-- xs.append(ys), ys an owned variable: it is handed over -/
theorem Y.appendV {i j : Nat} {ρ : Rp (List ι)} {r : Rp ι} [Own ρ r] {xs : List ι} {x : ι} {k : List ι → Res (Fl α β τ)} (hij : i ≠ j) (hs : S[i]? = some (.val ρ xs)) (hj : S[j]? = some (.val r x)) (hu : ∀ ys, Y K mg W ((S.set i (.val ρ ys)).set j .nil) u R B N (k ys)) :
    Y K mg W S (tSeq (tDrop (tBM K "list" rAppend (tVar i) (tCons (tVar j) tNil))) u) R B N ((chk (appQ xs x)).bind k) := ⟨fun h => .bind fun ys => (hu ys).no h, fun F H σ A a D q => by
  obtain ⟨o, C1, Cj, C2, g1, g2, g3, g4⟩ := a.sl.at hj
  cases o with
  | none => exact g3.elim
  | some w =>
    subst g2
    have g3' : r.ok K F H w x Cj := g3
    -- the slot j empties
    have h5 := g4 F H (some w) .nil [] (.refl _) (fun _ _ => rfl) rfl
    rw [set_self g1] at h5
    have nd := List.nodup_append.mp a.nd
    have nd2 := List.nodup_append.mp nd.2.1
    have a5 : At K F H σ (S.set j .nil) (C1 ++ ([] ++ C2)) := ⟨a.fh, a.nd.sublist (List.Sublist.append (.refl _) (List.sublist_append_right _ _)), fun z hz => a.fo z (by
      simp only [List.mem_append, List.nil_append] at hz ⊢
      rcases hz with h | h <;> simp [h]), h5⟩
    have hs5 : (S.set j .nil)[i]? = some (.val ρ xs) := by
      rw [List.getElem?_set_ne (Ne.symm hij)]
      exact hs
    obtain ⟨v, Ai, e1, part⟩ := a5.part hs5
    obtain ⟨ys, e4, k3⟩ := Post.of_chk (Post.of_bind q)
    unfold appQ at e4
    split at e4
    · rename_i c
      cases e4
      obtain ⟨l, vs, A', e2, hl, e3, okl⟩ := Own.to part.ok
      subst e2 e3
      have ndA := List.nodup_cons.mp part.nd
      have notC : ∀ z ∈ Cj, z ∉ C1 ++ ([] ++ C2) := fun z hz k => by
        simp only [List.mem_append, List.nil_append] at k
        rcases k with h | h
        · exact nd.2.2 z h z (List.mem_append_left _ hz) rfl
        · exact nd2.2.2 z hz z h rfl
      have one : OkL r K F H [w] [x] Cj := ⟨Cj, [], by simp, g3', rfl⟩
      obtain ⟨A4, a4, q1, q2, q3⟩ := part.put (.refl a.fh) rfl (ws := vs ++ [w]) (ys := xs ++ [x]) (A2 := A' ++ Cj) (fun z hz => by
          rcases List.mem_append.mp hz with h | h
          · exact .inl ⟨List.mem_cons_of_mem _ h, fun k => ndA.1 (k ▸ h)⟩
          · exact .inr (notC z h)) (List.nodup_append.mpr ⟨ndA.2, nd2.1, fun y hy z hz k => by
          subst k
          exact notC y hz (part.inA y (List.mem_cons_of_mem _ hy))⟩) (fun z hz => by
          rcases List.mem_append.mp hz with h | h
          · exact part.fo z (List.mem_cons_of_mem _ h)
          · exact a.fo z (by simp [h])) (okL_app okl one)
      have eS : (S.set j .nil).set i (.val ρ (xs ++ [x])) = (S.set i (.val ρ (xs ++ [x]))).set j .nil := List.set_comm _ _ (Ne.symm hij)
      rw [eS] at a4
      refine ⟨_, e1, .inl ⟨rfl, vs, .of hl⟩, w, g1, l, vs, w, rfl, rfl, hl, by rw [okL_len okl]; exact c, ?_⟩
      refine (hu _).run F _ σ A4 a4 D (Post.from ?_ k3)
      have sub5 : ∀ z ∈ C1 ++ ([] ++ C2), z ∈ C1 ++ (Cj ++ C2) := fun z hz => by
        simp only [List.mem_append, List.nil_append] at hz ⊢
        rcases hz with h | h <;> simp [h]
      refine ⟨.refl _, fun z o h hn => q2 z o h fun k => hn (sub5 z k), fun z h _ => rfl, fun z hz => .inl ?_, q3⟩
      rcases q1 z hz with h | h
      · exact sub5 z h
      · rcases List.mem_append.mp h with h | h
        · exact sub5 z (part.inA z (List.mem_cons_of_mem _ h))
        · simp [h]
    · cases e4⟩
theorem Y.mrem [DecidableEq ι] {ρ : Rp (List ι)} {e : Enc ι} [Law e] [Own ρ (fz e)] {m : Res (List ι × κ)} {up : κ → List ι → ζ} {Sr : ζ → List Sl} {me : Res ι} {k : ζ → Res (Fl α β τ)} (h : XP K mg W S te ρ m up Sr) (he : XB K mg W S ta (vH e) me) (hu : ∀ z, Y K mg W (Sr z) u R B N (k z)) (hd : Law.dep e ≤ 64 := by decide) :
    Y K mg W S (tSeq (tDrop (tBM K "list" (rRemD K) te (tCons ta tNil))) u) R B N (m.bind fun p => me.bind fun x => (chk (remQ p.1 x)).bind fun zs => (Res.ok (up p.2 zs)).bind k) := ⟨fun h => .bind fun p => .bind fun x => .bind fun ys => .bind fun z => (hu z).no h, fun F H σ A a D q =>
  h F H σ A a _ ((Post.of_bind q).imp (fun p k2 v F1 H1 Ai p1 part => by
    refine ⟨part_ty part, he F1 H1 σ A (a.pu p1) _ ((Post.of_bind k2).imp (fun x k2 w F2 H2 p2 h2 => ?_) fun e z => z.x.pu p1)⟩
    obtain ⟨zs, e4, k3⟩ := Post.of_chk (Post.of_bind k2)
    unfold remQ at e4
    cases c : p.1.findIdx? fun y => decide (y = x) with
    | none =>
      rw [c] at e4
      cases e4
    | some j =>
      rw [c] at e4
      cases e4
      obtain ⟨l, vs, e2, hl, dl, md⟩ := Part.lst (e := e) part
      have dl2 := dpAll_sub (p2.ff.trans p2.fh) dl
      obtain ⟨A2, a2, n2⟩ := md F2 H2 (p.1.eraseIdx j) (vs.eraseIdx j) p2 (by
        rw [map_erase]
        exact dpAll_erase j (dpAll_sub p2.ff dl))
      exact ⟨l, vs, p.1.map e, w, e x, j, e2, rfl, p2.hh l _ hl, dl2, h2, plainAll_map p.1, Law.plain x, Nat.le_trans (Law.dep_le x) hd, by rw [place_map]; exact c, (hu _).run F2 _ σ A2 a2 D (Post.from ((p1.nx fun z hz => .inl hz).trans n2) k3)⟩) fun e z => z.x)⟩
/-- what is not None -/
theorem Y.unopt {i : Nat} {e : Enc ι} {o : Option ι} {k : ι → Res (Fl α β τ)} (hs : S[i]? = some (.val (fz (eO e)) o)) (h : ∀ x, Y K mg W (S.set i (.val (fz e) x)) t R B N (k x)) : Y K mg W S t R B N ((optQ o).bind k) := ⟨fun z => .bind fun x => (h x).no z, fun F H σ A a D q => by
  cases o with
  | none => exact False.elim q
  | some x =>
    obtain ⟨o, A1, Ai, A2, e1, e2, e3, e4⟩ := a.sl.at hs
    cases o with
    | none => exact e3.elim
    | some v =>
      have e3' : Ai = [] ∧ Dp K F v (e x) := e3
      obtain ⟨z, d⟩ := e3'
      subst z
      have h5 := e4 F H (some v) (.val (fz e) x) [] (.refl _) (fun _ _ => rfl) ⟨rfl, d⟩
      rw [set_self e1, ← e2] at h5
      exact (h x).run F H σ A ⟨a.fh, a.nd, a.fo, h5⟩ D q⟩
end
end TP

set_option Elab.async false
set_option linter.all false
set_option maxRecDepth 100000
set_option maxHeartbeats 4000000
set_option autoImplicit false
/-! TP, part 11: the rules with the fragment named (a block's own frame may not stand in a term). -/
namespace TP
open PySem PySem.Spec L2
section
variable {X : Cx} {K : Fg} (hK : X.K = K)
include hK
theorem kIxL : IxR X (rIxL K) := by subst hK; exact ix_list
theorem kIxT : IxR X (rIxT K) := by subst hK; exact ix_tup
theorem kSlL : SlR X (rSlL K) := by subst hK; exact sl_list
theorem kLen : CallR X (.builtin "len") (fun xs H Q => ∃ p ys, xs = [.ref p] ∧ (SqL K H p ys ∨ SqT K H p ys) ∧ Q (.int ys.length) H) := by subst hK; exact call_len_seq
theorem kList : CallR X (.type "list") (fun xs H Q => ∃ p ys, xs = [.ref p] ∧ (SqL K H p ys ∨ SqT K H p ys) ∧ ∀ l, H l = none → Q (.ref l) (upd H l (.lst ys))) := by subst hK; exact call_list_of
theorem kTuple : CallR X (.type "tuple") (fun xs H Q => ∃ p ys, xs = [.ref p] ∧ ((SqL K H p ys ∧ ∀ l, H l = none → Q (.ref l) (upd H l (.tup ys))) ∨ (SqT K H p ys ∧ Q (.ref p) H))) := by subst hK; exact call_tuple_of
theorem kSum (hc : X.calm = true) : CallR X (.builtin "sum") (rSumS K) := by subst hK; exact cr_sumS hc
theorem kMax (hc : X.calm = true) (hu : X.A.units + 100 < cLine) : CallR X (.builtin "max") (rExt true K) := by subst hK; exact cr_max' hc hu
theorem kMin (hc : X.calm = true) (hu : X.A.units + 100 < cLine) : CallR X (.builtin "min") (rExt false K) := by subst hK; exact cr_min' hc hu
theorem kMinN (hc : X.calm = true) (hu : X.A.units + 100 < cLine) : CallRK X (.builtin "min") [Str.ofString "default"] (rMinN K) := by subst hK; exact cr_minN hc hu
theorem kSort (hu : X.A.units + 100 < cLine) : CallR X (.builtin "sorted") (rSortD false K) := by subst hK; exact cr_sortD hu
theorem kIsi : CallR X (.builtin "isinstance") (rIsi K) := by subst hK; exact call_isi
theorem kCatS : OpR X (binaryOp .Add) (rCatS K) := by subst hK; exact op_catS
theorem kCatA : OpR X (binaryOp .Add) (rCatA K) := by subst hK; exact op_catA
theorem kEqP (hu : X.A.units + 100 < cLine) : OpR X (compareOp .Eq) (rEqP false K) := by subst hK; exact op_eqP hu
theorem kNeP (hu : X.A.units + 100 < cLine) : OpR X (compareOp .NotEq) (rEqP true K) := by subst hK; exact op_neP hu
theorem kLtD (hu : X.A.units + 100 < cLine) : OpR X (compareOp .Lt) (rCmpD PySem.W.dataLt K) := by subst hK; exact op_ltD hu
theorem kGtD (hu : X.A.units + 100 < cLine) : OpR X (compareOp .Gt) (rCmpD (fun d e => PySem.W.dataLt e d) K) := by subst hK; exact op_gtD hu
theorem kLeD (hu : X.A.units + 100 < cLine) : OpR X (compareOp .LtE) (rCmpD (fun d e => !PySem.W.dataLt e d) K) := by subst hK; exact op_leD hu
theorem kGeD (hu : X.A.units + 100 < cLine) : OpR X (compareOp .GtE) (rCmpD (fun d e => !PySem.W.dataLt d e) K) := by subst hK; exact op_geD hu
theorem kInP (hu : X.A.units + 100 < cLine) : OpR X (compareOp .In) (rInP false K) := by subst hK; exact op_inP hu
theorem kNiP (hu : X.A.units + 100 < cLine) : OpR X (compareOp .NotIn) (rInP true K) := by subst hK; exact op_niP hu
theorem kRevL {e : Expr} {te : TE} {k : Nat} {p1 p2 p3 pos : Pos} (he : PE X e te) : PE X (.Subscript e (.Slice none none (some (.UnaryOp .USub (.Constant (.int 1) k p1) p2)) p3) pos) (tRevL K te) := by subst hK; exact pe_revL he
end
end TP

set_option Elab.async false
set_option linter.all false
set_option maxRecDepth 100000
set_option maxHeartbeats 4000000
set_option autoImplicit false
/-! TP, part 12: orders, sorted lists, the least, what is taken out. -/
namespace TP
open PySem PySem.Spec L2
theorem len_pos {α : Type} {xs : List α} (h : xs ≠ []) : 0 < xs.length := by
  cases xs with
  | nil => exact absurd rfl h
  | cons x xs => exact Nat.succ_pos _
/-- a strict order in which any two unlike ones differ -/
class LtOk {α : Type} (lt : α → α → Bool) : Prop where
  irr : ∀ a, lt a a = false
  tr : ∀ a b c, lt a b = true → lt b c = true → lt a c = true
  tri : ∀ a b, lt a b = false → lt b a = false → a = b
instance : LtOk (Ordl.lt eI) where
  irr a := by show decide (a < a) = false; simp
  tr a b c h1 h2 := by
    have h1' : a < b := of_decide_eq_true h1
    have h2' : b < c := of_decide_eq_true h2
    exact decide_eq_true (by omega)
  tri a b h1 h2 := by
    have h1' : ¬a < b := of_decide_eq_false h1
    have h2' : ¬b < a := of_decide_eq_false h2
    omega
instance ltok2 {α β : Type} [DecidableEq α] [DecidableEq β] {e : Enc α} {f : Enc β} [Ordl e] [Ordl f] [LtOk (Ordl.lt e)] [LtOk (Ordl.lt f)] : LtOk (Ordl.lt (e2 e f)) where
  irr a := by
    show (if a.1 = a.1 then Ordl.lt f a.2 a.2 else _) = false
    rw [if_pos rfl]
    exact LtOk.irr _
  tr a b c h1 h2 := by
    have h1' : (if a.1 = b.1 then Ordl.lt f a.2 b.2 else Ordl.lt e a.1 b.1) = true := h1
    have h2' : (if b.1 = c.1 then Ordl.lt f b.2 c.2 else Ordl.lt e b.1 c.1) = true := h2
    show (if a.1 = c.1 then Ordl.lt f a.2 c.2 else Ordl.lt e a.1 c.1) = true
    by_cases p : a.1 = b.1
    · rw [if_pos p] at h1'
      by_cases q : b.1 = c.1
      · rw [if_pos q] at h2'
        rw [if_pos (p.trans q)]
        exact LtOk.tr _ _ _ h1' h2'
      · rw [if_neg q] at h2'
        rw [if_neg (fun k => q (p.symm.trans k)), p]
        exact h2'
    · rw [if_neg p] at h1'
      by_cases q : b.1 = c.1
      · rw [if_neg (fun k => p (k.trans q.symm)), ← q]
        exact h1'
      · rw [if_neg q] at h2'
        have h3 := LtOk.tr _ _ _ h1' h2'
        by_cases r : a.1 = c.1
        · rw [r] at h3
          exact absurd h3 (by rw [LtOk.irr (lt := Ordl.lt e) c.1]; exact Bool.false_ne_true)
        · rw [if_neg r]
          exact h3
  tri a b h1 h2 := by
    have h1' : (if a.1 = b.1 then Ordl.lt f a.2 b.2 else Ordl.lt e a.1 b.1) = false := h1
    have h2' : (if b.1 = a.1 then Ordl.lt f b.2 a.2 else Ordl.lt e b.1 a.1) = false := h2
    by_cases p : a.1 = b.1
    · rw [if_pos p] at h1'
      rw [if_pos p.symm] at h2'
      exact Prod.ext p (LtOk.tri _ _ h1' h2')
    · rw [if_neg p] at h1'
      rw [if_neg (fun k => p k.symm)] at h2'
      exact absurd (LtOk.tri _ _ h1' h2') p
section
variable {α : Type} {lt : α → α → Bool}
/-- in order: none is less than one ahead -/
def Asc (lt : α → α → Bool) (xs : List α) : Prop := xs.Pairwise fun a b => lt b a = false
theorem le_tr [LtOk lt] {a b c : α} (h1 : lt b a = false) (h2 : lt c b = false) : lt c a = false := by
  cases h : lt c a with
  | false => rfl
  | true =>
    cases k : lt b c with
    | false =>
      have e := LtOk.tri _ _ k h2
      subst e
      rw [h] at h1
      cases h1
    | true =>
      rw [LtOk.tr _ _ _ k h] at h1
      cases h1
theorem lt_asym [LtOk lt] {a b : α} (h : lt a b = true) : lt b a = false := by
  cases k : lt b a with
  | false => rfl
  | true =>
    have := LtOk.tr _ _ _ h k
    rw [LtOk.irr (lt := lt) a] at this
    cases this
theorem sort_asc [LtOk lt] (xs : List α) : Asc lt (sortL lt xs) := by
  unfold Asc sortL
  have := List.pairwise_mergeSort (le := fun a b => !lt b a) (fun a b c h1 h2 => by
    simp only [Bool.not_eq_true'] at h1 h2 ⊢
    exact le_tr h1 h2) (fun a b => by
    simp only [Bool.or_eq_true, Bool.not_eq_true']
    cases h : lt b a with
    | false => exact .inl rfl
    | true => exact .inr (lt_asym h)) xs
  exact this.imp fun h => by simpa using h
theorem asc_unique [LtOk lt] : ∀ {xs ys : List α}, Asc lt xs → Asc lt ys → xs.Perm ys → xs = ys
  | [], ys, _, _, p => (List.Perm.nil_eq p)
  | x :: xs, [], _, _, p => by
    have := p.length_eq
    simp at this
  | x :: xs, y :: ys, h1, h2, p => by
    have c1 := List.pairwise_cons.mp h1
    have c2 := List.pairwise_cons.mp h2
    have e : x = y := by
      have m1 : x ∈ y :: ys := p.mem_iff.mp List.mem_cons_self
      have m2 : y ∈ x :: xs := p.mem_iff.mpr List.mem_cons_self
      rcases List.mem_cons.mp m1 with h | h
      · exact h
      · rcases List.mem_cons.mp m2 with k | k
        · exact k.symm
        · exact LtOk.tri _ _ (c2.1 x h) (c1.1 y k)
    subst e
    rw [asc_unique c1.2 c2.2 (List.perm_cons x |>.mp p)]
theorem sort_of_asc [LtOk lt] {xs : List α} (h : Asc lt xs) : sortL lt xs = xs := asc_unique (sort_asc xs) h (sortL_perm xs)
theorem sort_perm [LtOk lt] {xs ys : List α} (h : xs.Perm ys) : sortL lt xs = sortL lt ys := asc_unique (sort_asc xs) (sort_asc ys) ((sortL_perm xs).trans (h.trans (sortL_perm ys).symm))
/-- the least one -/
theorem min_fold [LtOk lt] : ∀ (xs : List α) (x : α), ∃ m, xs.foldl (fun a y => if (if false = true then lt a y else lt y a) = true then y else a) x = m ∧ m ∈ x :: xs ∧ ∀ y ∈ x :: xs, lt y m = false
  | [], x => ⟨x, rfl, List.mem_cons_self, fun y h => by
    rw [List.mem_singleton] at h
    subst h
    exact LtOk.irr _⟩
  | y :: ys, x => by
    simp only [List.foldl_cons, Bool.false_eq_true, if_false]
    cases h : lt y x with
    | true =>
      obtain ⟨m, e, h1, h2⟩ := min_fold ys y
      simp only [Bool.false_eq_true, if_false] at e
      refine ⟨m, by rw [if_pos rfl]; exact e, List.mem_cons_of_mem _ h1, fun z hz => ?_⟩
      rcases List.mem_cons.mp hz with k | k
      · subst k
        exact le_tr (h2 y List.mem_cons_self) (lt_asym h)
      · exact h2 z k
    | false =>
      obtain ⟨m, e, h1, h2⟩ := min_fold ys x
      simp only [Bool.false_eq_true, if_false] at e
      refine ⟨m, by rw [if_neg Bool.false_ne_true]; exact e, ?_, fun z hz => ?_⟩
      · rcases List.mem_cons.mp h1 with k | k
        · rw [k]
          exact List.mem_cons_self
        · exact List.mem_cons_of_mem _ (List.mem_cons_of_mem _ k)
      · rcases List.mem_cons.mp hz with k | k
        · subst k
          exact h2 z List.mem_cons_self
        · rcases List.mem_cons.mp k with k | k
          · subst k
            exact le_tr (h2 x List.mem_cons_self) h
          · exact h2 z (List.mem_cons_of_mem _ k)
theorem min_ok [LtOk lt] {xs : List α} (h : xs ≠ []) : ∃ m, minN lt xs = some m ∧ extL lt false xs = some m ∧ m ∈ xs ∧ ∀ y ∈ xs, lt y m = false := by
  cases xs with
  | nil => exact absurd rfl h
  | cons x xs =>
    obtain ⟨m, e, h1, h2⟩ := min_fold (lt := lt) xs x
    have e2 : extL lt false (x :: xs) = some m := by
      rw [← e]
      rfl
    exact ⟨m, by unfold minN; exact e2, e2, h1, h2⟩
theorem min_nil : minN lt ([] : List α) = none := by
  unfold minN
  rfl
/-- xs without the first x -/
def takeOut [DecidableEq α] (xs : List α) (x : α) : List α := @List.erase α instBEqOfDecidableEq xs x
theorem takeOut_len [DecidableEq α] {xs : List α} {x : α} (h : x ∈ xs) : (takeOut xs x).length = xs.length - 1 := List.length_erase_of_mem h
theorem takeOut_perm [DecidableEq α] {xs : List α} {x : α} (h : x ∈ xs) : xs.Perm (x :: takeOut xs x) := List.perm_cons_erase h
theorem mem_takeOut [DecidableEq α] {xs : List α} {x y : α} (h : y ∈ takeOut xs x) : y ∈ xs := List.mem_of_mem_erase h
theorem remQ_ok [DecidableEq α] {xs : List α} {x : α} (h : x ∈ xs) : remQ xs x = some (takeOut xs x) := by
  unfold takeOut
  unfold remQ
  have go : ∀ (xs : List α), x ∈ xs → ((xs.findIdx? fun y => decide (y = x)).map fun j => xs.eraseIdx j) = some (xs.erase x) := by
    intro xs
    induction xs with
    | nil => intro h; cases h
    | cons y ys ih =>
      intro h
      rw [List.findIdx?_cons, List.erase_cons]
      by_cases e : y = x
      · simp [e]
      · have h' : x ∈ ys := by
          rcases List.mem_cons.mp h with k | k
          · exact absurd k.symm e
          · exact k
        have i := ih h'
        cases f : ys.findIdx? fun y => decide (y = x) with
        | none =>
          rw [f] at i
          cases i
        | some j =>
          rw [f] at i
          simp only [Option.map_some, Option.some.injEq] at i
          simp [e, f, i]
  exact go xs h
theorem range_at {lo hi x : Int} {d t : List Int} (h : d ++ x :: t = rangeL lo hi) : x = lo + d.length ∧ lo + d.length < hi := by
  have hl : d.length < (rangeL lo hi).length := by
    rw [← h, List.length_append, List.length_cons]
    omega
  have e : (rangeL lo hi)[d.length]? = some x := by
    rw [← h]
    simp
  have hl2 := hl
  rw [len_range] at hl2
  unfold rangeL at e
  rw [List.getElem?_map, List.getElem?_range hl2] at e
  refine ⟨(Option.some.inj e).symm, by omega⟩
theorem range_end {lo hi : Int} {d : List Int} (h : d ++ [] = rangeL lo hi) : d.length = (hi - lo).toNat := by
  rw [List.append_nil] at h
  rw [h, len_range]
theorem ret_lcGo {ι γ : Type} {f : ι → Res γ} {Q : γ → Prop} : ∀ (xs : List ι) (acc : List γ), (∀ x ∈ xs, Ret (f x) Q) → (∀ y ∈ acc, Q y) → acc.length + xs.length ≤ sizeLine → Ret (lcGo (fun _ => .ok true) f xs acc) fun l => l.length = acc.length + xs.length ∧ ∀ y ∈ l, Q y
  | [], acc, _, h, _ => ⟨acc, rfl, rfl, h⟩
  | x :: xs, acc, h1, h2, h3 => by
    rw [List.length_cons] at h3
    obtain ⟨y, e, hy⟩ := h1 x List.mem_cons_self
    rw [lcGo, ifR_t, e, bind_ok, if_pos (by omega)]
    refine ret_imp (ret_lcGo xs (acc ++ [y]) (fun z hz => h1 z (List.mem_cons_of_mem _ hz)) (fun z hz => ?_) (by rw [List.length_append, List.length_singleton]; omega)) fun l h => ⟨by rw [h.1, List.length_append, List.length_singleton, List.length_cons]; omega, h.2⟩
    rcases List.mem_append.mp hz with k | k
    · exact h2 z k
    · rw [List.mem_singleton] at k
      subst k
      exact hy
theorem ret_lc {ι γ : Type} {f : ι → Res γ} {Q : γ → Prop} {xs : List ι} (h : ∀ x ∈ xs, Ret (f x) Q) (hl : xs.length ≤ 16777216) : Ret (lcR (fun _ => .ok true) f xs) fun l => l.length = xs.length ∧ ∀ y ∈ l, Q y :=
  ret_imp (ret_lcGo xs [] h (fun _ z => (by cases z)) (by rw [List.length_nil, Nat.zero_add]; exact hl)) fun l h => ⟨by rw [h.1]; simp, h.2⟩
end
end TP

set_option Elab.async false
set_option linter.all false
set_option maxRecDepth 100000
set_option maxHeartbeats 4000000
set_option autoImplicit false
/-! TP, part 13: more that is walked. -/
namespace TP
open PySem PySem.Spec L2 RT
section
variable {K : Fg} {mg : Str → Option Value} {W : WX} {S : List Sl} {te : TE} {ι : Type}
theorem XI.revL {e : Enc ι} {m : Res (List ι)} (h : XB K mg W S te (vD (eL e)) m) : XI K mg W S (iRevA K te) e (m.bind fun xs => .ok xs.reverse) := fun F H σ A a Q q =>
  h F H σ A a _ ((Post.of_bind q).imp (fun xs k v F' H' p u => by
    obtain ⟨a, vs, rfl, h1, h2⟩ := dp_lst u
    have el : vs.length = xs.length := by rw [dpAll_len h2, List.length_map]
    refine ⟨a, vs, rfl, .inl ⟨sqL_sub p.fh h1, k _ F' H' p fun F2 H2 s1 s2 i => ⟨fun hi => ?_, fun x hx => ?_⟩⟩⟩
    · rw [List.length_reverse] at hi
      show vs.length ≤ i
      omega
    · have hi : i < xs.length := by
        have := (List.getElem?_eq_some_iff.mp hx).1
        rw [List.length_reverse] at this
        exact this
      have hx' : xs[vs.length - 1 - i]? = some x := by
        rw [List.getElem?_reverse hi] at hx
        rw [el]
        exact hx
      obtain ⟨v, h3, h4⟩ := dpAll_get (d := e x) h2 (by rw [List.getElem?_map, hx']; rfl)
      refine ⟨⟨by omega, vs, v, sqL_sub (s1.trans s2) h1, h3⟩, fun w H' y => ?_⟩
      obtain ⟨rfl, hy⟩ := y
      refine ⟨F2, .refl s2, ?_⟩
      have := hy vs (sqL_sub (s1.trans s2) h1)
      rw [h3] at this
      cases this
      exact dp_sub s1 h4) fun _ z => z)
theorem XI.revV {e : Enc ι} {m : Res (List ι)} (h : XB K mg W S te (vD (eV e)) m) : XI K mg W S (iRevA K te) e (m.bind fun xs => .ok xs.reverse) := fun F H σ A a Q q =>
  h F H σ A a _ ((Post.of_bind q).imp (fun xs k v F' H' p u => by
    obtain ⟨a, vs, rfl, h1, h2⟩ := dp_tup u
    have el : vs.length = xs.length := by rw [dpAll_len h2, List.length_map]
    refine ⟨a, vs, rfl, .inr ⟨sqT_sub p.fh h1, k _ F' H' p fun F2 H2 s1 s2 i => ⟨fun hi => ?_, fun x hx => ?_⟩⟩⟩
    · rw [List.length_reverse] at hi
      show vs.length ≤ i
      omega
    · have hi : i < xs.length := by
        have := (List.getElem?_eq_some_iff.mp hx).1
        rw [List.length_reverse] at this
        exact this
      have hx' : xs[vs.length - 1 - i]? = some x := by
        rw [List.getElem?_reverse hi] at hx
        rw [el]
        exact hx
      obtain ⟨v, h3, h4⟩ := dpAll_get (d := e x) h2 (by rw [List.getElem?_map, hx']; rfl)
      refine ⟨⟨by omega, vs, v, sqT_sub (s1.trans s2) h1, h3⟩, fun w H' y => ?_⟩
      obtain ⟨rfl, hy⟩ := y
      refine ⟨F2, .refl s2, ?_⟩
      have := hy vs (sqT_sub (s1.trans s2) h1)
      rw [h3] at this
      cases this
      exact dp_sub s1 h4) fun _ z => z)
theorem forM_map {α β ι τ1 : Type} {f : ι → τ1 → Res (Fl α (τ1 × ι) (τ1 × ι))} {g : ι → ι} {s : τ1} : ∀ (xs d : List ι), (∀ x ∈ xs, f x s = .ok (.nx (s, g x))) → (forM f d xs s : Res (Fl α β (τ1 × List ι))) = .ok (.nx (s, d ++ xs.map g))
  | [], d, _ => by rw [List.map_nil, List.append_nil]; rfl
  | x :: xs, d, h => by
    rw [TP.forM, h x List.mem_cons_self, bind_ok]
    show TP.forM f (d ++ [g x]) xs s = _
    rw [forM_map xs (d ++ [g x]) fun y hy => h y (List.mem_cons_of_mem _ hy), List.append_assoc]
    rfl
theorem itQ_ok {ι : Type} {xs : List ι} {j : Int} (h0 : 0 ≤ j) (h1 : j < xs.length) : itQ xs j = some (xs[j.toNat]'(by omega), j.toNat) := by
  unfold itQ ixN
  rw [if_pos h0, if_pos h1, Option.bind_some, List.getElem?_eq_getElem (by omega)]
  rfl
theorem flatten_set_len {α : Type} : ∀ (R : List (List α)) (k : Nat) (hk : k < R.length) (y : α), (R.set k (R[k] ++ [y])).flatten.length = R.flatten.length + 1
  | [], k, hk, _ => absurd hk (Nat.not_lt_zero _)
  | r :: R, 0, _, y => by simp; omega
  | r :: R, k + 1, hk, y => by
    have := flatten_set_len R k (by simpa using hk) y
    simp only [List.set_cons_succ, List.flatten_cons, List.length_append, List.getElem_cons_succ]
    omega
theorem mem_flat_len {α : Type} {R : List (List α)} {r : List α} (h : r ∈ R) : r.length ≤ R.flatten.length := by
  obtain ⟨a, b, rfl⟩ := List.append_of_mem h
  simp
  omega
/-- a loop over owned items that leaves them as they are -/
theorem ret_forM {α β ι τ1 : Type} {f : ι → τ1 → Res (Fl α (τ1 × ι) (τ1 × ι))} {P : Fl α β (τ1 × List ι) → Prop} (I : List ι → List ι → τ1 → Prop)
    (step : ∀ d x t s, I d (x :: t) s → Ret (f x s) fun fl => match fl with
      | .nx s' => s'.2 = x ∧ I (d ++ [x]) t s'.1
      | .ct s' => s'.2 = x ∧ I (d ++ [x]) t s'.1
      | .bk _ => False
      | .rt r => P (.rt r))
    (fin : ∀ d s, I d [] s → P (.nx (s, d))) : ∀ (xs d : List ι) (s : τ1), I d xs s → Ret (forM f d xs s) P
  | [], d, s, h => ⟨_, rfl, fin d s h⟩
  | x :: xs, d, s, h => by
    obtain ⟨fl, e, k⟩ := step d x xs s h
    rw [TP.forM, e, bind_ok]
    cases fl with
    | nx s' =>
      have k' : s'.2 = x ∧ I (d ++ [x]) xs s'.1 := k
      show Ret (TP.forM f (d ++ [s'.2]) xs s'.1) P
      rw [k'.1]
      exact ret_forM I step fin xs _ _ k'.2
    | ct s' =>
      have k' : s'.2 = x ∧ I (d ++ [x]) xs s'.1 := k
      show Ret (TP.forM f (d ++ [s'.2]) xs s'.1) P
      rw [k'.1]
      exact ret_forM I step fin xs _ _ k'.2
    | bk s' => exact False.elim k
    | rt r => exact ⟨_, rfl, k⟩
theorem takeOut_cons {α : Type} [DecidableEq α] (x m : α) (xs : List α) : takeOut (x :: xs) m = if x = m then xs else x :: takeOut xs m := by
  unfold takeOut
  rw [List.erase_cons]
  by_cases e : x = m <;> simp [e]
theorem takeOut_map {α β : Type} [DecidableEq α] [DecidableEq β] {f : α → β} (hf : ∀ a b, f a = f b → a = b) (m : α) : ∀ xs : List α, takeOut (xs.map f) (f m) = (takeOut xs m).map f
  | [] => rfl
  | x :: xs => by
    rw [List.map_cons, takeOut_cons, takeOut_cons, takeOut_map hf m xs]
    by_cases e : x = m
    · rw [if_pos e, if_pos (congrArg f e)]
    · rw [if_neg e, if_neg fun k => e (hf _ _ k), List.map_cons]
end
end TP

set_option Elab.async false
set_option linter.all false
set_option maxRecDepth 100000
set_option maxHeartbeats 4000000
set_option autoImplicit false
/-! TP, part 14: more operations; facts for the plain laws. -/
namespace TP
open PySem PySem.Spec L2
section
variable {K : Fg} {mg : Str → Option Value} {W : WX} {S : List Sl} {ta tb : TE}
def sm64 (a b : Int) : Bool := decide ((-(2 ^ 64) < a ∧ a < 2 ^ 64) ∨ (-(2 ^ 64) < b ∧ b < 2 ^ 64))
/-- times, one side small -/
@[irreducible] def mulS (a b : Int) : Option Int := if sm64 a b = true then some (a * b) else none
theorem o_mulS : Op K (rI CMul fun i j => .int (i * j)) vI vI vI mulS := o_IC fun a b z h => by
  unfold mulS at h
  split at h
  · rename_i k
    cases h
    exact ⟨show (-(2 ^ 64) < a ∧ a < 2 ^ 64) ∨ (-(2 ^ 64) < b ∧ b < 2 ^ 64) from of_decide_eq_true k, rfl⟩
  · cases h
theorem mulS_ok {a b : Int} (h : -18446744073709551616 < b ∧ b < 18446744073709551616) : mulS a b = some (a * b) := by
  unfold mulS
  rw [if_pos (by unfold sm64; exact decide_eq_true (.inr ⟨by omega, by omega⟩))]
end
section
variable {α β γ τ τ1 ι : Type}
/-- unlike ones, all among others: no more than these -/
theorem nodup_len [DecidableEq α] : ∀ {xs ys : List α}, xs.Nodup → (∀ x ∈ xs, x ∈ ys) → xs.length ≤ ys.length
  | [], _, _, _ => Nat.zero_le _
  | x :: xs, ys, nd, h => by
    have c := List.nodup_cons.mp nd
    have hx : x ∈ ys := h x List.mem_cons_self
    have := nodup_len (xs := xs) (ys := takeOut ys x) c.2 fun y hy => by
      have hy' : y ∈ ys := h y (List.mem_cons_of_mem _ hy)
      have p := takeOut_perm hx
      rcases List.mem_cons.mp (p.mem_iff.mp hy') with k | k
      · rw [k] at hy
        exact absurd hy c.1
      · exact k
    have l := takeOut_len hx
    have p := len_pos (List.ne_nil_of_mem hx)
    rw [List.length_cons]
    omega
theorem range_asc {lo hi : Int} : (rangeL lo hi).Pairwise (· < ·) := by
  unfold rangeL
  rw [List.pairwise_map]
  exact List.pairwise_lt_range.imp fun h => by omega
theorem asc_nodup {xs : List Int} (h : xs.Pairwise (· < ·)) : xs.Nodup := h.imp fun h => by omega
theorem chain_ok {α : Type} {a b c : α} {p q : α → α → Bool} : chainR (.ok a) (.ok b) (.ok c) p q = .ok (p a b && q b c) := by
  unfold chainR
  simp only [bind_ok]
  cases p a b <;> rfl
theorem rep_one (x : α) (n : Nat) : (List.replicate n [x]).flatten = List.replicate n x := by
  induction n with
  | zero => rfl
  | succ n ih => rw [List.replicate_succ, List.flatten_cons, ih]; rfl
theorem zip_map_snd (xs : List α) : (xs.zipIdx.map fun p => ((p.2 : Int), p.1)).map Prod.snd = xs := by
  rw [List.map_map]
  have : (Prod.snd ∘ fun p : α × Nat => ((p.2 : Int), p.1)) = Prod.fst := rfl
  rw [this, List.zipIdx_map_fst]
end
end TP

set_option Elab.async false
set_option linter.all false
set_option maxRecDepth 100000
set_option maxHeartbeats 4000000
set_option autoImplicit false
/-! TP, part 15: expressions that change what is owned. -/
namespace TP
open PySem PySem.Spec L2
section
variable (K : Fg) (mg : Str → Option Value) (W : WX) {α β τ κ ι : Type}
/-- a value that can be read so; behind it the slots N s -/
def XE (S : List Sl) (te : TE) (U : View α) (N : τ → List Sl) (m : Res (α × τ)) : Prop :=
  ∀ F H σ A, At K F H σ S A → ∀ Q : VK, Post m (fun x => ∀ v F' H' A', Nx F H A F' H' A' → At K F' H' σ (N x.2) A' → U.ok K F' H' v x.1 → Q v H') (YEr K mg W F H A) → te σ H Q
/-- a new value of one's own -/
def XEO (S : List Sl) (te : TE) (r : Rp α) (N : τ → List Sl) (m : Res (α × τ)) : Prop :=
  ∀ F H σ A, At K F H σ S A → ∀ Q : VK, Post m (fun x => ∀ v F' H' A' Av, Nx F H A F' H' (A' ++ Av) → At K F' H' σ (N x.2) A' → r.ok K F' H' v x.1 Av → (A' ++ Av).Nodup → (∀ a ∈ Av, F' a = none) → Q v H') (YEr K mg W F H A) → te σ H Q
def XTE (S : List Sl) (tt : TT) (N : τ → List Sl) (m : Res (Bool × τ)) : Prop :=
  ∀ F H σ A, At K F H σ S A → ∀ Q : Bool → Hp → Prop, Post m (fun x => ∀ F' H' A', Nx F H A F' H' A' → At K F' H' σ (N x.2) A' → Q x.1 H') (YEr K mg W F H A) → tt σ H Q
def XIE (S : List Sl) (wi : TI) (e : Enc ι) (N : τ → List Sl) (m : Res (List ι × τ)) : Prop :=
  ∀ F H σ A, At K F H σ S A → ∀ Q : It → Hp → Prop, Post m (fun x => ∀ J F' H' A', Nx F H A F' H' A' → At K F' H' σ (N x.2) A' → Walk K e J F' x.1 → Q J H') (YEr K mg W F H A) → wi σ H Q
/-- an argument: frozen data, or the variable at i (its value known to be w) -/
inductive Ar where
  | dat (d : PyData)
  | ptr (i : Nat)
  | ptp (i : Nat) (w : V)
def ArOk (F : Hp) (σ : L2.St) : List V → List Ar → Prop
  | [], [] => True
  | v :: vs, .dat d :: as => Dp K F v d ∧ ArOk F σ vs as
  | v :: vs, .ptr i :: as => σ[i]? = some (some v) ∧ ArOk F σ vs as
  | v :: vs, .ptp i w :: as => (v = w ∧ σ[i]? = some (some v)) ∧ ArOk F σ vs as
  | _, _ => False
def XEG (S : List Sl) (tr : TA) (D : κ → List Ar) (N : τ → List Sl) (m : Res (κ × τ)) : Prop :=
  ∀ F H σ A, At K F H σ S A → ∀ Q : List V → Hp → Prop, Post m (fun x => ∀ vs F' H' A', Nx F H A F' H' A' → At K F' H' σ (N x.2) A' → ArOk K F' σ vs (D x.1) → Q vs H') (YEr K mg W F H A) → tr σ H Q
end
section
variable {K : Fg} {mg : Str → Option Value} {W : WX} {S S' : List Sl} {te ta tb tc : TE} {tr : TA} {tt t1 t2 : TT} {t u : TS}
variable {α β γ δ τ κ ι ζ : Type} {N : τ → List Sl}
theorem nx_app {F H F' H' : Hp} {A A' Av : List Addr} (p : Pu F H F' H') (h : ∀ z ∈ A', z ∈ A) (fr : ∀ z ∈ Av, H z = none) : Nx F H A F' H' (A' ++ Av) := p.nx fun z hz => (List.mem_append.mp hz).imp (h z) (fr z)
theorem At.apart {F H : Hp} {σ : L2.St} {A Av : List Addr} (a : At K F H σ S A) (nd : Av.Nodup) (fr : ∀ z ∈ Av, H z = none) : (A ++ Av).Nodup := List.nodup_append.mpr ⟨a.nd, nd, fun x hx y hy e => by
  subst e
  exact a.sl.dom x hx (fr x hy)⟩
theorem XE.of {U : View α} {m : Res α} (s : τ) (h : XB K mg W S te U m) (hS : N s = S) : XE K mg W S te U N (m.bind fun x => .ok (x, s)) := by
  subst hS
  exact fun F H σ A a Q q =>
  h F H σ A a Q ((Post.of_bind q).imp (fun x k v F' H' p u => k v F' H' A (p.nx fun _ z => .inl z) (a.pu p) u) fun e z => z.x)
theorem XEO.of {r : Rp α} {m : Res α} (s : τ) (h : XO K mg W S te r m) (hS : N s = S) : XEO K mg W S te r N (m.bind fun x => .ok (x, s)) := by
  subst hS
  exact fun F H σ A a Q q =>
  h F H σ A a Q ((Post.of_bind q).imp (fun x k v F' H' Av p u fr => k v F' H' A Av (nx_app p (fun _ z => z) fr.fr) (a.pu p) u (a.apart fr.nd fr.fr) fr.fo) fun e z => z.x)
theorem XTE.of {m : Res Bool} (s : τ) (h : XT K mg W S tt m) (hS : N s = S) : XTE K mg W S tt N (m.bind fun x => .ok (x, s)) := by
  subst hS
  exact fun F H σ A a Q q =>
  h F H σ A a Q ((Post.of_bind q).imp (fun x k F' H' p => k F' H' A (p.nx fun _ z => .inl z) (a.pu p)) fun e z => z.x)
theorem XIE.of {wi : TI} {e : Enc ι} {m : Res (List ι)} (s : τ) (h : XI K mg W S wi e m) (hS : N s = S) : XIE K mg W S wi e N (m.bind fun x => .ok (x, s)) := by
  subst hS
  exact fun F H σ A a Q q =>
  h F H σ A a Q ((Post.of_bind q).imp (fun x k J F' H' p w => k J F' H' A (p.nx fun _ z => .inl z) (a.pu p) w) fun e z => z.x)
theorem XE.le {U U' : View α} {m : Res (α × τ)} (h : XE K mg W S te U N m) (l : U.le U') : XE K mg W S te U' N m := fun F H σ A a Q q =>
  h F H σ A a Q (q.imp (fun x k v F' H' A' n a' u => k v F' H' A' n a' (l _ _ _ _ _ a'.fh u)) fun _ z => z)
theorem XE.own {e : Enc α} {m : Res (α × τ)} (h : XE K mg W S te (vD e) N m) : XEO K mg W S te (fz e) N m := fun F H σ A a Q q =>
  h F H σ A a Q (q.imp (fun x k v F' H' A' n a' u => k v F' H' A' [] (by rw [List.append_nil]; exact n) a' ⟨rfl, u⟩ (by rw [List.append_nil]; exact a'.nd) fun _ z => nomatch z) fun _ z => z)
theorem XEO.frz {r : Rp α} {e : Enc α} {m : Res (α × τ)} (h : XEO K mg W S te r N m) (l : Frz r e) : XE K mg W S te (vD e) N m := fun F H σ A a Q q =>
  h F H σ A a Q (q.imp (fun x k v F' H' A' Av n a' u nd fo => by
    have nv : ∀ z, H z ≠ none → z ∉ A → z ∉ Av := fun z h1 h2 h3 => (n.aa z (List.mem_append_right _ h3)).elim h2 h1
    have nda := List.nodup_append.mp nd
    refine k v (addF F' H' Av) H' A' ⟨n.ff.trans (sub_add fo), n.hh, fun z h1 h2 => (addF_out (nv z h1 h2)).trans (n.fo z h1 h2), fun z hz => n.aa z (List.mem_append_left _ hz), n.hs⟩ ⟨fun z o hz => ?_, a'.nd, fun z hz => ?_, a'.sl.mono (sub_add fo) fun _ _ => rfl⟩ (l _ _ _ _ _ _ _ u (sub_add fo) fun z hz => addF_in hz)
    · by_cases c : z ∈ Av
      · rw [addF_in c] at hz
        exact hz
      · rw [addF_out c] at hz
        exact a'.fh z o hz
    · rw [addF_out fun c => nda.2.2 z hz z c rfl]
      exact a'.fo z hz) fun _ z => z)
theorem XE.op {r : R2} {e : Enc α} {f : Enc β} {U1 : View α} {U2 : View β} {U3 : View γ} {g : α → β → Option γ} {ma : Res (α × τ)} {mb : τ → Res (β × τ)} (ho : Op K r U1 U2 U3 g) (l1 : (vD e).le U1) (l2 : (vD f).le U2)
    (ha : XE K mg W S ta (vD e) N ma) (hb : ∀ s, XE K mg W (N s) tb (vD f) N (mb s)) : XE K mg W S (tOp r ta tb) U3 N (ma.bind fun p => (mb p.2).bind fun q => (chk (g p.1 q.1)).bind fun z => .ok (z, q.2)) := fun F H σ A a Q q =>
  ha F H σ A a _ ((Post.of_bind q).imp (fun p k v F1 H1 A1 n1 a1 u1 => hb p.2 F1 H1 σ A1 a1 _ ((Post.of_bind k).imp (fun y k2 w F2 H2 A2 n2 a2 u2 => by
    obtain ⟨z, ez, k3⟩ := Post.of_chk (Post.of_bind k2)
    exact ho F2 H2 v w p.1 y.1 z a2.fh (l1 _ _ _ _ _ a2.fh (dp_sub n2.ff u1)) (l2 _ _ _ _ _ a2.fh u2) ez Q fun w' F3 H3 p3 u3 => k3 w' F3 H3 A2 ((n1.trans n2).trans (p3.nx fun _ z => .inl z)) (a2.pu p3) u3) fun e z => YEr.from n1 z)) fun _ z => z)
theorem XEO.op {r : R2} {e : Enc α} {f : Enc β} {U1 : View α} {U2 : View β} {r3 : Rp γ} {g : α → β → Option γ} {ma : Res (α × τ)} {mb : τ → Res (β × τ)} (ho : OpO K r U1 U2 r3 g) (l1 : (vD e).le U1) (l2 : (vD f).le U2)
    (ha : XE K mg W S ta (vD e) N ma) (hb : ∀ s, XE K mg W (N s) tb (vD f) N (mb s)) : XEO K mg W S (tOp r ta tb) r3 N (ma.bind fun p => (mb p.2).bind fun q => (chk (g p.1 q.1)).bind fun z => .ok (z, q.2)) := fun F H σ A a Q q =>
  ha F H σ A a _ ((Post.of_bind q).imp (fun p k v F1 H1 A1 n1 a1 u1 => hb p.2 F1 H1 σ A1 a1 _ ((Post.of_bind k).imp (fun y k2 w F2 H2 A2 n2 a2 u2 => by
    obtain ⟨z, ez, k3⟩ := Post.of_chk (Post.of_bind k2)
    exact ho F2 H2 v w p.1 y.1 z a2.fh (l1 _ _ _ _ _ a2.fh (dp_sub n2.ff u1)) (l2 _ _ _ _ _ a2.fh u2) ez Q fun w' F3 H3 Av p3 u3 fr => k3 w' F3 H3 A2 Av ((n1.trans n2).trans (nx_app p3 (fun _ z => z) fr.fr)) (a2.pu p3) u3 (a2.apart fr.nd fr.fr) fr.fo) fun e z => YEr.from n1 z)) fun _ z => z)
/-- a number and one that is known -/
theorem XE.opc {C : Int → Int → Prop} {g : Int → Int → Int} {m : Res (Int × τ)} {c : Int} (ha : XE K mg W S ta vI N m) (hC : ∀ x, C x c) : XE K mg W S (tOp (rI C fun i j => .int (g i j)) ta (tC (.int c))) vI N (m.bind fun x => .ok (g x.1 c, x.2)) := fun F H σ A a Q q =>
  ha F H σ A a _ ((Post.of_bind q).imp (fun p k v F1 H1 A1 n1 a1 u1 => ⟨p.1, c, dp_int u1, rfl, hC _, k _ F1 H1 A1 n1 a1 (.int _)⟩) fun _ z => z)
theorem XE.cl1 {r : List V → Hp → VK → Prop} {e : Enc α} {U1 : View α} {U3 : View γ} {ma : Res (α × τ)} {g : α → Option γ} (ho : Cl1 K r U1 U3 g) (l1 : (vD e).le U1) (ha : XE K mg W S ta (vD e) N ma) : XE K mg W S (tCB r (tCons ta tNil)) U3 N (ma.bind fun p => (chk (g p.1)).bind fun z => .ok (z, p.2)) := fun F H σ A a Q q =>
  ha F H σ A a _ ((Post.of_bind q).imp (fun p k v F1 H1 A1 n1 a1 u1 => by
    obtain ⟨z, ez, k3⟩ := Post.of_chk (Post.of_bind k)
    exact ho F1 H1 v p.1 z a1.fh (l1 _ _ _ _ _ a1.fh u1) ez Q fun w F3 H3 p3 u3 => k3 w F3 H3 A1 (n1.trans (p3.nx fun _ z => .inl z)) (a1.pu p3) u3) fun _ z => z)
theorem XEO.cl1 {r : List V → Hp → VK → Prop} {e : Enc α} {U1 : View α} {r3 : Rp γ} {ma : Res (α × τ)} {g : α → Option γ} (ho : Cl1O K r U1 r3 g) (l1 : (vD e).le U1) (ha : XE K mg W S ta (vD e) N ma) : XEO K mg W S (tCB r (tCons ta tNil)) r3 N (ma.bind fun p => (chk (g p.1)).bind fun z => .ok (z, p.2)) := fun F H σ A a Q q =>
  ha F H σ A a _ ((Post.of_bind q).imp (fun p k v F1 H1 A1 n1 a1 u1 => by
    obtain ⟨z, ez, k3⟩ := Post.of_chk (Post.of_bind k)
    exact ho F1 H1 v p.1 z a1.fh (l1 _ _ _ _ _ a1.fh u1) ez Q fun w F3 H3 Av p3 u3 fr => k3 w F3 H3 A1 Av (n1.trans (nx_app p3 (fun _ z => z) fr.fr)) (a1.pu p3) u3 (a1.apart fr.nd fr.fr) fr.fo) fun _ z => z)
theorem XE.castM {e : Enc α} {f : Enc β} {m : Res (α × τ)} (h : XE K mg W S te (vD e) N m) (g : α → Res β) (hg : ∀ x, match g x with | .ok y => f y = e x | .er _ => False | .bad => True) : XE K mg W S te (vD f) N (m.bind fun p => (g p.1).bind fun y => .ok (y, p.2)) := fun F H σ A a Q q =>
  h F H σ A a Q ((Post.of_bind q).imp (fun x k v F' H' A' n a' u => by
    have := hg x.1
    cases y : g x.1 with
    | ok z =>
      rw [y] at this k
      refine k v F' H' A' n a' (show Dp K F' v (f z) from ?_)
      rw [this]
      exact u
    | er z =>
      rw [y] at this
      exact this.elim
    | bad =>
      rw [y] at k
      exact k.elim) fun _ z => z)
theorem XE.cast {e : Enc α} {f : Enc β} {m : Res (α × τ)} (h : XE K mg W S te (vD e) N m) (g : α → β) (hg : ∀ x, f (g x) = e x) : XE K mg W S te (vD f) N (m.bind fun p => .ok (g p.1, p.2)) := fun F H σ A a Q q =>
  h F H σ A a Q ((Post.of_bind q).imp (fun x k v F' H' A' n a' u => k v F' H' A' n a' (show Dp K F' v (f (g x.1)) by
    rw [hg]
    exact u)) fun _ z => z)
theorem XE.unopt {e : Enc ι} {m : Res (Option ι × τ)} (h : XE K mg W S te (vD (eO e)) N m) : XE K mg W S te (vD e) N (m.bind fun p => (optQ p.1).bind fun y => .ok (y, p.2)) := h.castM optQ fun x => by
  cases x with
  | none => trivial
  | some x => rfl
/-! ### tests -/
theorem XTE.tst {m : Res (Bool × τ)} (h : XE K mg W S te (vD eB) N m) : XTE K mg W S (tTest te) N m := fun F H σ A a Q q =>
  h F H σ A a _ (q.imp (fun b k v F' H' A' n a' u => ⟨b.1, dp_bl u, k F' H' A' n a'⟩) fun _ z => z)
theorem XTE.tB {m : Res (Bool × τ)} (h : XE K mg W S te (vD eB) N m) : XTE K mg W S (L2.tB te) N m := fun F H σ A a Q q =>
  h F H σ A a _ (q.imp (fun b k v F' H' A' n a' u => ⟨b.1, dp_bl u, k F' H' A' n a'⟩) fun _ z => z)
theorem XTE.not {m : Res (Bool × τ)} (h : XTE K mg W S tt N m) : XTE K mg W S (tNot tt) N (m.bind fun b => .ok (!b.1, b.2)) := fun F H σ A a Q q =>
  h F H σ A a _ ((Post.of_bind q).imp (fun b k F' H' A' n a' => k F' H' A' n a') fun _ z => z)
theorem XE.notV {m : Res (Bool × τ)} (h : XE K mg W S ta (vD eB) N m) : XE K mg W S (tNotV ta) (vD eB) N (m.bind fun b => .ok (!b.1, b.2)) := fun F H σ A a Q q =>
  h F H σ A a _ ((Post.of_bind q).imp (fun b k v F' H' A' n a' u => ⟨b.1, dp_bl u, k _ F' H' A' n a' (.bl _)⟩) fun _ z => z)
def andE (m1 : Res (Bool × τ)) (m2 : τ → Res (Bool × τ)) : Res (Bool × τ) := m1.bind fun p => if p.1 = true then m2 p.2 else .ok (false, p.2)
def orE (m1 : Res (Bool × τ)) (m2 : τ → Res (Bool × τ)) : Res (Bool × τ) := m1.bind fun p => if p.1 = true then .ok (true, p.2) else m2 p.2
theorem Post.if_t {P : α → Prop} {E : Exn → Prop} {b : Bool} {x y : Res α} (h : Post (if b = true then x else y) P E) (e : b = true) : Post x P E := by rwa [if_pos e] at h
theorem Post.if_f {P : α → Prop} {E : Exn → Prop} {b : Bool} {x y : Res α} (h : Post (if b = true then x else y) P E) (e : b = false) : Post y P E := by rwa [if_neg (by rw [e]; exact Bool.false_ne_true)] at h
theorem XTE.and {m1 : Res (Bool × τ)} {m2 : τ → Res (Bool × τ)} (h1 : XTE K mg W S t1 N m1) (h2 : ∀ s, XTE K mg W (N s) t2 N (m2 s)) : XTE K mg W S (tAnd t1 t2) N (andE m1 m2) := fun F H σ A a Q q =>
  h1 F H σ A a _ ((Post.of_bind q).imp (fun p k F' H' A' n a' => by
    obtain ⟨b, s⟩ := p
    cases b with
    | true => exact h2 s F' H' σ A' a' Q (Post.imp (k.if_t rfl) (fun c k2 F2 H2 A2 n2 a2 => k2 F2 H2 A2 (n.trans n2) a2) fun e z => YEr.from n z)
    | false => exact (k.if_f rfl : _) F' H' A' n a') fun _ z => z)
theorem XTE.or {m1 : Res (Bool × τ)} {m2 : τ → Res (Bool × τ)} (h1 : XTE K mg W S t1 N m1) (h2 : ∀ s, XTE K mg W (N s) t2 N (m2 s)) : XTE K mg W S (tOr t1 t2) N (orE m1 m2) := fun F H σ A a Q q =>
  h1 F H σ A a _ ((Post.of_bind q).imp (fun p k F' H' A' n a' => by
    obtain ⟨b, s⟩ := p
    cases b with
    | true => exact (k.if_t rfl : _) F' H' A' n a'
    | false => exact h2 s F' H' σ A' a' Q (Post.imp (k.if_f rfl) (fun c k2 F2 H2 A2 n2 a2 => k2 F2 H2 A2 (n.trans n2) a2) fun e z => YEr.from n z)) fun _ z => z)
theorem XE.andV {m1 : Res (Bool × τ)} {m2 : τ → Res (Bool × τ)} (h1 : XE K mg W S ta (vD eB) N m1) (h2 : ∀ s, XE K mg W (N s) tb (vD eB) N (m2 s)) : XE K mg W S (tAndV ta tb) (vD eB) N (andE m1 m2) := fun F H σ A a Q q =>
  h1 F H σ A a _ ((Post.of_bind q).imp (fun p k v F' H' A' n a' u => ⟨p.1, dp_bl u, by
    obtain ⟨b, s⟩ := p
    cases b with
    | true => exact h2 s F' H' σ A' a' Q (Post.imp (k.if_t rfl) (fun c k2 v2 F2 H2 A2 n2 a2 => k2 v2 F2 H2 A2 (n.trans n2) a2) fun e z => YEr.from n z)
    | false => exact (k.if_f rfl : _) _ F' H' A' n a' (.bl false)⟩) fun _ z => z)
theorem XE.orV {m1 : Res (Bool × τ)} {m2 : τ → Res (Bool × τ)} (h1 : XE K mg W S ta (vD eB) N m1) (h2 : ∀ s, XE K mg W (N s) tb (vD eB) N (m2 s)) : XE K mg W S (tOrV ta tb) (vD eB) N (orE m1 m2) := fun F H σ A a Q q =>
  h1 F H σ A a _ ((Post.of_bind q).imp (fun p k v F' H' A' n a' u => ⟨p.1, dp_bl u, by
    obtain ⟨b, s⟩ := p
    cases b with
    | true => exact (k.if_t rfl : _) _ F' H' A' n a' (.bl true)
    | false => exact h2 s F' H' σ A' a' Q (Post.imp (k.if_f rfl) (fun c k2 v2 F2 H2 A2 n2 a2 => k2 v2 F2 H2 A2 (n.trans n2) a2) fun e z => YEr.from n z)⟩) fun _ z => z)
/-! ### arguments -/
theorem ArOk.sub {F F' : Hp} {σ : L2.St} (s : Sub F F') : ∀ {vs : List V} {as : List Ar}, ArOk K F σ vs as → ArOk K F' σ vs as
  | [], [], _ => trivial
  | v :: vs, .dat d :: as, h => ⟨dp_sub s h.1, ArOk.sub s h.2⟩
  | v :: vs, .ptr i :: as, h => ⟨h.1, ArOk.sub s h.2⟩
  | v :: vs, .ptp i w :: as, h => ⟨h.1, ArOk.sub s h.2⟩
  | [], _ :: _, h => h.elim
  | _ :: _, [], h => h.elim
theorem XEG.nil (s : τ) (hS : N s = S) : XEG K mg W S tNil (fun _ : Unit => []) N (.ok ((), s)) := by
  subst hS
  exact fun F H σ A a Q q => q [] F H A Nx.refl a trivial
theorem XEG.dat {e : Enc α} {D : κ → List Ar} {ma : Res (α × τ)} {mr : τ → Res (κ × τ)} (ha : XE K mg W S ta (vD e) N ma) (hr : ∀ s, XEG K mg W (N s) tr D N (mr s)) :
    XEG K mg W S (tCons ta tr) (fun p : α × κ => .dat (e p.1) :: D p.2) N (ma.bind fun p => (mr p.2).bind fun q => .ok ((p.1, q.1), q.2)) := fun F H σ A a Q q =>
  ha F H σ A a _ ((Post.of_bind q).imp (fun p k v F1 H1 A1 n1 a1 u1 => hr p.2 F1 H1 σ A1 a1 _ ((Post.of_bind k).imp (fun y k2 vs F2 H2 A2 n2 a2 u2 => k2 (v :: vs) F2 H2 A2 (n1.trans n2) a2 ⟨dp_sub n2.ff u1, u2⟩) fun e z => YEr.from n1 z)) fun _ z => z)
theorem XEG.ptr {i : Nat} {ρ : Rp α} {x : α} {D : κ → List Ar} {mr : Res (κ × τ)} (hs : S[i]? = some (.val ρ x)) (hr : XEG K mg W S tr D N mr) : XEG K mg W S (tCons (tVar i) tr) (fun p => .ptr i :: D p) N mr := fun F H σ A a Q q => by
  obtain ⟨o, A1, Ai, A2, e1, e2, e3, e4⟩ := a.sl.at hs
  cases o with
  | none => exact e3.elim
  | some v => exact ⟨v, e1, hr F H σ A a _ (q.imp (fun x k vs F' H' A' n a' u => k (v :: vs) F' H' A' n a' ⟨e1, u⟩) fun _ z => z)⟩
/-- a thing whose value is known -/
theorem XEG.ptp {i : Nat} {w : V} {ρ : Rp α} {x : α} {D : κ → List Ar} {mr : Res (κ × τ)} (hs : S[i]? = some (.val (pin w ρ) x)) (hr : XEG K mg W S tr D N mr) : XEG K mg W S (tCons (tVar i) tr) (fun p => .ptp i w :: D p) N mr := fun F H σ A a Q q => by
  obtain ⟨o, A1, Ai, A2, e1, e2, e3, e4⟩ := a.sl.at hs
  cases o with
  | none => exact e3.elim
  | some v =>
    have e3' : v = w ∧ ρ.ok K F H v x Ai := e3
    exact ⟨v, e1, hr F H σ A a _ (q.imp (fun x k vs F' H' A' n a' u => k (v :: vs) F' H' A' n a' ⟨⟨e3'.1, e1⟩, u⟩) fun _ z => z)⟩
/-- what the callee gets, what is left -/
inductive Take : List Ar → List Sl → List Sl → List Sl → Prop where
  | nil {S : List Sl} : Take [] S [] S
  | dat {α : Type} {e : Enc α} {x : α} {as : List Ar} {S G S' : List Sl} : Take as S G S' → Take (.dat (e x) :: as) S (.val (fz e) x :: G) S'
  | ptr {α : Type} {i : Nat} {ρ : Rp α} {x : α} {as : List Ar} {S G S' : List Sl} : S[i]? = some (.val ρ x) → Take as (S.set i .nil) G S' → Take (.ptr i :: as) S (.val ρ x :: G) S'
  | ptp {α : Type} {i : Nat} {w : V} {ρ : Rp α} {x : α} {as : List Ar} {S G S' : List Sl} : S[i]? = some (.val (pin w ρ) x) → Take as (S.set i .nil) G S' → Take (.ptp i w :: as) S (.val ρ x :: G) S'
theorem At.takeOne {F H : Hp} {σ : L2.St} {A : List Addr} {i : Nat} {s : Sl} (a : At K F H σ S A) (hs : S[i]? = some s) : ∃ o A1 Ai, σ[i]? = some o ∧ SlOk K F H o s Ai ∧ At K F H σ (S.set i .nil) A1 ∧ (A1 ++ Ai).Nodup ∧ ∀ z, z ∈ A1 ++ Ai → z ∈ A := by
  obtain ⟨o, C1, Ci, C2, g1, g2, g3, g4⟩ := a.sl.at hs
  subst g2
  have h5 := g4 F H o .nil [] (.refl _) (fun _ _ => rfl) (by cases o <;> rfl)
  have eσ : σ.set i o = σ := by
    refine List.ext_getElem? fun j => ?_
    by_cases e : i = j
    · subst e
      have hl : i < σ.length := by
        rcases Nat.lt_or_ge i σ.length with h | h
        · exact h
        · rw [List.getElem?_eq_none h] at g1
          cases g1
      rw [List.getElem?_set_self hl, g1]
    · rw [List.getElem?_set_ne e]
  rw [eσ] at h5
  have nd := List.nodup_append.mp a.nd
  have nd2 := List.nodup_append.mp nd.2.1
  refine ⟨o, C1 ++ ([] ++ C2), Ci, g1, g3, ⟨a.fh, a.nd.sublist (List.Sublist.append (.refl _) (List.sublist_append_right _ _)), fun z hz => a.fo z (by
    simp only [List.mem_append, List.nil_append] at hz ⊢
    rcases hz with h | h <;> simp [h]), h5⟩, ?_, fun z hz => by
    simp only [List.mem_append, List.nil_append] at hz ⊢
    rcases hz with (h | h) | h <;> simp [h]⟩
  refine (List.Perm.nodup_iff ?_).mp a.nd
  refine List.perm_iff_count.mpr fun z => ?_
  simp only [List.count_append, List.nil_append]
  omega
theorem take_at {F H : Hp} {σ : L2.St} {as : List Ar} {S G S' : List Sl} (t : Take as S G S') : ∀ {A : List Addr} {vs : List V}, At K F H σ S A → ArOk K F σ vs as → ∃ A1 Ag, At K F H σ S' A1 ∧ AtL K F H (vs.map some) G Ag ∧ (A1 ++ Ag).Nodup ∧ ∀ z, z ∈ A1 ++ Ag → z ∈ A := by
  induction t with
  | nil =>
    intro A vs a ok
    cases vs with
    | nil => exact ⟨A, [], a, rfl, by rw [List.append_nil]; exact a.nd, fun z hz => by rw [List.append_nil] at hz; exact hz⟩
    | cons => exact ok.elim
  | dat t ih =>
    intro A vs a ok
    cases vs with
    | nil => exact ok.elim
    | cons v vs =>
      obtain ⟨A1, Ag, h1, h2, h3, h4⟩ := ih a ok.2
      exact ⟨A1, Ag, h1, ⟨[], Ag, rfl, ⟨rfl, ok.1⟩, h2⟩, h3, h4⟩
  | @ptr α i ρ x as S G S' hs t ih =>
    intro A vs a ok
    cases vs with
    | nil => exact ok.elim
    | cons v vs =>
      obtain ⟨o, A1, Ai, g1, g3, a5, nd5, sub5⟩ := a.takeOne hs
      have ok1 : σ[i]? = some (some v) := ok.1
      rw [ok1] at g1
      cases g1
      obtain ⟨B1, Bg, h1, h2, h3, h4⟩ := ih a5 ok.2
      have n5 := List.nodup_append.mp nd5
      have nb := List.nodup_append.mp h3
      refine ⟨B1, Ai ++ Bg, h1, ⟨Ai, Bg, rfl, g3, h2⟩, ?_, fun z hz => sub5 z ?_⟩
      · have : (Ai ++ (B1 ++ Bg)).Nodup := List.nodup_append.mpr ⟨n5.2.1, h3, fun y hy z hz e => by
          subst e
          exact n5.2.2 y (h4 y hz) y hy rfl⟩
        refine (List.Perm.nodup_iff ?_).mp this
        refine List.perm_iff_count.mpr fun z => ?_
        simp only [List.count_append]
        omega
      · simp only [List.mem_append] at hz ⊢
        rcases hz with h | h | h
        · exact .inl (h4 z (List.mem_append_left _ h))
        · exact .inr h
        · exact .inl (h4 z (List.mem_append_right _ h))
  | @ptp α i w ρ x as S G S' hs t ih =>
    intro A vs a ok
    cases vs with
    | nil => exact ok.elim
    | cons v vs =>
      obtain ⟨o, A1, Ai, g1, g3, a5, nd5, sub5⟩ := a.takeOne hs
      have ok1 : σ[i]? = some (some v) := ok.1.2
      rw [ok1] at g1
      cases g1
      have g3' : v = w ∧ ρ.ok K F H v x Ai := g3
      obtain ⟨B1, Bg, h1, h2, h3, h4⟩ := ih a5 ok.2
      have n5 := List.nodup_append.mp nd5
      have nb := List.nodup_append.mp h3
      refine ⟨B1, Ai ++ Bg, h1, ⟨Ai, Bg, rfl, g3'.2, h2⟩, ?_, fun z hz => sub5 z ?_⟩
      · have : (Ai ++ (B1 ++ Bg)).Nodup := List.nodup_append.mpr ⟨n5.2.1, h3, fun y hy z hz e => by
          subst e
          exact n5.2.2 y (h4 y hz) y hy rfl⟩
        refine (List.Perm.nodup_iff ?_).mp this
        refine List.perm_iff_count.mpr fun z => ?_
        simp only [List.count_append]
        omega
      · simp only [List.mem_append] at hz ⊢
        rcases hz with h | h | h
        · exact .inl (h4 z (List.mem_append_left _ h))
        · exact .inr h
        · exact .inl (h4 z (List.mem_append_right _ h))
/-- what comes back is put where it was -/
inductive Give : List Ar → List Sl → List Sl → List Sl → Prop where
  | nil {S : List Sl} : Give [] [] S S
  | dat {d : PyData} {s : Sl} {as : List Ar} {G S S' : List Sl} : Give as G S S' → Give (.dat d :: as) (s :: G) S S'
  | ptr {i : Nat} {s : Sl} {as : List Ar} {G S S' T : List Sl} : Give as G S S' → S'[i]? = some .nil → T = S'.set i s → Give (.ptr i :: as) (s :: G) S T
  | ptp {α : Type} {i : Nat} {w : V} {ρ : Rp α} {x : α} {as : List Ar} {G S S' T : List Sl} : Give as G S S' → S'[i]? = some .nil → T = S'.set i (.val (pin w ρ) x) → Give (.ptp i w :: as) (.val ρ x :: G) S T
theorem At.putOne {F H : Hp} {σ : L2.St} {A Ai : List Addr} {i : Nat} {s : Sl} {o : Option V} (a : At K F H σ S A) (hs : S[i]? = some .nil) (ho : σ[i]? = some o) (h : SlOk K F H o s Ai) (nd : (A ++ Ai).Nodup) (fo : ∀ z ∈ Ai, F z = none) : ∃ A2, At K F H σ (S.set i s) A2 ∧ ∀ z, z ∈ A2 → z ∈ A ++ Ai := by
  obtain ⟨o', C1, Ci, C2, g1, g2, g3, g4⟩ := a.sl.at hs
  have h5 := g4 F H o s Ai (.refl _) (fun _ _ => rfl) h
  have eσ : σ.set i o = σ := by
    refine List.ext_getElem? fun j => ?_
    by_cases e : i = j
    · subst e
      have hl : i < σ.length := by
        rcases Nat.lt_or_ge i σ.length with h | h
        · exact h
        · rw [List.getElem?_eq_none h] at ho
          cases ho
      rw [List.getElem?_set_self hl, ho]
    · rw [List.getElem?_set_ne e]
  rw [eσ] at h5
  have hC : Ci = [] := by cases o' <;> exact g3
  subst hC g2
  refine ⟨_, ⟨a.fh, ?_, fun z hz => ?_, h5⟩, fun z hz => ?_⟩
  · refine (List.Perm.nodup_iff ?_).mp nd
    refine List.perm_iff_count.mpr fun z => ?_
    simp only [List.count_append, List.nil_append]
    omega
  · simp only [List.mem_append] at hz
    rcases hz with h | h | h
    · exact a.fo z (by simp [h])
    · exact fo z h
    · exact a.fo z (by simp [h])
  · simp only [List.mem_append, List.nil_append] at hz ⊢
    rcases hz with h | h | h <;> simp [h]
theorem give_at {F F0 H : Hp} {σ : L2.St} {as : List Ar} {G S S' : List Sl} (t : Give as G S S') : ∀ {A Ag : List Addr} {vs : List V}, At K F H σ S A → ArOk K F0 σ vs as → AtL K F H (vs.map some) G Ag → (A ++ Ag).Nodup → (∀ z ∈ Ag, F z = none) → ∃ A2, At K F H σ S' A2 ∧ ∀ z, z ∈ A2 → z ∈ A ++ Ag := by
  induction t with
  | nil =>
    intro A Ag vs a ok hg nd fo
    exact ⟨A, a, fun z hz => List.mem_append_left _ hz⟩
  | dat t ih =>
    intro A Ag vs a ok hg nd fo
    cases vs with
    | nil => exact ok.elim
    | cons v vs =>
      obtain ⟨B1, B2, e, h1, h2⟩ := hg
      subst e
      obtain ⟨A2, h3, h4⟩ := ih a ok.2 h2 (nd.sublist (List.Sublist.append (.refl _) (List.sublist_append_right _ _))) fun z hz => fo z (List.mem_append_right _ hz)
      exact ⟨A2, h3, fun z hz => by
        have := h4 z hz
        simp only [List.mem_append] at this ⊢
        rcases this with h | h <;> simp [h]⟩
  | ptr t hn eT ih =>
    intro A Ag vs a ok hg nd fo
    subst eT
    cases vs with
    | nil => exact ok.elim
    | cons v vs =>
      obtain ⟨B1, B2, e, h1, h2⟩ := hg
      subst e
      have nd0 : (B1 ++ (A ++ B2)).Nodup := by
        refine (List.Perm.nodup_iff ?_).mp nd
        refine List.perm_iff_count.mpr fun z => ?_
        simp only [List.count_append]
        omega
      have n0 := List.nodup_append.mp nd0
      obtain ⟨A2, h3, h4⟩ := ih a ok.2 h2 n0.2.1 fun z hz => fo z (List.mem_append_right _ hz)
      obtain ⟨A3, h5, h6⟩ := h3.putOne hn ok.1 h1 (List.nodup_append.mpr ⟨h3.nd, n0.1, fun y hy z hz e => by
        subst e
        exact n0.2.2 y hz y (h4 y hy) rfl⟩) fun z hz => fo z (List.mem_append_left _ hz)
      exact ⟨A3, h5, fun z hz => by
        rcases List.mem_append.mp (h6 z hz) with h | h
        · have := h4 z h
          simp only [List.mem_append] at this ⊢
          rcases this with h | h <;> simp [h]
        · simp [h]⟩
  | ptp t hn eT ih =>
    intro A Ag vs a ok hg nd fo
    subst eT
    cases vs with
    | nil => exact ok.elim
    | cons v vs =>
      obtain ⟨B1, B2, e, h1, h2⟩ := hg
      subst e
      have nd0 : (B1 ++ (A ++ B2)).Nodup := by
        refine (List.Perm.nodup_iff ?_).mp nd
        refine List.perm_iff_count.mpr fun z => ?_
        simp only [List.count_append]
        omega
      have n0 := List.nodup_append.mp nd0
      obtain ⟨A2, h3, h4⟩ := ih a ok.2 h2 n0.2.1 fun z hz => fo z (List.mem_append_right _ hz)
      obtain ⟨A3, h5, h6⟩ := h3.putOne (s := .val (pin _ _) _) hn ok.1.2 ⟨ok.1.1, h1⟩ (List.nodup_append.mpr ⟨h3.nd, n0.1, fun y hy z hz e => by
        subst e
        exact n0.2.2 y hz y (h4 y hy) rfl⟩) fun z hz => fo z (List.mem_append_left _ hz)
      exact ⟨A3, h5, fun z hz => by
        rcases List.mem_append.mp (h6 z hz) with h | h
        · have := h4 z h
          simp only [List.mem_append] at this ⊢
          rcases this with h | h <;> simp [h]
        · simp [h]⟩
/-! ### calls -/
/-- a def that hands its things back: given the slots G t it hands back a value and the slots G' t y, of the same values -/
def spI (K : Fg) (mg : Str → Option Value) (G : κ → List Sl) (G' : κ → δ → List Sl) (r : Rp α) (m : κ → Res (α × δ)) : Sp := fun vs H Q E =>
  ∃ t F A, At K F H (vs.map some) (G t) A ∧ Post (m t) (fun x => ∀ v F' H' A' Av, Nx F H A F' H' (A' ++ Av) → Sub F' H' → AtL K F' H' (vs.map some) (G' t x.2) A' → r.ok K F' H' v x.1 Av → (A' ++ Av).Nodup → (∀ a ∈ A' ++ Av, F' a = none) → Q v H') (fun e => ∀ F' H' c d, Nx F H A F' H' [] → Sub F' H' → ExcOk K mg F' H' e c d → E c d H')
theorem XEO.call {D : κ → List Ar} {G : κ → List Sl} {r : Rp α} {m : κ → Res α} {ma : Res (κ × τ)} (h : XEG K mg W S tr D N ma) (ht : ∀ t s, Take (D t) (N s) (G t) (N s)) : XEO K mg W S (tCallS (spP K mg G r m) (WE W) tr) r N (ma.bind fun p => (m p.1).bind fun x => .ok (x, p.2)) := fun F H σ A a Q q =>
  h F H σ A a _ ((Post.of_bind q).imp (fun p k vs F1 H1 A1 n1 a1 u1 => by
    obtain ⟨B1, Bg, h1, h2, h3, h4⟩ := take_at (ht p.1 p.2) a1 u1
    have nb := List.nodup_append.mp h3
    refine ⟨p.1, F1, Bg, ⟨a1.fh, nb.2.1, fun z hz => a1.fo z (h4 z (List.mem_append_right _ hz)), h2⟩, (Post.of_bind k).imp (fun x k2 v F2 H2 Av n s u2 nd fo => ?_) fun e k2 F2 H2 c d n s x => k2 F2 H2 σ c d (n1.trans ?_) s x⟩
    · have noB : ∀ z ∈ B1, z ∉ Bg := fun z h k => nb.2.2 z h z k rfl
      have keep : ∀ z ∈ B1, H2 z = H1 z := fun z hz => by
        cases c : H1 z with
        | none => exact absurd c (h1.sl.dom z hz)
        | some o => exact n.hh z o c (noB z hz)
      have ap : ∀ z ∈ B1, z ∉ Av := fun z hz k => (n.aa z k).elim (noB z hz) fun c => h1.sl.dom z hz c
      have a2 : At K F2 H2 σ (N p.2) B1 := ⟨s, h1.nd, fun z hz => (n.fo z (h1.sl.dom z hz) (noB z hz)).trans (h1.fo z hz), h1.sl.mono n.ff keep⟩
      refine k2 v F2 H2 B1 Av (n1.trans (n.grow (fun z hz => h4 z (List.mem_append_right _ hz)) fun z hz => ?_)) a2 u2 (List.nodup_append.mpr ⟨h1.nd, nd, fun y hy z hz e => ?_⟩) fo
      · rcases List.mem_append.mp hz with h | h
        · exact .inr (h4 z (List.mem_append_left _ h))
        · exact .inl h
      · subst e
        exact ap y hy hz
    · exact n.grow (fun z hz => h4 z (List.mem_append_right _ hz)) fun z hz => nomatch hz) fun _ z => z)
/-- .. that changes what is handed in -/
theorem XEO.callI {ω : Type} {D : κ → List Ar} {G : ω → List Sl} {G' : ω → δ → List Sl} {S1 : κ → τ → List Sl} (c : κ → τ → ω) (f : κ → τ → δ → τ) {r : Rp α} {m : ω → Res (α × δ)} {ma : Res (κ × τ)} (h : XEG K mg W S tr D N ma) (ht : ∀ t s, Take (D t) (N s) (G (c t s)) (S1 t s)) (hg : ∀ t s y, Give (D t) (G' (c t s) y) (S1 t s) (N (f t s y))) :
    XEO K mg W S (tCallS (spI K mg G G' r m) (WE W) tr) r N (ma.bind fun p => (m (c p.1 p.2)).bind fun x => .ok (x.1, f p.1 p.2 x.2)) := fun F H σ A a Q q =>
  h F H σ A a _ ((Post.of_bind q).imp (fun p k vs F1 H1 A1 n1 a1 u1 => by
    obtain ⟨B1, Bg, h1, h2, h3, h4⟩ := take_at (ht p.1 p.2) a1 u1
    have nb := List.nodup_append.mp h3
    refine ⟨c p.1 p.2, F1, Bg, ⟨a1.fh, nb.2.1, fun z hz => a1.fo z (h4 z (List.mem_append_right _ hz)), h2⟩, (Post.of_bind k).imp (fun x k2 v F2 H2 Ab Av n s u1' u2 nd fo => ?_) fun e k2 F2 H2 cc d n s x => k2 F2 H2 σ cc d (n1.trans ?_) s x⟩
    · have noB : ∀ z ∈ B1, z ∉ Bg := fun z h k => nb.2.2 z h z k rfl
      have keep : ∀ z ∈ B1, H2 z = H1 z := fun z hz => by
        cases cz : H1 z with
        | none => exact absurd cz (h1.sl.dom z hz)
        | some o => exact n.hh z o cz (noB z hz)
      have ap : ∀ z ∈ B1, z ∉ Ab ++ Av := fun z hz k => (n.aa z k).elim (noB z hz) fun cz => h1.sl.dom z hz cz
      have a2 : At K F2 H2 σ (S1 p.1 p.2) B1 := ⟨s, h1.nd, fun z hz => (n.fo z (h1.sl.dom z hz) (noB z hz)).trans (h1.fo z hz), h1.sl.mono n.ff keep⟩
      have ndv := List.nodup_append.mp nd
      obtain ⟨A2, a3, s3⟩ := give_at (hg p.1 p.2 x.2) a2 u1 u1' (List.nodup_append.mpr ⟨h1.nd, ndv.1, fun y hy z hz e => by
        subst e
        exact ap y hy (List.mem_append_left _ hz)⟩) fun z hz => fo z (List.mem_append_left _ hz)
      refine k2 v F2 H2 A2 Av (n1.trans (n.grow (fun z hz => h4 z (List.mem_append_right _ hz)) fun z hz => ?_)) a3 u2 (List.nodup_append.mpr ⟨a3.nd, ndv.2.1, fun y hy z hz e => ?_⟩) fun z hz => fo z (List.mem_append_right _ hz)
      · rcases List.mem_append.mp hz with h | h
        · rcases List.mem_append.mp (s3 z h) with h | h
          · exact .inr (h4 z (List.mem_append_left _ h))
          · exact .inl (List.mem_append_left _ h)
        · exact .inl (List.mem_append_right _ h)
      · subst e
        rcases List.mem_append.mp (s3 y hy) with h | h
        · exact ap y h (List.mem_append_right _ hz)
        · exact ndv.2.2 y h y hz rfl
    · exact n.grow (fun z hz => h4 z (List.mem_append_right _ hz)) fun z hz => nomatch hz) fun _ z => z)
end
end TP

set_option Elab.async false
set_option linter.all false
set_option maxRecDepth 100000
set_option maxHeartbeats 4000000
set_option autoImplicit false
/-! TP, part 16: statements with expressions that change what is owned; pops; defs that hand their things back. -/
namespace TP
open PySem PySem.Spec L2
section
variable {K : Fg} {mg : Str → Option Value} {W : WX} {S S' : List Sl} {te ta tb tc : TE} {tr : TA} {tt : TT} {t t1 t2 u : TS}
variable {α β γ δ τ τ0 τ1 κ ι ζ : Type} {R : Rp α} {B : β → List Sl} {N : Option (τ → List Sl)} {M : τ0 → List Sl}
theorem XE.map {U : View ι} {m : Res (ι × τ1)} {M1 : τ1 → List Sl} (f : τ1 → τ0) (hf : ∀ z, M (f z) = M1 z) (h : XE K mg W S te U M1 m) : XE K mg W S te U M (m.bind fun p => .ok (p.1, f p.2)) := fun F H σ A a Q q =>
  h F H σ A a Q ((Post.of_bind q).imp (fun x k v F' H' A' n a' u => k v F' H' A' n (show At K F' H' σ (M (f x.2)) A' by rw [hf]; exact a') u) fun _ z => z)
theorem At.setN {F H : Hp} {σ : L2.St} {A Av : List Addr} {i : Nat} {r : Rp ι} {x : ι} {v : V} (a : At K F H σ S A) (hr : r.ok K F H v x Av) (nd : (A ++ Av).Nodup) (fo : ∀ z ∈ Av, F z = none) (hi : i < S.length) : ∃ A', At K F H (σ.set i (some v)) (S.set i (.val r x)) A' ∧ ∀ z ∈ A', z ∈ A ++ Av := by
  obtain ⟨o, A1, Ai, A2, e1, e2, e3, e4⟩ := a.sl.at (i := i) (s := S[i]) (by simp [hi])
  subst e2
  refine ⟨A1 ++ (Av ++ A2), ⟨a.fh, ?_, fun z hz => ?_, e4 F H (some v) (.val r x) Av (.refl _) (fun _ _ => rfl) hr⟩, fun z hz => ?_⟩
  · have : (A1 ++ A2 ++ Av).Nodup := nd.sublist (List.Sublist.append (List.Sublist.append (.refl _) (List.sublist_append_right _ _)) (.refl _))
    refine (List.Perm.nodup_iff ?_).mp this
    refine List.perm_iff_count.mpr fun z => ?_
    simp only [List.count_append]
    omega
  · simp only [List.mem_append] at hz
    rcases hz with h | h | h
    · exact a.fo z (by simp [h])
    · exact fo z h
    · exact a.fo z (by simp [h])
  · simp only [List.mem_append] at hz ⊢
    rcases hz with h | h | h <;> simp [h]
theorem Y.asgEO {i : Nat} {r : Rp ι} {me : Res (ι × τ0)} {k : ι → τ0 → Res (Fl α β τ)} (he : XEO K mg W S te r M me) (hu : ∀ x s, Y K mg W ((M s).set i (.val r x)) u R B N (k x s)) (hi : ∀ s, (M s)[i]?.isSome = true) :
    Y K mg W S (tSeq (tAsg te (gName i)) u) R B N (me.bind fun p => k p.1 p.2) := ⟨fun h => .bind fun x => (hu _ _).no h, fun F H σ A a D q =>
  he F H σ A a _ ((Post.of_bind q).imp (fun x k2 v F' H' A' Av n a' hr nd fo => by
    obtain ⟨A2, a2, s2⟩ := a'.setN hr nd fo (lt_some (hi x.2))
    exact (hu x.1 x.2).run F' H' _ A2 a2 D (Post.from (n.less s2) k2)) fun e z => z)⟩
theorem Y.asgE {i : Nat} {e : Enc ι} {me : Res (ι × τ0)} {k : ι → τ0 → Res (Fl α β τ)} (he : XE K mg W S te (vD e) M me) (hu : ∀ x s, Y K mg W ((M s).set i (.val (fz e) x)) u R B N (k x s)) (hi : ∀ s, (M s)[i]?.isSome = true) :
    Y K mg W S (tSeq (tAsg te (gName i)) u) R B N (me.bind fun p => k p.1 p.2) := Y.asgEO he.own hu hi
theorem Y.asgTE {g : TG} {ts : List Nat} {e : Enc ι} {S' : τ0 → ι → List Sl} {me : Res (ι × τ0)} {k : ι → τ0 → Res (Fl α β τ)} (he : XE K mg W S te (vD e) M me) (hg : ∀ s, XTg K (M s) g ts e (S' s)) (hu : ∀ x s, Y K mg W (S' s x) u R B N (k x s)) :
    Y K mg W S (tSeq (tAsg te g) u) R B N (me.bind fun p => k p.1 p.2) := ⟨fun h => .bind fun x => (hu _ _).no h, fun F H σ A a D q =>
  he F H σ A a _ ((Post.of_bind q).imp (fun x k2 v F' H' A' n a' hr => hg x.2 F' H' σ A' v x.1 a' hr _ fun σ' A2 a2 sub _ => (hu x.1 x.2).run F' H' σ' A2 a2 D (Post.from (n.less sub) k2)) fun e z => z)⟩
theorem Y.dropE {U : View ι} {me : Res (ι × τ0)} {k : ι → τ0 → Res (Fl α β τ)} (he : XE K mg W S te U M me) (hu : ∀ x s, Y K mg W (M s) u R B N (k x s)) :
    Y K mg W S (tSeq (tDrop te) u) R B N (me.bind fun p => k p.1 p.2) := ⟨fun h => .bind fun x => (hu _ _).no h, fun F H σ A a D q =>
  he F H σ A a _ ((Post.of_bind q).imp (fun x k2 v F' H' A' n a' hr => (hu x.1 x.2).run F' H' σ A' a' D (Post.from n k2)) fun e z => z)⟩
theorem Y.retE {me : Res (α × τ0)} (he : XEO K mg W S te R M me) : Y K mg W S (tSeq (tRet te) u) R B N (me.bind fun p => .ok (.rt p.1)) := ⟨fun _ => .bind fun _ => .rt, fun F H σ A a D q =>
  he F H σ A a _ ((Post.of_bind q).imp (fun x k2 v F' H' A' Av n a' hr nd fo => k2 F' H' v Av (n.less fun z hz => List.mem_append_right _ hz) a'.fh hr (List.nodup_append.mp nd).2.1 fo) fun e z => z)⟩
/-! ### if -/
def ifE (m : Res (Bool × τ0)) (x y : τ0 → Res ι) : Res ι := m.bind fun p => if p.1 = true then x p.2 else y p.2
theorem NoNx.ifE {b : Res (Bool × τ0)} {m n : τ0 → Res (Fl α β τ)} (h1 : ∀ s, NoNx (m s)) (h2 : ∀ s, NoNx (n s)) : NoNx (TP.ifE b m n) := .bind fun b => by
  split
  · exact h1 _
  · exact h2 _
theorem Y.if0E {mb : Res (Bool × τ0)} {m1 m2 : τ0 → Res (Fl α β τ)} (hb : XTE K mg W S tt M mb) (h1 : ∀ s, Y K mg W (M s) t R B N (m1 s)) (h2 : ∀ s, Y K mg W (M s) u R B N (m2 s)) : Y K mg W S (tIfS tt t u) R B N (ifE mb m1 m2) := ⟨fun h => .ifE (fun s => (h1 s).no h) fun s => (h2 s).no h, fun F H σ A a D q =>
  hb F H σ A a _ ((Post.of_bind q).imp (fun p k F' H' A' n a' => by
    obtain ⟨b, s⟩ := p
    cases b with
    | true => exact (h1 s).run F' H' σ A' a' D (Post.from n (k.if_t rfl))
    | false => exact (h2 s).run F' H' σ A' a' D (Post.from n (k.if_f rfl))) fun _ z => z)⟩
theorem Y.ifTE1 {mb : Res (Bool × τ0)} {m1 m2 : τ0 → Res (Fl α β τ)} (hb : XTE K mg W S tt M mb) (h1 : ∀ s, Y K mg W (M s) t R B (none : Option (τ → List Sl)) (m1 s)) (h2 : ∀ s, Y K mg W (M s) u R B N (m2 s)) : Y K mg W S (tSeq (tIfS tt t tNext) u) R B N (ifE mb m1 m2) := ⟨fun h => .ifE (fun s => (h1 s).no rfl) fun s => (h2 s).no h, fun F H σ A a D q =>
  hb F H σ A a _ ((Post.of_bind q).imp (fun p k F' H' A' n a' => by
    obtain ⟨b, s⟩ := p
    cases b with
    | true => exact (h1 s).run F' H' σ A' a' _ (Post.any ((h1 s).no rfl) (Post.from n (k.if_t rfl)))
    | false => exact (h2 s).run F' H' σ A' a' D (Post.from n (k.if_f rfl))) fun _ z => z)⟩
theorem Y.ifFE {mb : Res (Bool × τ0)} {m1 m2 : τ0 → Res (Fl α β τ)} (hb : XTE K mg W S tt M mb) (h1 : ∀ s, Y K mg W (M s) (tSeq t1 u) R B N (m1 s)) (h2 : ∀ s, Y K mg W (M s) t2 R B (none : Option (τ → List Sl)) (m2 s)) : Y K mg W S (tSeq (tIfS tt t1 t2) u) R B N (ifE mb m1 m2) := ⟨fun h => .ifE (fun s => (h1 s).no h) fun s => (h2 s).no rfl, fun F H σ A a D q =>
  hb F H σ A a _ ((Post.of_bind q).imp (fun p k F' H' A' n a' => by
    obtain ⟨b, s⟩ := p
    cases b with
    | true => exact (h1 s).run F' H' σ A' a' _ (Post.from n (k.if_t rfl))
    | false => exact (h2 s).run F' H' σ A' a' _ (Post.any ((h2 s).no rfl) (Post.from n (k.if_f rfl)))) fun _ z => z)⟩
theorem Y.ifTEE {mb : Res (Bool × τ0)} {m1 m2 : τ0 → Res (Fl α β τ)} (hb : XTE K mg W S tt M mb) (h1 : ∀ s, Y K mg W (M s) t1 R B (none : Option (τ → List Sl)) (m1 s)) (h2 : ∀ s, Y K mg W (M s) (tSeq t2 u) R B N (m2 s)) : Y K mg W S (tSeq (tIfS tt t1 t2) u) R B N (ifE mb m1 m2) := ⟨fun h => .ifE (fun s => (h1 s).no rfl) fun s => (h2 s).no h, fun F H σ A a D q =>
  hb F H σ A a _ ((Post.of_bind q).imp (fun p k F' H' A' n a' => by
    obtain ⟨b, s⟩ := p
    cases b with
    | true => exact (h1 s).run F' H' σ A' a' _ (Post.any ((h1 s).no rfl) (Post.from n (k.if_t rfl)))
    | false => exact (h2 s).run F' H' σ A' a' _ (Post.from n (k.if_f rfl))) fun _ z => z)⟩
/-! ### pops -/
theorem XE.pop {ρ : Rp (List ι)} {e : Enc ι} [Own ρ (fz e)] {m : Res (List ι × κ)} {up : κ → List ι → ζ} {Sr : ζ → List Sl} (h : XP K mg W S te ρ m up Sr) :
    XE K mg W S (tBM0 K "list" rPop te) (vD e) Sr (m.bind fun p => (chk p.1.getLast?).bind fun x => .ok (x, up p.2 p.1.dropLast)) := fun F H σ A a Q q =>
  h F H σ A a _ ((Post.of_bind q).imp (fun p k2 v F1 H1 Ai p1 part => by
    obtain ⟨x, ex, k3⟩ := Post.of_chk (Post.of_bind k2)
    obtain ⟨l, vs, e2, hl, dl, md⟩ := Part.lst (e := e) part
    have el : vs.length = p.1.length := by rw [dpAll_len dl, List.length_map]
    rw [List.getLast?_eq_getElem?] at ex
    obtain ⟨w, h3, h4⟩ := dpAll_get (i := p.1.length - 1) (d := e x) dl (by rw [List.getElem?_map, ex]; rfl)
    obtain ⟨A2, a2, n2⟩ := md F1 H1 p.1.dropLast vs.dropLast (.refl p1.fh) (by
      have := dpAll_take (K := K) (p.1.length - 1) dl
      rw [List.dropLast_eq_take, List.dropLast_eq_take, List.map_take, el]
      exact this)
    exact ⟨part_ty part, l, vs, w, e2, rfl, hl, by rw [el]; exact h3, k3 w F1 _ A2 ((p1.nx fun z hz => .inl hz).trans n2) a2 h4⟩) fun e z => z.x)
@[irreducible] def popQ {ι : Type} (xs : List ι) (j : Int) : Option (ι × List ι) := if -4611686018427387904 ≤ j ∧ j < 4611686018427387904 then (ixN xs.length j).bind fun k => (xs[k]?).map fun x => (x, xs.eraseIdx k) else none
theorem XE.popAt {ρ : Rp (List ι)} {e : Enc ι} [Own ρ (fz e)] {m : Res (List ι × κ)} {mi : Res Int} {up : κ → List ι → ζ} {Sr : ζ → List Sl} (h : XP K mg W S te ρ m up Sr) (hi : XB K mg W S ta (vD eI) mi) :
    XE K mg W S (tBM K "list" rPopAt te (tCons ta tNil)) (vD e) Sr (m.bind fun p => mi.bind fun j => (chk (popQ p.1 j)).bind fun x => .ok (x.1, up p.2 x.2)) := fun F H σ A a Q q =>
  h F H σ A a _ ((Post.of_bind q).imp (fun p k2 v F1 H1 Ai p1 part => by
    refine ⟨part_ty part, hi F1 H1 σ A (a.pu p1) _ ((Post.of_bind k2).imp (fun j k2 w F2 H2 p2 h2 => ?_) fun e z => z.x.pu p1)⟩
    obtain ⟨y, ey, k3⟩ := Post.of_chk (Post.of_bind k2)
    unfold popQ at ey
    split at ey
    · rename_i hj
      cases c : ixN p.1.length j with
      | none =>
        rw [c] at ey
        cases ey
      | some n =>
        rw [c, Option.bind_some] at ey
        cases g : p.1[n]? with
        | none =>
          rw [g] at ey
          cases ey
        | some x =>
          rw [g] at ey
          cases ey
          have part2 := part.pu p2
          obtain ⟨l, vs, e2, hl, dl, md⟩ := Part.lst (e := e) part2
          have el : vs.length = p.1.length := by rw [dpAll_len dl, List.length_map]
          obtain ⟨w', h3, h4⟩ := dpAll_get (i := n) (d := e x) dl (by rw [List.getElem?_map, g]; rfl)
          obtain ⟨A2, a2, n2⟩ := md F2 H2 (p.1.eraseIdx n) (vs.eraseIdx n) (.refl p2.fh) (by
            rw [map_erase]
            exact dpAll_erase n dl)
          exact ⟨l, vs, j, n, w', e2, by rw [dp_int h2], hl, by omega, by omega, by rw [el]; exact (ixN_seq c).1, h3, k3 w' F2 _ A2 (((p1.trans p2).nx fun z hz => .inl hz).trans n2) a2 h4⟩
    · cases ey) fun e z => z.x)
/-! ### a comprehension -/
theorem unwipe {F H : Hp} {σ : L2.St} : ∀ {vs : List Nat} {A : List Addr}, AtL K F H (wipe σ vs) (wipeS S vs) A → AtL K F H σ (wipeS S vs) A
  | [], A, h => h
  | v :: vs, A, h => by
    have one : ∀ {σ : L2.St} {S : List Sl} {i : Nat} {A : List Addr}, AtL K F H (σ.set i none) (S.set i .nil) A → AtL K F H σ (S.set i .nil) A := by
      intro σ
      induction σ with
      | nil =>
        intro S i A h
        simpa using h
      | cons o σ ih =>
        intro S i A h
        cases S with
        | nil => cases i <;> exact h.elim
        | cons s S =>
          cases i with
          | zero =>
            obtain ⟨A1, A2, e, h1, h2⟩ := h
            exact ⟨A1, A2, e, by cases o <;> exact h1, h2⟩
          | succ i =>
            obtain ⟨A1, A2, e, h1, h2⟩ := h
            exact ⟨A1, A2, e, h1, ih h2⟩
    have h' : AtL K F H ((wipe σ vs).set v none) ((wipeS S vs).set v .nil) A := h
    have h2 := one h'
    have swap : ∀ {vs : List Nat} {σ : L2.St} {S : List Sl} {A : List Addr}, AtL K F H (wipe σ vs) ((wipeS S vs).set v .nil) A → AtL K F H σ ((wipeS S vs).set v .nil) A := by
      intro vs
      induction vs with
      | nil =>
        intro σ S A h
        exact h
      | cons w ws ih =>
        intro σ S A h
        have h1 : AtL K F H ((wipe σ ws).set w none) (((wipeS S ws).set w .nil).set v .nil) A := h
        show AtL K F H σ (((wipeS S ws).set w .nil).set v .nil) A
        by_cases e : w = v
        · subst e
          rw [List.set_set] at h1 ⊢
          exact ih (one h1)
        · rw [List.set_comm _ _ e] at h1
          have h3 := one h1
          rw [← List.set_comm _ _ e] at h3
          have : ∀ (T : List Sl), AtL K F H (wipe σ ws) T A → (∀ w ∈ ws, T[w]? = some .nil ∨ T[w]? = none) → AtL K F H σ T A := by
            clear h h1 h3 ih
            induction ws with
            | nil => intro T h _; exact h
            | cons x xs ih =>
              intro T h hn
              have h4 : AtL K F H ((wipe σ xs).set x none) T A := h
              have eT : T = T.set x .nil := by
                refine (List.ext_getElem? fun j => ?_)
                by_cases q : x = j
                · subst q
                  rcases hn x List.mem_cons_self with h | h
                  · have := (List.getElem?_eq_some_iff.mp h).1
                    rw [List.getElem?_set_self this, h]
                  · rw [h, List.getElem?_eq_none (by
                      rw [List.length_set]
                      exact List.getElem?_eq_none_iff.mp h)]
                · rw [List.getElem?_set_ne q]
              rw [eT] at h4
              have h5 := one h4
              rw [← eT] at h5
              exact ih T h5 fun w hw => hn w (List.mem_cons_of_mem _ hw)
          refine this _ h3 fun x hx => ?_
          have key : ∀ (us : List Nat), x ∈ us → ∀ T : List Sl, (wipeS T us)[x]? = some .nil ∨ (wipeS T us)[x]? = none := by
            intro us
            induction us with
            | nil => intro h; cases h
            | cons y ys ih =>
              intro h T
              show ((wipeS T ys).set y .nil)[x]? = some .nil ∨ ((wipeS T ys).set y .nil)[x]? = none
              by_cases q : y = x
              · subst q
                by_cases l : y < (wipeS T ys).length
                · exact .inl (List.getElem?_set_self l)
                · exact .inr (List.getElem?_eq_none (by rw [List.length_set]; omega))
              · rw [List.getElem?_set_ne q]
                exact ih ((List.mem_cons.mp h).resolve_left fun k => q k.symm) T
          by_cases q1 : v = x
          · subst q1
            by_cases l : v < ((wipeS S ws).set w .nil).length
            · exact .inl (List.getElem?_set_self l)
            · exact .inr (List.getElem?_eq_none (by rw [List.length_set]; omega))
          · rw [List.getElem?_set_ne q1]
            by_cases q2 : w = x
            · subst q2
              by_cases l : w < (wipeS S ws).length
              · exact .inl (List.getElem?_set_self l)
              · exact .inr (List.getElem?_eq_none (by rw [List.length_set]; omega))
            · rw [List.getElem?_set_ne q2]
              exact key ws hx S
    exact swap h2
def lcS (f : ι → τ0 → Res (γ × τ0)) : List ι → List γ → τ0 → Res (List γ × τ0)
  | [], acc, s => .ok (acc, s)
  | x :: xs, acc, s => (f x s).bind fun p => if acc.length < sizeLine then lcS f xs (acc ++ [p.1]) p.2 else .bad
theorem wipe_wipe (σ : L2.St) : ∀ (ws us : List Nat), (∀ j ∈ us, j ∈ ws) → wipe (wipe σ us) ws = wipe σ ws := by
  intro ws us
  induction us with
  | nil => intro _; rfl
  | cons u us ih =>
    intro h
    show wipe ((wipe σ us).set u none) ws = _
    rw [wipe_set (h u List.mem_cons_self), ih fun j hj => h j (List.mem_cons_of_mem _ hj)]
theorem XEO.lc {wi : TI} {g : TG} {vs : List Nat} {e : Enc ι} {ef : Enc γ} {ml : Res (List ι × τ0)} {M1 : τ0 → ι → List Sl} {f : ι → τ0 → Res (γ × τ0)}
    (hi : XIE K mg W S wi e M ml) (hg : ∀ s, XTg K (wipeS (M s) vs) g vs e (M1 s)) (he : ∀ x s, XE K mg W (M1 s x) te (vD ef) (fun s' => M1 s' x) (f x s)) (hm : ∀ s x, wipeS (M1 s x) vs = M s) (hn : ∀ s, wipeS (M s) vs = M s) :
    XEO K mg W S (tLc wi g tYes te vs) (ow (fz ef)) M (ml.bind fun p => lcS f p.1 [] p.2) := fun F H σ A a Q q => by
  refine hi F H σ A a _ ((Post.of_bind q).imp (fun p k J F1 H1 A1 n1 a1 wk D hD => ?_) fun e z => z)
  obtain ⟨xs, s0⟩ := p
  let P : List γ × τ0 → Prop := fun x => ∀ v F' H' A' Av, Nx F H A F' H' (A' ++ Av) → At K F' H' σ (M x.2) A' → (ow (fz ef)).ok K F' H' v x.1 Av → (A' ++ Av).Nodup → (∀ a ∈ Av, F' a = none) → Q v H'
  have nD : ∀ {Z : List Addr} {F2 H2 : Hp}, At K F2 H2 σ (M s0) Z → H2 D = none → D ∉ Z := fun a h z => a.sl.dom D z h
  refine ⟨fun i m H2 => m = xs.length - i ∧ i ≤ xs.length ∧ ∃ F2 us ys A2 s, Nx F H A F2 H2 (A2 ++ [D]) ∧ Sub F1 F2 ∧ At K F2 H2 σ (M s) A2 ∧ H2 D = some (.lst us) ∧ DpAll K F2 us (ys.map ef) ∧ D ∉ A2 ∧ F2 D = none ∧ Post (lcS f (xs.drop i) ys s) P (YEr K mg W F H A), ?_, ?_⟩
  · have p2 : Pu F1 H1 F1 (upd H1 D (.lst [])) := Pu.newO a1.fh hD
    refine ⟨xs.length, by simp, Nat.zero_le _, F1, [], [], A1, s0, n1.trans (p2.nx fun z hz => ?_), .refl _, a1.pu p2, upd_same, .nil, fun z => a1.sl.dom D z hD, a1.fh.back hD, k⟩
    rcases List.mem_append.mp hz with h | h
    · exact .inl h
    · rw [List.mem_singleton] at h
      rw [h]
      exact .inr hD
  · rintro i m H2 ⟨rfl, hle, F2, us, ys, A2, s, n2, sf, a2, hD2, dl, hDA, fD, k2⟩
    obtain ⟨stop, go⟩ := wk F2 H2 sf a2.fh i
    have hD2n : H2 D ≠ none := by
      rw [hD2]
      exact fun z => nomatch z
    by_cases hlt : i < xs.length
    · obtain ⟨g1, g2⟩ := go xs[i] (by simp [hlt])
      refine .inr ⟨g1, fun H' => ∃ F3 us3 ys3 A3 s3, Nx F H A F3 H' (A3 ++ [D]) ∧ Sub F1 F3 ∧ At K F3 H' σ (M s3) A3 ∧ H' D = some (.lst us3) ∧ DpAll K F3 us3 (ys3.map ef) ∧ D ∉ A3 ∧ F3 D = none ∧ Post (lcS f (xs.drop (i + 1)) ys3 s3) P (YEr K mg W F H A), fun H' h => ⟨xs.length - (i + 1), by omega, rfl, hlt, h⟩, fun v H3 y => ?_⟩
      obtain ⟨F3, p3, d⟩ := g2 v H3 y
      have a3 := a2.pu p3
      obtain ⟨A', a', sub'⟩ := a3.wipe vs
      refine hg s F3 H3 _ A' v _ a' d _ fun σ4 A4 a4 sub w4 => ⟨?_, ?_⟩
      · rw [w4 vs fun _ h => h]
        exact wipe_wipe σ vs vs fun _ h => h
      · rw [List.drop_eq_getElem_cons hlt] at k2
        have n3 : Nx F H A F3 H3 (A2 ++ [D]) := n2.trans (p3.nx fun z hz => .inl hz)
        have sub4 : ∀ z ∈ A4, z ∈ A2 := fun z hz => sub' z (sub z hz)
        have n34 : Nx F H A F3 H3 A4 := n3.less fun z hz => List.mem_append_left _ (sub4 z hz)
        show te σ4 H3 _
        refine he xs[i] s F3 H3 σ4 A4 a4 _ ((Post.of_bind k2).imp (fun yv k4 v5 F5 H5 A5 n5 a5 u5 => ?_) fun e z => YEr.from n34 z)
        have hD3 : H3 D = some (.lst us) := p3.hh D _ hD2
        have hD4 : D ∉ A4 := fun z => hDA (sub4 D z)
        have hD5 : H5 D = some (.lst us) := n5.hh D _ hD3 hD4
        have hD3n : H3 D ≠ none := by
          rw [hD3]
          exact fun z => nomatch z
        have fD5 : F5 D = none := (n5.fo D hD3n hD4).trans ((p3.fo D hD2n).trans fD)
        have hDA5 : D ∉ A5 := fun z => (n5.aa D z).elim hD4 hD3n
        refine ⟨us, hD5, ?_⟩
        have el : us.length = ys.length := by rw [dpAll_len dl, List.length_map]
        by_cases hz : ys.length < sizeLine
        · have k4' : Post (lcS f (xs.drop (i + 1)) (ys ++ [yv.1]) yv.2) P (YEr K mg W F H A) := by
            simpa only [hz, if_true] using k4
          obtain ⟨A6, a6, sub6⟩ := a5.wipe vs
          rw [w4 vs fun _ h => h, wipe_wipe σ vs vs fun _ h => h] at a6
          have a7 : AtL K F5 H5 σ (M yv.2) A6 := by
            have := unwipe a6.sl
            rw [hm] at this
            exact this
          have hDA6 : D ∉ A6 := fun z => hDA5 (sub6 D z)
          have a8 : At K F5 (upd H5 D (.lst (us ++ [v5]))) σ (M yv.2) A6 := ⟨a6.fh.mut fD5, a6.nd, a6.fo, a7.mono (.refl _) fun z hz => upd_ne fun q => hDA6 (q ▸ hz)⟩
          refine ⟨by rw [el]; exact hz, F5, us ++ [v5], ys ++ [yv.1], A6, yv.2, n3.trans ⟨n5.ff, fun z o h hn => ?_, fun z h hn => n5.fo z h fun q => hn (List.mem_append_left _ (sub4 z q)), fun z hz => ?_, fun z h => ?_⟩, (sf.trans p3.ff).trans n5.ff, a8, upd_same, ?_, hDA6, fD5, k4'⟩
          · have hn2 : z ∉ A4 := fun q => hn (List.mem_append_left _ (sub4 z q))
            have hn3 : z ≠ D := fun q => hn (by rw [q]; simp)
            rw [upd_ne hn3]
            exact n5.hh z o h hn2
          · rcases List.mem_append.mp hz with h | h
            · exact (n5.aa z (sub6 z h)).imp (fun q => List.mem_append_left _ (sub4 z q)) fun q => q
            · exact .inl (List.mem_append_right _ h)
          · by_cases q : z = D
            · rw [q, upd_same]
              exact fun z => nomatch z
            · rw [upd_ne q]
              exact n5.hs z h
          · rw [List.map_append]
            exact dpAll_app (dpAll_sub (p3.ff.trans n5.ff) dl) (.cons u5 .nil)
        · exfalso
          have k4' : Post (Res.bad : Res (List γ × τ0)) P (YEr K mg W F H A) := by
            simpa only [hz, if_false] using k4
          exact k4'
    · have e : i = xs.length := by omega
      subst e
      rw [List.drop_length] at k2
      exact .inl ⟨stop (Nat.le_refl _), k2 (.ref D) F2 H2 A2 [D] n2 a2 ⟨D, us, [], rfl, hD2, rfl, okL_of dl⟩ (List.nodup_append.mpr ⟨a2.nd, by simp, fun x hx y hy e => by
        rw [List.mem_singleton] at hy
        rw [e, hy] at hx
        exact hDA hx⟩) fun z hz => by
        rw [List.mem_singleton] at hz
        rw [hz]
        exact fD⟩
/-! ### what is walked -/
theorem XIE.rng1 {m : Res (Int × τ0)} (h : XE K mg W S te (vD eI) M m) : XIE K mg W S (iRng1 (tCons te tNil)) eI M (m.bind fun p => (chk (okRange 0 p.1)).bind fun l => .ok (l, p.2)) := fun F H σ A a Q q =>
  h F H σ A a _ ((Post.of_bind q).imp (fun p k v F' H' A' n a' u => by
    obtain ⟨z, e, k⟩ := Post.of_chk (Post.of_bind k)
    unfold okRange at e
    split at e
    · rename_i c
      cases e
      refine ⟨p.1, by rw [dp_int u], c.2.2.1, c.2.2.2, k _ F' H' A' n a' ?_⟩
      have := walk_range (K := K) (lo := 0) (hi := p.1) (F := F')
      rw [Int.sub_zero] at this
      exact this
    · cases e) fun _ z => z)
theorem XIE.list {e : Enc ι} {m : Res (List ι × τ0)} (h : XE K mg W S te (vD (eL e)) M m) : XIE K mg W S (iList K te) e M m := fun F H σ A a Q q =>
  h F H σ A a _ (q.imp (fun p k v F' H' A' n a' u => by
    obtain ⟨a, vs, rfl, h1, h2⟩ := dp_lst u
    refine ⟨a, rfl, ⟨vs, sqL_sub a'.fh h1⟩, k _ F' H' A' n a' fun F2 H2 s1 s2 i => ⟨fun hi => ⟨vs, sqL_sub (s1.trans s2) h1, by
      rw [dpAll_len h2, List.length_map]
      exact hi⟩, fun x hx => ?_⟩⟩
    obtain ⟨v, h3, h4⟩ := dpAll_get (d := e x) h2 (by rw [List.getElem?_map, hx]; rfl)
    refine ⟨⟨vs, v, sqL_sub (s1.trans s2) h1, h3⟩, fun w H' y => ?_⟩
    obtain ⟨rfl, hy⟩ := y
    refine ⟨F2, .refl s2, ?_⟩
    have := hy vs (sqL_sub (s1.trans s2) h1)
    rw [h3] at this
    cases this
    exact dp_sub s1 h4) fun _ z => z)
theorem Y.forE {wi : TI} {g : TG} {tb : TS} {e : Enc ι} {ml : Res (List ι × τ0)} {N1 : τ1 → List Sl} {S' : τ1 → ι → List Sl} {f : ι → τ1 → Res (Fl α τ1 τ1)} {s0 : τ0 → τ1}
    (hi : XIE K mg W S wi e M ml) (hw : ∀ s, Wk (M s) (N1 (s0 s))) {ts : List Nat} (hg : ∀ s, XTg K (N1 s) g ts e (S' s)) (hb : ∀ x s, Y K mg W (S' s x) tb R N1 (some N1) (f x s)) :
    Y K mg W S (tFor wi g tb) R B (some N1) (ml.bind fun p => forR f p.1 (s0 p.2)) := ⟨fun h => (nomatch h), fun F H σ A a D q => by
  refine hi F H σ A a _ ((Post.of_bind q).imp (fun p k J F1 H1 A1 n1 a1 wk => ?_) fun e z => z)
  obtain ⟨xs, st⟩ := p
  refine ⟨fun i m σ2 H2 => m = xs.length - i ∧ i ≤ xs.length ∧ ∃ F2 A2 s, Sub F1 F2 ∧ Nx F H A F2 H2 A2 ∧ At K F2 H2 σ2 (N1 s) A2 ∧ Post (forR (β := β) f (xs.drop i) s) (YOk K F H A R B (some N1) D) (YEr K mg W F H A), ?_, ?_⟩
  · obtain ⟨A', h1, sub⟩ := hw st K F1 H1 σ A1 a1.sl
    exact ⟨xs.length, by simp, Nat.zero_le _, F1, A', s0 st, .refl _, n1.less fun z hz => sub.mem hz, ⟨a1.fh, a1.nd.sublist sub, fun z hz => a1.fo z (sub.mem hz), h1⟩, k⟩
  · rintro i m σ2 H2 ⟨rfl, hle, F2, A2, s, sf, n, a2, k2⟩
    obtain ⟨stop, go⟩ := wk F2 H2 sf a2.fh i
    by_cases hlt : i < xs.length
    · obtain ⟨g1, g2⟩ := go xs[i] (by simp [hlt])
      refine .inr ⟨g1, fun σ' H' => ∃ F3 A3 s3, Sub F1 F3 ∧ Nx F H A F3 H' A3 ∧ At K F3 H' σ' (N1 s3) A3 ∧ Post (forR (β := β) f (xs.drop (i + 1)) s3) (YOk K F H A R B (some N1) D) (YEr K mg W F H A), fun σ' H' ⟨F3, A3, s3, h1, h2, h3, h4⟩ => ⟨xs.length - (i + 1), by omega, rfl, hlt, F3, A3, s3, h1, h2, h3, h4⟩, fun v H3 y => ?_⟩
      obtain ⟨F3, p3, d⟩ := g2 v H3 y
      refine hg s F3 H3 σ2 A2 v _ (a2.pu p3) d _ fun σ4 A4 a4 sub _ => ?_
      have n4 : Nx F H A F3 H3 A4 := n.trans (p3.nx fun z hz => .inl (sub z hz))
      rw [List.drop_eq_getElem_cons hlt] at k2
      refine (hb xs[i] s).run F3 H3 σ4 A4 a4 _ ((Post.of_bind k2).imp (fun fl k3 => match fl, k3 with
        | .nx s', k3 => fun F' H' σ' A' x a' => ⟨F', A', s', (sf.trans p3.ff).trans x.ff, n4.trans x, a', k3⟩
        | .ct s', k3 => fun F' H' σ' A' x a' => ⟨F', A', s', (sf.trans p3.ff).trans x.ff, n4.trans x, a', k3⟩
        | .bk s', k3 => fun F' H' σ' A' x a' => k3 F' H' σ' A' (n4.trans x) a'
        | .rt r, k3 => fun F' H' v Av y s r nd fo => k3 F' H' v Av (n4.trans y) s r nd fo) fun e z => YEr.from n4 z)
    · have e : i = xs.length := by omega
      subst e
      rw [List.drop_length] at k2
      exact .inl ⟨stop (Nat.le_refl _), k2 F2 H2 σ2 A2 n a2⟩⟩
/-! ### changes with such -/
/-- xs.append(e) -/
theorem Y.appE {i : Nat} {ρ : Rp (List ι)} {r : Rp ι} [Own ρ r] {xs0 : List ι} {xs : τ0 → List ι} {me : Res (ι × τ0)} {k : List ι → τ0 → Res (Fl α β τ)} (hs : S[i]? = some (.val ρ xs0)) (he : XEO K mg W S ta r M me) (hs2 : ∀ s, (M s)[i]? = some (.val ρ (xs s))) (hu : ∀ z s, Y K mg W ((M s).set i (.val ρ z)) u R B N (k z s)) :
    Y K mg W S (tSeq (tDrop (tBM K "list" rAppend (tVar i) (tCons ta tNil))) u) R B N (me.bind fun p => (chk (appQ (xs p.2) p.1)).bind fun ys => k ys p.2) := ⟨fun h => .bind fun p => .bind fun ys => (hu ys p.2).no h, fun F H σ A a D q => by
  obtain ⟨v, Ai, e1, part⟩ := a.part hs
  refine ⟨v, e1, part_ty part, he F H σ A a _ ((Post.of_bind q).imp (fun p k2 w F2 H2 A2 Av n2 a2 hr nd fo => ?_) fun e z => z)⟩
  obtain ⟨ys, e4, k3⟩ := Post.of_chk (Post.of_bind k2)
  unfold appQ at e4
  split at e4
  · rename_i c
    cases e4
    obtain ⟨v', Bi, e1', part2⟩ := a2.part (hs2 p.2)
    rw [e1] at e1'
    cases e1'
    obtain ⟨l, vs, A', e2, hl, e3, okl⟩ := Own.to part2.ok
    subst e3
    have nda := List.nodup_append.mp nd
    have fr1 : ∀ z ∈ Av, z ∉ A2 := fun z hz k => nda.2.2 z k z hz rfl
    have ndA := List.nodup_cons.mp part2.nd
    have one : OkL r K F2 H2 [w] [p.1] Av := ⟨Av, [], by simp, hr, rfl⟩
    obtain ⟨A4, a4, q1, q2, q3⟩ := part2.put (.refl a2.fh) e2 (ws := vs ++ [w]) (ys := xs p.2 ++ [p.1]) (A2 := A' ++ Av) (fun z hz => by
        rcases List.mem_append.mp hz with h | h
        · exact .inl ⟨List.mem_cons_of_mem _ h, fun k => ndA.1 (k ▸ h)⟩
        · exact .inr (fr1 z h)) (List.nodup_append.mpr ⟨ndA.2, nda.2.1, fun y hy z hz k => by
        subst k
        exact fr1 y hz (part2.inA y (List.mem_cons_of_mem _ hy))⟩) (fun z hz => by
        rcases List.mem_append.mp hz with h | h
        · exact part2.fo z (List.mem_cons_of_mem _ h)
        · exact fo z h) (okL_app okl one)
    refine ⟨l, vs, w, e2, rfl, hl, by rw [okL_len okl]; exact c, ?_⟩
    refine (hu _ _).run F2 _ σ A4 a4 D (Post.from (n2.trans ⟨.refl _, fun z o h hn => q2 z o h fun k => hn (List.mem_append_left _ k), fun z h _ => rfl, fun z hz => .inl ?_, q3⟩) k3)
    rcases q1 z hz with h | h
    · exact List.mem_append_left _ h
    · rcases List.mem_append.mp h with h | h
      · exact List.mem_append_left _ (part2.inA z (List.mem_cons_of_mem _ h))
      · exact List.mem_append_right _ h
  · cases e4⟩
/-! ### a def that hands its things back -/
def rIO (ws : List V) (r : Rp α) (G : δ → List Sl) : Rp (α × δ) where
  ok := fun K F H v x A => ∃ A' Av, A = A' ++ Av ∧ AtL K F H (ws.map some) (G x.2) A' ∧ r.ok K F H v x.1 Av
  mono := fun ⟨A', Av, e, h1, h2⟩ s t => by
    subst e
    exact ⟨A', Av, rfl, h1.mono s fun a ha => t a (List.mem_append_left _ ha), r.mono h2 s fun a ha => t a (List.mem_append_right _ ha)⟩
  dom := fun ⟨A', Av, e, h1, h2⟩ a ha => by
    subst e
    rcases List.mem_append.mp ha with h | h
    · exact h1.dom a h
    · exact r.dom h2 a h
inductive Back : List V → Nat → List Sl → List Sl → Prop where
  | nil {n : Nat} {S : List Sl} : Back [] n S []
  | no {w : V} {ws : List V} {n : Nat} {S G : List Sl} : Back ws (n + 1) S G → Back (w :: ws) n S (.nil :: G)
  | io {α : Type} {w : V} {ws : List V} {n : Nat} {S G : List Sl} {ρ : Rp α} {x : α} : S[n]? = some (.val (pin w ρ) x) → Back ws (n + 1) (S.set n .nil) G → Back (w :: ws) n S (.val ρ x :: G)
theorem back_at {F H : Hp} {σ : L2.St} {ws : List V} {n : Nat} {S G : List Sl} (b : Back ws n S G) : ∀ {A : List Addr}, At K F H σ S A → ∃ Ag, AtL K F H (ws.map some) G Ag ∧ Ag.Nodup ∧ ∀ z ∈ Ag, z ∈ A := by
  induction b with
  | nil =>
    intro A a
    exact ⟨[], rfl, List.nodup_nil, fun z hz => nomatch hz⟩
  | no b ih =>
    intro A a
    obtain ⟨Ag, h1, h2, h3⟩ := ih a
    exact ⟨Ag, ⟨[], Ag, rfl, rfl, h1⟩, h2, h3⟩
  | io hs b ih =>
    intro A a
    obtain ⟨o, A1, Ai, g1, g3, a5, nd5, sub5⟩ := a.takeOne hs
    obtain ⟨Ag, h1, h2, h3⟩ := ih a5
    cases o with
    | none => exact g3.elim
    | some v =>
      obtain ⟨q1, q2⟩ : v = _ ∧ _ := g3
      subst q1
      have n5 := List.nodup_append.mp nd5
      exact ⟨Ai ++ Ag, ⟨Ai, Ag, rfl, q2, h1⟩, List.nodup_append.mpr ⟨n5.2.1, h2, fun y hy z hz e => by
        subst e
        exact n5.2.2 y (h3 y hz) y hy rfl⟩, fun z hz => sub5 z (by
        rcases List.mem_append.mp hz with h | h
        · exact List.mem_append_right _ h
        · exact List.mem_append_left _ (h3 z h))⟩
theorem Y.retI {ws : List V} {r : Rp ι} {G : δ → List Sl} {me : Res (ι × τ0)} {y : τ0 → δ} {B : β → List Sl} (he : XEO K mg W S te r M me) (hb : ∀ s, Back ws 0 (M s) (G (y s))) : Y K mg W S (tSeq (tRet te) u) (rIO ws r G) B N (me.bind fun p => .ok (.rt (p.1, y p.2))) := ⟨fun _ => .bind fun _ => .rt, fun F H σ A a D q =>
  he F H σ A a _ ((Post.of_bind q).imp (fun x k2 v F' H' A' Av n a' hr nd fo => by
    obtain ⟨Ag, h1, h2, h3⟩ := back_at (hb x.2) a'
    have nda := List.nodup_append.mp nd
    exact k2 F' H' v (Ag ++ Av) (n.less fun z hz => by
      rcases List.mem_append.mp hz with h | h
      · exact List.mem_append_left _ (h3 z h)
      · exact List.mem_append_right _ h) a'.fh ⟨Ag, Av, rfl, h1, hr⟩ (List.nodup_append.mpr ⟨h2, nda.2.1, fun x hx y hy e => nda.2.2 x (h3 x hx) y hy e⟩) fun z hz => by
      rcases List.mem_append.mp hz with h | h
      · exact a'.fo z (h3 z h)
      · exact fo z h) fun e z => z)⟩
theorem Y.retNI {ws : List V} {e : Enc ι} {x : ι} {G : δ → List Sl} {y : δ} {B : β → List Sl} (hx : e x = .none) (hb : Back ws 0 S (G y)) : Y K mg W S (tSeq tRetN u) (rIO ws (fz e) G) B N (.ok (.rt (x, y))) := ⟨fun _ => .rt, fun F H σ A a D q => by
  obtain ⟨Ag, h1, h2, h3⟩ := back_at hb a
  refine q F H .non Ag (Nx.refl.less h3) a.fh ⟨Ag, [], by rw [List.append_nil], h1, rfl, ?_⟩ h2 fun z hz => a.fo z (h3 z hz)
  rw [hx]
  exact .non⟩
def pinS (w : V) : Sl → Sl
  | .nil => .nil
  | .val r x => .val (pin w r) x
def pins : List Bool → List V → List Sl → List Sl
  | true :: bs, w :: ws, s :: S => pinS w s :: pins bs ws S
  | false :: bs, _ :: ws, s :: S => s :: pins bs ws S
  | _, _, S => S
theorem pins_at {F H : Hp} : ∀ {bs : List Bool} {ws : List V} {S : List Sl} {A : List Addr}, AtL K F H (ws.map some) S A → AtL K F H (ws.map some) (pins bs ws S) A
  | [], ws, S, A, h => by cases ws <;> exact h
  | true :: bs, [], S, A, h => h
  | false :: bs, [], S, A, h => h
  | true :: bs, w :: ws, [], A, h => h
  | false :: bs, w :: ws, [], A, h => h
  | true :: bs, w :: ws, s :: S, A, ⟨A1, A2, e, h1, h2⟩ => ⟨A1, A2, e, by
    cases s with
    | nil => exact h1
    | val r x => exact ⟨rfl, h1⟩, pins_at h2⟩
  | false :: bs, w :: ws, s :: S, A, ⟨A1, A2, e, h1, h2⟩ => ⟨A1, A2, e, h1, pins_at h2⟩
theorem pins_len : ∀ {bs : List Bool} {ws : List V} {S : List Sl}, (pins bs ws S).length = S.length
  | [], ws, S => by cases ws <;> rfl
  | true :: bs, [], S => rfl
  | false :: bs, [], S => rfl
  | true :: bs, w :: ws, [] => rfl
  | false :: bs, w :: ws, [] => rfl
  | true :: bs, w :: ws, s :: S => by
    show (pins bs ws S).length + 1 = S.length + 1
    rw [pins_len]
  | false :: bs, w :: ws, s :: S => by
    show (pins bs ws S).length + 1 = S.length + 1
    rw [pins_len]
theorem fn_okI {P : Program} {w : World} {base : Heap} {x qual : Str} {st : Stmt} {f : Addr} {fd : FuncData} {nm ps : List Str} {k : Nat} {n : Nat} {G : κ → List Sl} {G' : κ → δ → List Sl} {m : κ → Res (ι × δ)} (bs : List Bool) (r : Rp ι) (mm : κ → Res (Fl (ι × δ) Empty Unit))
    (F : Fun K x qual st f fd) (Sc : FnScope nm ps (defScope st)) (hm : ∀ t, m t = Res.fin (mm t)) (hp : ∀ t, (G t).length = ps.length) (hn : ∀ t, (G t).length + n = nm.length)
    (body : ∀ (t : κ) (ws : List V) (cdv : Value) (A : Around) (outer : List Env) (s : Shared) (H : Hp) (E : XK), ws.length = ps.length → Room k (A.deeper (PyProof.Rows.envOfC qual (defScope st) s.heap.objs.size f cdv)) →
      ∃ tt, PSs (cxOf (L2.CX P w) P w K mg base nm qual (defScope st) f cdv A outer s H E) (defBody st) tt ∧ Y K mg (fun c d _ H => E c d H) (pins bs ws (G t) ++ List.replicate n .nil) tt (rIO ws r (G' t)) (fun z : Empty => nomatch z) none (mm t)) :
    FnOk P w K mg base (L2.CX P w) (k + 1) f fd ps (spI K mg G G' r m) := by
  refine F.okX Sc (fun vs H Q E h => ?_) (fun cdv A outer s H vs Q E hr h => ?_)
  · obtain ⟨t, F0, A0, a, _⟩ := h
    have := a.sl.len
    rw [List.length_map, hp] at this
    exact this
  · obtain ⟨t, F0, A0, a, hq⟩ := h
    have lv : vs.length = ps.length := by
      have := a.sl.len
      rw [List.length_map, hp] at this
      exact this
    obtain ⟨tt, h1, h2⟩ := body t vs cdv A outer s H E lv hr
    refine ⟨tt, h1, ?_⟩
    rw [hm] at hq
    have a' : At K F0 H (vs.map some) (pins bs vs (G t)) A0 := ⟨a.fh, a.nd, a.fo, pins_at a.sl⟩
    refine h2.run F0 H _ A0 (a'.start (by rw [pins_len]; exact hn t)) _ ((Post.of_bind hq).imp (fun fl k => ?_) fun e k F' H' σ' c d n s x => k F' H' c d n s x)
    cases fl with
    | rt x =>
      intro F' H' v Av n s hr nd fo
      obtain ⟨A', Av', e, g1, g2⟩ := hr
      subst e
      exact k v F' H' A' Av' n s g1 g2 nd fo
    | nx s => exact k.elim
    | bk s => exact nomatch s
    | ct s => exact nomatch s
end
end TP

set_option Elab.async false
set_option linter.all false
set_option maxRecDepth 100000
set_option maxHeartbeats 4000000
set_option autoImplicit false
/-! TP, part 17: lists whose items stay where they are; dicts with known keys. -/
namespace TP
open PySem PySem.Spec L2
section
variable {K : Fg} {mg : Str → Option Value} {W : WX} {S S' : List Sl} {te ta tb tc tv : TE} {tr : TA} {tt : TT} {t t1 t2 u : TS}
variable {α β γ δ τ τ0 τ1 κ ι ζ : Type} {R : Rp α} {B : β → List Sl} {N : Option (τ → List Sl)} {M : τ0 → List Sl}
/-- a list of owned items that stand at ws -/
def pinI (ws : List V) (r : Rp ι) : Rp (List ι) where
  ok := fun K F H v xs A => ∃ a A', v = .ref a ∧ H a = some (.lst ws) ∧ A = a :: A' ∧ OkL r K F H ws xs A'
  mono := fun ⟨a, A', h1, h2, h3, h4⟩ s t => by
    subst h3
    exact ⟨a, A', h1, (t a List.mem_cons_self).trans h2, rfl, h4.mono s fun b hb => t b (List.mem_cons_of_mem _ hb)⟩
  dom := fun ⟨a, A', h1, h2, h3, h4⟩ b hb => by
    subst h3
    rcases List.mem_cons.mp hb with z | z
    · subst z
      rw [h2]
      exact fun z => nomatch z
    · exact h4.dom b z
/-- an owned list's items can be changed in their places -/
class OwnI (ρ : Rp (List ι)) (r : outParam (Rp ι)) : Prop where
  to : ∀ {K : Fg} {F H : Hp} {v : V} {xs : List ι} {A : List Addr}, ρ.ok K F H v xs A → (ow r).ok K F H v xs A
  back : ∀ {K : Fg} {F H F' H' : Hp} {l : Addr} {vs : List V} {xs ys : List ι} {A A' : List Addr}, ρ.ok K F H (.ref l) xs A → H l = some (.lst vs) → H' l = some (.lst vs) → OkL r K F' H' vs ys A' → ρ.ok K F' H' (.ref l) ys (l :: A')
instance {ρ : Rp (List ι)} {r : Rp ι} [Own ρ r] : OwnI ρ r := ⟨fun h => Own.to h, fun h _ h2 ok => Own.back h ⟨_, _, _, rfl, h2, rfl, ok⟩⟩
instance {ws : List V} {r : Rp ι} : OwnI (pinI ws r) r := ⟨fun ⟨a, A', h1, h2, h3, h4⟩ => ⟨a, ws, A', h1, h2, h3, h4⟩, fun {K F H F' H' l vs xs ys A A'} ⟨a, A1, h1, h2, h3, h4⟩ g1 g2 ok => by
  cases h1
  rw [h2] at g1
  cases g1
  exact ⟨l, A', rfl, g2, rfl, ok⟩⟩
theorem Part.itemI {F H : Hp} {σ : L2.St} {A : List Addr} {ρ : Rp (List ι)} {r : Rp ι} [OwnI ρ r] {xs : List ι} {v : V} {Ai : List Addr} {Sf : List ι → List Sl} (p : Part K F H σ A ρ xs v Ai Sf) {k : Nat} {x : ι} (hk : xs[k]? = some x) :
    ∃ l vs w Ak, v = .ref l ∧ H l = some (.lst vs) ∧ vs.length = xs.length ∧ vs[k]? = some w ∧ Part K F H σ A r x w Ak fun x' => Sf (xs.set k x') := by
  obtain ⟨l, vs, A', e2, hl, e3, okl⟩ := OwnI.to p.ok
  subst e2 e3
  obtain ⟨w, A1, Ak, A2, h1, e4, h2, h3⟩ := okl.at hk
  subst e4
  have nd := List.nodup_cons.mp p.nd
  have n1 := List.nodup_append.mp nd.2
  have n2 := List.nodup_append.mp n1.2.1
  have d := okl.dom
  have in1 : ∀ z ∈ A1, z ∈ l :: (A1 ++ (Ak ++ A2)) := fun z h => List.mem_cons_of_mem _ (List.mem_append_left _ h)
  have inK : ∀ z ∈ Ak, z ∈ l :: (A1 ++ (Ak ++ A2)) := fun z h => List.mem_cons_of_mem _ (List.mem_append_right _ (List.mem_append_left _ h))
  have in2 : ∀ z ∈ A2, z ∈ l :: (A1 ++ (Ak ++ A2)) := fun z h => List.mem_cons_of_mem _ (List.mem_append_right _ (List.mem_append_right _ h))
  have noK1 : ∀ z ∈ A1, z ∉ Ak := fun z h k => n1.2.2 z h z (List.mem_append_left _ k) rfl
  have noK2 : ∀ z ∈ A2, z ∉ Ak := fun z h k => n2.2.2 z k z h rfl
  have noKl : l ∉ Ak := fun h => nd.1 (List.mem_append_right _ (List.mem_append_left _ h))
  have ln : H l ≠ none := by
    rw [hl]
    exact fun z => nomatch z
  have dA : ∀ z, z ∈ A1 ∨ z ∈ A2 → H z ≠ none := fun z hz => d z (hz.elim (fun h => List.mem_append_left _ h) fun h => List.mem_append_right _ (List.mem_append_right _ h))
  refine ⟨l, vs, w, Ak, rfl, hl, okL_len okl, h1, p.dom, fun z hz => p.inA z (inK z hz), n2.1, fun z hz => p.fo z (inK z hz), h2, fun F' H' x' Ak' sf sh hh hf aa nd' fo' hs' hr => ?_⟩
  have stay : ∀ z, z ∈ A1 ∨ z ∈ A2 → H' z = H z := fun z hz => by
    cases q : H z with
    | none => exact absurd q (dA z hz)
    | some o => exact hh z o q (hz.elim (noK1 z) (noK2 z))
  have apart : ∀ z, z ∈ A1 ∨ z ∈ A2 → z ∉ Ak' := fun z hz k => by
    rcases aa z k with h | h
    · exact hz.elim (fun q => noK1 z q h) (fun q => noK2 z q h)
    · exact h (hz.elim (fun q => p.inA z (in1 z q)) fun q => p.inA z (in2 z q))
  have apl : l ∉ Ak' := fun k => by
    rcases aa l k with h | h
    · exact noKl h
    · exact h (p.inA l List.mem_cons_self)
  refine (fun z : ∃ A', At K F' H' σ (Sf (xs.set k x')) A' ∧ ∀ z ∈ A', z ∈ A ∨ z ∈ l :: (A1 ++ (Ak' ++ A2)) => ?_) (p.mod F' H' (xs.set k x') (l :: (A1 ++ (Ak' ++ A2))) sf sh (fun z o h hn => hh z o h fun k => hn (inK z k)) (fun z h hn => hf z h fun k => hn (inK z k)) (fun z hz => ?_) (List.nodup_cons.mpr ⟨fun h => ?_, List.nodup_append.mpr ⟨n1.1, List.nodup_append.mpr ⟨nd', n2.2.1, fun y hy w hw q => ?_⟩, fun y hy w hw q => ?_⟩⟩) (fun z hz => ?_) hs' (OwnI.back p.ok hl (hh l _ hl noKl) (h3 F' H' x' Ak' sf stay hr)))
  · obtain ⟨A', g1, g3⟩ := z
    refine ⟨A', g1, fun z hz => ?_⟩
    rcases g3 z hz with h | h
    · exact .inl h
    · rcases List.mem_cons.mp h with h | h
      · exact .inl (p.inA z (by rw [h]; exact List.mem_cons_self))
      · rcases List.mem_append.mp h with h | h
        · exact .inl (p.inA z (in1 z h))
        · rcases List.mem_append.mp h with h | h
          · exact .inr h
          · exact .inl (p.inA z (in2 z h))
  · rcases List.mem_cons.mp hz with h | h
    · exact .inl (by rw [h]; exact List.mem_cons_self)
    · rcases List.mem_append.mp h with h | h
      · exact .inl (in1 z h)
      · rcases List.mem_append.mp h with h | h
        · exact (aa z h).imp (inK z) fun q => q
        · exact .inl (in2 z h)
  · rcases List.mem_append.mp h with h | h
    · exact nd.1 (List.mem_append_left _ h)
    · rcases List.mem_append.mp h with h | h
      · exact apl h
      · exact nd.1 (List.mem_append_right _ (List.mem_append_right _ h))
  · subst q
    exact apart y (.inr hw) hy
  · subst q
    rcases List.mem_append.mp hw with h | h
    · exact apart y (.inl hy) h
    · exact n1.2.2 y hy y (List.mem_append_right _ h) rfl
  · rcases List.mem_cons.mp hz with h | h
    · rw [h, hf l ln noKl]
      exact p.fo l List.mem_cons_self
    · rcases List.mem_append.mp h with h | h
      · rw [hf z (dA z (.inl h)) (noK1 z h)]
        exact p.fo z (in1 z h)
      · rcases List.mem_append.mp h with h | h
        · exact fo' z h
        · rw [hf z (dA z (.inr h)) (noK2 z h)]
          exact p.fo z (in2 z h)
theorem XP.itemI {ρ : Rp (List ι)} {r : Rp ι} [OwnI ρ r] {m : Res (List ι × κ)} {mi : Res Int} {up : κ → List ι → ζ} {Sr : ζ → List Sl} (h : XP K mg W S te ρ m up Sr) (hi : XB K mg W S ta (vD eI) mi) :
    XP K mg W S (tOp (rIxL K) te ta) r (m.bind fun p => mi.bind fun j => (chk (itQ p.1 j)).bind fun q => .ok (q.1, (p.2, p.1, q.2))) (fun c x' => up c.1 (c.2.1.set c.2.2 x')) Sr := fun F H σ A a Q q =>
  h F H σ A a _ ((Post.of_bind q).imp (fun p k v F1 H1 Ai p1 part => hi F1 H1 σ A (a.pu p1) _ ((Post.of_bind k).imp (fun j k2 jv F2 H2 p2 u2 => by
    obtain ⟨z, ez, k3⟩ := Post.of_chk (Post.of_bind k2)
    have part2 := part.pu p2
    unfold itQ at ez
    cases c : ixN p.1.length j with
    | none =>
      rw [c] at ez
      cases ez
    | some n =>
      rw [c, Option.bind_some] at ez
      cases g : p.1[n]? with
      | none =>
        rw [g] at ez
        cases ez
      | some y =>
        rw [g] at ez
        cases ez
        obtain ⟨l, vs, w, Ak, rfl, hl, el, hw, pk⟩ := part2.itemI g
        refine ⟨l, vs, j, w, rfl, dp_int u2, .of hl, ?_, k3 w F2 H2 Ak (p1.trans p2) pk⟩
        unfold atI
        rw [el, c]
        exact hw) fun e z => z.pu p1)) fun e z => z)
/-- the slot told otherwise, the value and what it owns the same -/
theorem At.as {F H : Hp} {σ : L2.St} {A : List Addr} {i : Nat} {r : Rp ι} {r' : Rp γ} {x : ι} {y : γ} (a : At K F H σ S A) (hs : S[i]? = some (.val r x)) (h : ∀ v Ai, σ[i]? = some (some v) → r.ok K F H v x Ai → r'.ok K F H v y Ai) : At K F H σ (S.set i (.val r' y)) A := by
  obtain ⟨o, A1, Ai, A2, e1, e2, e3, e4⟩ := a.sl.at hs
  cases o with
  | none => exact e3.elim
  | some v =>
    have h5 := e4 F H (some v) (.val r' y) Ai (.refl _) (fun _ _ => rfl) (h v Ai e1 e3)
    rw [set_self e1, ← e2] at h5
    exact ⟨a.fh, a.nd, a.fo, h5⟩
/-- xs[j].append(e), where e changes items of xs in their places -/
theorem Y.mixE {i : Nat} {ρ1 : Rp (List ι)} {r : Rp ι} [Own ρ1 r] {xs : List (List ι)} {mi : Res Int} {g : τ0 → List (List ι)} {me : Res (ι × τ0)} {k : List (List ι) → τ0 → Res (Fl α β τ)}
    (hs : S[i]? = some (.val (ow ρ1) xs)) (hi : XB K mg W S ta (vD eI) mi) (hM : ∀ s, (M s)[i]? = some (.val (ow ρ1) (g s)))
    (he : ∀ ws, XEO K mg W (S.set i (.val (pinI ws ρ1) xs)) tb r (fun s => (M s).set i (.val (pinI ws ρ1) (g s))) me) (hu : ∀ ys s, Y K mg W ((M s).set i (.val (ow ρ1) ys)) u R B N (k ys s)) :
    Y K mg W S (tSeq (tDrop (tBM K "list" rAppend (tOp (rIxL K) (tVar i) ta) (tCons tb tNil))) u) R B N (mi.bind fun j => (chk (itQ xs j)).bind fun q => me.bind fun p => (chk ((g p.2)[q.2]?)).bind fun y => (chk (appQ y p.1)).bind fun z => k ((g p.2).set q.2 z) p.2) :=
  ⟨fun h => .bind fun j => .bind fun q => .bind fun p => .bind fun y => .bind fun z => (hu _ _).no h, fun F H σ A a D q => by
  obtain ⟨v, Ai, e1, part⟩ := a.part hs
  refine ⟨v, e1, hi F H σ A a _ ((Post.of_bind q).imp (fun j k2 jv F1 H1 p1 u1 => ?_) fun e z => z.x)⟩
  obtain ⟨⟨x0, n⟩, ez, k3⟩ := Post.of_chk (Post.of_bind k2)
  unfold itQ at ez
  cases c : ixN xs.length j with
  | none =>
    rw [c] at ez
    cases ez
  | some n' =>
    rw [c, Option.bind_some] at ez
    cases gx : xs[n']? with
    | none =>
      rw [gx] at ez
      cases ez
    | some y0 =>
      rw [gx] at ez
      cases ez
      have part1 := part.pu p1
      obtain ⟨l, vs, w, Ak, rfl, hl, el, hw, pk⟩ := Part.item part1 gx
      refine ⟨l, vs, j, w, rfl, dp_int u1, .of hl, by
        unfold atI
        rw [el, c]
        exact hw, part_ty pk, ?_⟩
      have a1 := a.pu p1
      have ap : At K F1 H1 σ (S.set i (.val (pinI vs ρ1) xs)) A := a1.as hs fun v' Bi h1 h2 => by
        rw [e1] at h1
        cases h1
        obtain ⟨b, vs', A', g1, g2, g3, g4⟩ := h2
        cases g1
        rw [hl] at g2
        cases g2
        exact ⟨l, A', rfl, hl, g3, g4⟩
      have n1 : Nx F H A F1 H1 A := p1.nx fun _ z => .inl z
      have k3' := Post.of_bind k3
      refine he vs F1 H1 σ A ap _ (k3'.imp (fun p k4 w2 F2 H2 A2 Av n2 a2 hr nd fo => ?_) fun e z => YEr.from n1 z)
      obtain ⟨y1, ey, k5⟩ := Post.of_chk (Post.of_bind k4)
      obtain ⟨z1, ez1, k6⟩ := Post.of_chk (Post.of_bind k5)
      unfold appQ at ez1
      split at ez1
      · rename_i hlen
        cases ez1
        have il : i < (M p.2).length := (List.getElem?_eq_some_iff.mp (hM p.2)).1
        have hsl : ∃ Bi, (pinI vs ρ1).ok K F2 H2 (.ref l) (g p.2) Bi := by
          obtain ⟨o, C1, Ci, C2, g1, g2, g3, g4⟩ := a2.sl.at (i := i) (s := .val (pinI vs ρ1) (g p.2)) (by rw [List.getElem?_set_self il])
          rw [e1] at g1
          cases g1
          exact ⟨Ci, g3⟩
        obtain ⟨Bi, b0, B', hb1, hl2, hb3, hb4⟩ := hsl
        cases hb1
        have a3 : At K F2 H2 σ (((M p.2).set i (.val (pinI vs ρ1) (g p.2))).set i (.val (ow ρ1) (g p.2))) A2 := a2.as (by rw [List.getElem?_set_self il]) fun v' Bi' h1 h2 => by
          obtain ⟨b, A', g1, g2, g3, g4⟩ := h2
          exact ⟨b, vs, A', g1, g2, g3, g4⟩
        have eM : ((M p.2).set i (.val (pinI vs ρ1) (g p.2))).set i (.val (ow ρ1) (g p.2)) = M p.2 := by
          rw [List.set_set]
          refine List.ext_getElem? fun j' => ?_
          by_cases q' : i = j'
          · subst q'
            rw [List.getElem?_set_self il, hM]
          · rw [List.getElem?_set_ne q']
        rw [eM] at a3
        obtain ⟨v3, A3i, e3, part3⟩ := a3.part (hM p.2)
        rw [e1] at e3
        cases e3
        obtain ⟨l3, vs3, w3, Ak3, hl3a, hl3, el3, hw3, pk3⟩ := Part.item part3 ey
        cases hl3a
        rw [hl2] at hl3
        cases hl3
        rw [hw] at hw3
        cases hw3
        obtain ⟨l4, vs4, A4', e4, hl4, e5, okl⟩ := Own.to pk3.ok
        subst e5
        have nda := List.nodup_append.mp nd
        have fr1 : ∀ z ∈ Av, z ∉ A2 := fun z hz k => nda.2.2 z k z hz rfl
        have ndA := List.nodup_cons.mp pk3.nd
        have one : OkL r K F2 H2 [w2] [p.1] Av := ⟨Av, [], by simp, hr, rfl⟩
        obtain ⟨A5, a5, q1, q2, q3⟩ := pk3.put (.refl a3.fh) e4 (ws := vs4 ++ [w2]) (ys := y1 ++ [p.1]) (A2 := A4' ++ Av) (fun z hz => by
            rcases List.mem_append.mp hz with h | h
            · exact .inl ⟨List.mem_cons_of_mem _ h, fun k => ndA.1 (k ▸ h)⟩
            · exact .inr (fr1 z h)) (List.nodup_append.mpr ⟨ndA.2, nda.2.1, fun y hy z hz k => by
            subst k
            exact fr1 y hz (pk3.inA y (List.mem_cons_of_mem _ hy))⟩) (fun z hz => by
            rcases List.mem_append.mp hz with h | h
            · exact pk3.fo z (List.mem_cons_of_mem _ h)
            · exact fo z h) (okL_app okl one)
        refine ⟨l4, vs4, w2, e4, rfl, hl4, by rw [okL_len okl]; exact hlen, ?_⟩
        refine (hu _ _).run F2 _ σ A5 a5 D (Post.from ((n1.trans n2).trans ⟨.refl _, fun z o h hn => q2 z o h fun k => hn (List.mem_append_left _ k), fun z h _ => rfl, fun z hz => .inl ?_, q3⟩) k6)
        rcases q1 z hz with h | h
        · exact List.mem_append_left _ h
        · rcases List.mem_append.mp h with h | h
          · exact List.mem_append_left _ (pk3.inA z (List.mem_cons_of_mem _ h))
          · exact List.mem_append_right _ h
      · cases ez1⟩
/-- xs[e1] = e2, e2 frozen data -/
theorem Y.setE {i : Nat} {ρ : Rp (List ι)} {e : Enc ι} [Own ρ (fz e)] {xs : τ0 → List ι} {me : Res ι} {mi : Res (Int × τ0)} {xs0 : List ι} {k : List ι → τ0 → Res (Fl α β τ)} (he : XB K mg W S tv (vD e) me) (hs : S[i]? = some (.val ρ xs0)) (hi : XE K mg W S ta (vD eI) M mi) (hs2 : ∀ s, (M s)[i]? = some (.val ρ (xs s))) (hu : ∀ z s, Y K mg W ((M s).set i (.val ρ z)) u R B N (k z s)) :
    Y K mg W S (tSeq (tAsg tv (gSub (tVar i) ta rSetL)) u) R B N (me.bind fun x => mi.bind fun p => (chk (setQ (xs p.2) p.1 x)).bind fun ys => k ys p.2) := ⟨fun h => .bind fun x => .bind fun p => .bind fun ys => (hu _ _).no h, fun F H σ A a D q =>
  he F H σ A a _ ((Post.of_bind q).imp (fun x k2 w F1 H1 p1 hx => by
    obtain ⟨v, Ai, e1, part⟩ := (a.pu p1).part hs
    have n1 : Nx F H A F1 H1 A := p1.nx fun _ z => .inl z
    refine ⟨v, e1, hi F1 H1 σ A (a.pu p1) _ ((Post.of_bind k2).imp (fun p k3 jv F2 H2 A2 n2 a2 u2 => ?_) fun e z => YEr.from n1 z)⟩
    obtain ⟨ys, ey, k4⟩ := Post.of_chk (Post.of_bind k3)
    unfold setQ at ey
    cases c : ixN (xs p.2).length p.1 with
    | none =>
      rw [c] at ey
      cases ey
    | some n =>
      rw [c] at ey
      cases ey
      obtain ⟨v', Bi, e2, part2⟩ := a2.part (hs2 p.2)
      rw [e1] at e2
      cases e2
      obtain ⟨l, vs, e3, hl, dl, md⟩ := Part.lst (e := e) part2
      have el : vs.length = (xs p.2).length := by rw [dpAll_len dl, List.length_map]
      obtain ⟨A3, a3, n3⟩ := md F2 H2 ((xs p.2).set n x) (vs.set n w) (.refl a2.fh) (dpAll_set (dp_sub n2.ff hx) n dl)
      exact ⟨l, vs, p.1, n, e3, dp_int u2, hl, by rw [el]; exact c, (hu _ _).run F2 _ σ A3 a3 D (Post.from ((n1.trans n2).trans n3) k4)⟩) fun e z => z.x)⟩
theorem arok_dat {F : Hp} {σ : L2.St} : ∀ {vs : List V} {ds : List PyData}, ArOk K F σ vs (ds.map Ar.dat) → DpAll K F vs ds
  | [], [], _ => .nil
  | v :: vs, d :: ds, h => .cons h.1 (arok_dat h.2)
  | [], _ :: _, h => h.elim
  | _ :: _, [], h => h.elim
theorem XE.tup {D : κ → List Ar} {DD : κ → List PyData} {e : Enc ι} {m : Res (κ × τ0)} {n : Nat} (h : XEG K mg W S tr D M m) (hD : ∀ t, D t = (DD t).map Ar.dat) (f : κ → ι) (hf : ∀ t, e (f t) = .tuple (DD t)) (hn : ∀ t, (DD t).length = n := by intro _; rfl) (hz : n ≤ sizeLine := by decide) :
    XE K mg W S (tTup tr) (vD e) M (m.bind fun p => .ok (f p.1, p.2)) := fun F H σ A a Q q =>
  h F H σ A a _ ((Post.of_bind q).imp (fun t k vs F1 H1 A1 n1 a1 u1 => by
    rw [hD] at u1
    have u2 := arok_dat u1
    exact ⟨by rw [dpAll_len u2, hn]; exact hz, fun p hp => by
      have pu := Pu.new (o := .tup vs) a1.fh hp
      refine k (.ref p) (upd F1 p (.tup vs)) _ A1 (n1.trans (pu.nx fun _ z => .inl z)) (a1.pu pu) (show Dp _ _ _ (e (f t.1)) from ?_)
      rw [hf]
      exact .tup (.of upd_same) (dpAll_sub (.new (a1.fh.back hp)) u2)⟩) fun e z => z)
theorem XEO.lst {D : κ → List Ar} {DD : κ → List PyData} {e : Enc ι} {m : Res (κ × τ0)} {n : Nat} (h : XEG K mg W S tr D M m) (hD : ∀ t, D t = (DD t).map Ar.dat) (f : κ → List ι) (hf : ∀ t, (f t).map e = DD t) (hn : ∀ t, (DD t).length = n := by intro _; rfl) (hz : n ≤ sizeLine := by decide) :
    XEO K mg W S (tLst tr) (ow (fz e)) M (m.bind fun p => .ok (f p.1, p.2)) := fun F H σ A a Q q =>
  h F H σ A a _ ((Post.of_bind q).imp (fun t k vs F1 H1 A1 n1 a1 u1 => by
    rw [hD] at u1
    have u2 := arok_dat u1
    exact ⟨by rw [dpAll_len u2, hn]; exact hz, fun p hp => by
      have pu := Pu.newO (o := .lst vs) a1.fh hp
      refine k (.ref p) F1 _ A1 [p] (n1.trans (nx_app pu (fun _ z => z) fun z hz => by
        rw [List.mem_singleton] at hz
        rw [hz]
        exact hp)) (a1.pu pu) ⟨p, vs, [], rfl, upd_same, rfl, okL_of (by rw [hf]; exact u2)⟩ (a1.apart (by simp) fun z hz => by
        rw [List.mem_singleton] at hz
        rw [hz]
        exact hp) fun z hz => by
        rw [List.mem_singleton] at hz
        rw [hz]
        exact a1.fh.back hp⟩) fun e z => z)

/-! ### dicts whose keys are known -/
def KvOk (K : Fg) (F : Hp) : List (Key × V) → List (Key × PyData) → Prop
  | [], [] => True
  | p :: ps, q :: qs => p.1 = q.1 ∧ Dp K F p.2 q.2 ∧ KvOk K F ps qs
  | _, _ => False
theorem KvOk.sub {F F' : Hp} (s : Sub F F') : ∀ {ps : List (Key × V)} {qs : List (Key × PyData)}, KvOk K F ps qs → KvOk K F' ps qs
  | [], [], _ => trivial
  | p :: ps, q :: qs, h => ⟨h.1, dp_sub s h.2.1, KvOk.sub s h.2.2⟩
  | [], _ :: _, h => h.elim
  | _ :: _, [], h => h.elim
theorem KvOk.keys {F : Hp} : ∀ {ps : List (Key × V)} {qs : List (Key × PyData)}, KvOk K F ps qs → ps.map (·.1) = qs.map (·.1)
  | [], [], _ => rfl
  | p :: ps, q :: qs, h => by rw [List.map_cons, List.map_cons, h.1, KvOk.keys h.2.2]
  | [], _ :: _, h => h.elim
  | _ :: _, [], h => h.elim
theorem KvOk.get {F : Hp} : ∀ {ps : List (Key × V)} {qs : List (Key × PyData)} {n : Nat} {k : Key} {d : PyData}, KvOk K F ps qs → (qs.map (·.1)).Nodup → qs[n]? = some (k, d) → ∃ v, valV ps k = some v ∧ Dp K F v d
  | [], [], n, k, d, _, _, e => by simp at e
  | p :: ps, q :: qs, 0, k, d, h, nd, e => by
    simp at e
    subst e
    exact ⟨p.2, valV_pos h.1, h.2.1⟩
  | p :: ps, q :: qs, n + 1, k, d, h, nd, e => by
    have c := List.nodup_cons.mp nd
    obtain ⟨v, h1, h2⟩ := KvOk.get (n := n) h.2.2 c.2 (by simpa using e)
    refine ⟨v, (valV_neg fun k' => c.1 ?_).trans h1, h2⟩
    have : (k, d) ∈ qs := List.mem_of_getElem? (by simpa using e)
    exact List.mem_map.mpr ⟨_, this, (k'.symm.trans h.1 : k = q.1)⟩
  | [], _ :: _, _, _, _, h, _, _ => h.elim
  | _ :: _, [], _, _, _, h, _, _ => h.elim
theorem KvOk.set {F : Hp} {v : V} {d' : PyData} (hv : Dp K F v d') : ∀ {ps : List (Key × V)} {qs : List (Key × PyData)} {n : Nat} {k : Key} {d : PyData}, KvOk K F ps qs → (qs.map (·.1)).Nodup → qs[n]? = some (k, d) → KvOk K F (ps.map fun kv => if kv.1 = k then (kv.1, v) else kv) (qs.set n (k, d'))
  | [], [], n, k, d, _, _, e => by simp at e
  | p :: ps, q :: qs, 0, k, d, h, nd, e => by
    simp at e
    subst e
    have c := List.nodup_cons.mp nd
    rw [List.map_cons, if_pos h.1, List.set_cons_zero]
    refine ⟨h.1, hv, ?_⟩
    have same : (ps.map fun kv => if kv.1 = k then (kv.1, v) else kv) = ps := by
      refine (List.map_congr_left fun x hx => ?_).trans (List.map_id _)
      have : x.1 ∈ qs.map (·.1) := by
        rw [← h.2.2.keys]
        exact List.mem_map.mpr ⟨x, hx, rfl⟩
      have ne : ¬x.1 = k := fun e2 => c.1 (by
        rw [e2] at this
        exact this)
      rw [if_neg ne]
      rfl
    rw [same]
    exact h.2.2
  | p :: ps, q :: qs, n + 1, k, d, h, nd, e => by
    have c := List.nodup_cons.mp nd
    have : (k, d) ∈ qs := List.mem_of_getElem? (by simpa using e)
    have ne : p.1 ≠ k := fun k' => c.1 (List.mem_map.mpr ⟨_, this, (k'.symm.trans h.1 : k = q.1)⟩)
    rw [List.map_cons, if_neg ne, List.set_cons_succ]
    exact ⟨h.1, h.2.1, KvOk.set hv h.2.2 c.2 (by simpa using e)⟩
  | [], _ :: _, _, _, _, h, _, _ => h.elim
  | _ :: _, [], _, _, _, h, _, _ => h.elim
theorem valV_none {ps : List (Key × V)} {k : Key} (h : k ∉ ps.map (·.1)) : valV ps k = none := by
  induction ps with
  | nil => rfl
  | cons p ps ih =>
    rw [List.map_cons] at h
    rw [valV_neg fun q => h (by rw [← q]; exact List.mem_cons_self)]
    exact ih fun q => h (List.mem_cons_of_mem _ q)
theorem merge_new : ∀ (ps acc : List (Key × V)), (acc.map (·.1) ++ ps.map (·.1)).Nodup → mergeK acc ps = acc ++ ps
  | [], acc, _ => by rw [List.append_nil]; rfl
  | p :: ps, acc, h => by
    have n1 := List.nodup_append.mp h
    have hn : p.1 ∉ acc.map (·.1) := fun q => n1.2.2 p.1 q p.1 (by simp) rfl
    have e : putK acc p.1 p.2 = acc ++ [p] := putK_new p.2 (valV_none hn)
    show mergeK (putK acc p.1 p.2) ps = _
    rw [e, merge_new ps (acc ++ [p]) (by simpa using h)]
    simp
/-- an owned dict with these keys, its values frozen -/
def rDk (D : α → List (Key × PyData)) : Rp α where
  ok := fun K F H v x A => ∃ a kvs, v = .ref a ∧ H a = some (.dK kvs) ∧ A = [a] ∧ KvOk K F kvs (D x)
  mono := fun ⟨a, kvs, h1, h2, h3, h4⟩ s t => by
    subst h3
    exact ⟨a, kvs, h1, (t a List.mem_cons_self).trans h2, rfl, h4.sub s⟩
  dom := fun ⟨a, kvs, h1, h2, h3, h4⟩ b hb => by
    subst h3
    rw [List.mem_singleton] at hb
    subst hb
    rw [h2]
    exact fun z => nomatch z
class OwnD (ρ : Rp α) (D : outParam (α → List (Key × PyData))) : Prop where
  to : ∀ {K : Fg} {F H : Hp} {v : V} {x : α} {A : List Addr}, ρ.ok K F H v x A → (rDk D).ok K F H v x A
  back : ∀ {K : Fg} {F H F' H' : Hp} {v : V} {x y : α} {A A' : List Addr}, ρ.ok K F H v x A → (rDk D).ok K F' H' v y A' → ρ.ok K F' H' v y A'
instance {D : α → List (Key × PyData)} : OwnD (rDk D) D := ⟨fun h => h, fun _ h => h⟩
instance {D : α → List (Key × PyData)} {w : V} {ρ : Rp α} [OwnD ρ D] : OwnD (pin w ρ) D := ⟨fun h => OwnD.to h.2, fun h k => ⟨h.1, OwnD.back h.2 k⟩⟩
/-- d["k"] -/
theorem XB.dget {i n : Nat} {ρ : Rp ι} {D : ι → List (Key × PyData)} [OwnD ρ D] {x : ι} {k : Key} {f : Enc γ} {y : γ} (hs : S[i]? = some (.val ρ x)) (hd : (D x)[n]? = some (k, f y)) (nd : ((D x).map (·.1)).Nodup) : XB K mg W S (tDGet (tVar i) (tC (kV k))) (vD f) (.ok y) := fun F H σ A a Q q => by
  obtain ⟨o, A1, Ai, A2, e1, e2, e3, e4⟩ := a.sl.at hs
  cases o with
  | none => exact e3.elim
  | some v =>
    obtain ⟨b, kvs, rfl, hb, h3, h4⟩ := OwnD.to (ρ := ρ) e3
    obtain ⟨w, g1, g2⟩ := h4.get nd hd
    refine ⟨_, e1, b, w, rfl, ?_, q w F H (.refl a.fh) g2⟩
    rw [← g1]
    exact DGet.k hb
/-- d["k"] = e -/
theorem Y.dset {i n : Nat} {ρ : Rp ι} {D : ι → List (Key × PyData)} [OwnD ρ D] {x : ι} {k : Key} {f : Enc γ} {y0 : γ} {me : Res γ} {kk : ι → Res (Fl α β τ)} (up : γ → ι) (hs : S[i]? = some (.val ρ x)) (hd : (D x)[n]? = some (k, f y0)) (nd : ((D x).map (·.1)).Nodup) (hup : ∀ y, D (up y) = (D x).set n (k, f y)) (hz : (D x).length < sizeLine)
    (he : XB K mg W S tv (vD f) me) (hu : ∀ z, Y K mg W (S.set i (.val ρ z)) u R B N (kk z)) : Y K mg W S (tSeq (sDPut (tVar i) (tC (kV k)) tv) u) R B N (me.bind fun y => (Res.ok (up y)).bind kk) := ⟨fun h => .bind fun y => (hu _).no h, fun F H σ A a D' q =>
  he F H σ A a _ ((Post.of_bind q).imp (fun y k2 w F1 H1 p1 hy => by
    have a1 := a.pu p1
    obtain ⟨v, Ai, e1, part⟩ := a1.part hs
    obtain ⟨b, kvs, rfl, hb, h3, h4⟩ := OwnD.to part.ok
    have kl : kvs.length = (D x).length := by
      have := congrArg List.length h4.keys
      simpa using this
    obtain ⟨w0, g1, g2⟩ := h4.get nd hd
    have ep : putK kvs k w = kvs.map fun kv => if kv.1 = k then (kv.1, w) else kv := by
      unfold putK
      rw [valV_any, g1]
      rfl
    have bA : b ∈ Ai := by rw [h3]; exact List.mem_cons_self
    have fb : F1 b = none := part.fo b bA
    have hx : ρ.ok K F1 (upd H1 b (.dK (putK kvs k w))) (.ref b) (up y) [b] := OwnD.back part.ok ⟨b, _, rfl, upd_same, rfl, by
      rw [ep, hup]
      exact h4.set hy nd hd⟩
    obtain ⟨A', a', s'⟩ := part.mod F1 (upd H1 b (.dK (putK kvs k w))) (up y) [b] (.refl _) (a1.fh.mut fb) (fun z o h hn => by
        rw [upd_ne fun q => hn (by rw [q]; exact bA)]
        exact h) (fun z h hn => rfl) (fun z hz => .inl (by
        rw [List.mem_singleton] at hz
        rw [hz]
        exact bA)) (by simp) (fun z hz => by
        rw [List.mem_singleton] at hz
        rw [hz]
        exact fb) (fun z h => by
        by_cases q : z = b
        · rw [q, upd_same]
          exact fun z => nomatch z
        · rw [upd_ne q]
          exact h) hx
    refine ⟨_, e1, b, _, rfl, DPut.k hb (by rw [kl]; exact hz), (hu _).run F1 _ σ A' a' D' (Post.from ((p1.nx fun _ z => .inl z).trans ⟨.refl _, fun z o h hn => ?_, fun z h _ => rfl, fun z hz => .inl ?_, fun z h => ?_⟩) k2)⟩
    · rw [upd_ne fun q => hn (by rw [q]; exact part.inA b bA)]
      exact h
    · rcases s' z hz with h | h
      · exact h
      · rw [List.mem_singleton] at h
        rw [h]
        exact part.inA b bA
    · by_cases q : z = b
      · rw [q, upd_same]
        exact fun z => nomatch z
      · rw [upd_ne q]
        exact h) fun e z => z.x)⟩
/-- the pairs of a display -/
def XPs (K : Fg) (mg : Str → Option Value) (W : WX) (S : List Sl) (trs : List (TE × TE)) (D : κ → List (Key × PyData)) (m : Res κ) : Prop :=
  ∀ F H σ A, At K F H σ S A → ∀ Q : List (V × V) → Hp → Prop, Post m (fun t => ∀ kvs F' H', Pu F H F' H' → KvOk K F' kvs (D t) → Q (kvs.map fun kv => (kV kv.1, kv.2)) H') (XEr K mg W F H σ) → tPairs trs σ H Q
theorem XPs.nil : XPs K mg W S [] (fun _ : Unit => []) (.ok ()) := fun F H σ A a Q q => q [] F H (.refl a.fh) trivial
theorem XPs.cons {k : Key} {e : Enc γ} {trs : List (TE × TE)} {D : κ → List (Key × PyData)} {ma : Res γ} {mr : Res κ} (ha : XB K mg W S ta (vD e) ma) (hr : XPs K mg W S trs D mr) :
    XPs K mg W S ((tC (kV k), ta) :: trs) (fun p : γ × κ => (k, e p.1) :: D p.2) (ma.bind fun x => mr.bind fun t => .ok (x, t)) := fun F H σ A a Q q =>
  ha F H σ A a _ ((Post.of_bind q).imp (fun x k' v F1 H1 p1 u1 => hr F1 H1 σ A (a.pu p1) _ ((Post.of_bind k').imp (fun t k2 kvs F2 H2 p2 u2 =>
    k2 ((k, v) :: kvs) F2 H2 (p1.trans p2) ⟨rfl, dp_sub p2.ff u1, u2⟩) fun e z => z.pu p1)) fun e z => z)
theorem XO.disp {trs : List (TE × TE)} {D0 : κ → List (Key × PyData)} {D : ι → List (Key × PyData)} {m : Res κ} (h : XPs K mg W S trs D0 m) (f : κ → ι) (hf : ∀ t, D (f t) = D0 t) (ks : List Key) (hk : ∀ t, (D0 t).map (·.1) = ks) (nd : ks.Nodup) (hl : ks.length ≤ 15) :
    XO K mg W S (tDisp trs) (rDk D) (m.bind fun t => .ok (f t)) := fun F H σ A a Q q p hp => by
  have p0 := Pu.newO (o := .dK []) a.fh hp
  refine h F _ σ A (a.pu p0) _ ((Post.of_bind q).imp (fun t k kvs F1 H1 p1 u1 => ?_) fun e z => z.pu p0)
  have hp1 : H1 p = some (.dK []) := p1.hh p _ upd_same
  have keys : kvs.map (·.1) = ks := u1.keys.trans (hk t)
  have len : kvs.length = ks.length := by rw [← keys, List.length_map]
  have fp : F p = none := a.fh.back hp
  have fp1 : F1 p = none := (p1.fo p (by rw [upd_same]; exact fun z => nomatch z)).trans fp
  refine ⟨hp1, kvs, rfl, by rw [len]; exact hl, k (.ref p) F1 _ [p] ⟨p1.ff, fun z o hz => ?_, p1.fh.mut fp1, fun z hz => ?_⟩ ⟨p, _, rfl, upd_same, rfl, ?_⟩ ⟨by simp, fun z hz => ?_, fun z hz => ?_⟩⟩
  · have ne : z ≠ p := fun q => by
      rw [q, hp] at hz
      cases hz
    rw [upd_ne ne]
    exact p1.hh z o (by rw [upd_ne ne]; exact hz)
  · have ne : z ≠ p := fun q => by
      rw [q] at hz
      exact hz hp
    exact p1.fo z (by rw [upd_ne ne]; exact hz)
  · rw [merge_new kvs [] (by rw [List.map_nil, List.nil_append, keys]; exact nd), List.nil_append, hf]
    exact u1
  · rw [List.mem_singleton] at hz
    rw [hz]
    exact hp
  · rw [List.mem_singleton] at hz
    rw [hz]
    exact fp1
end
end TP

set_option Elab.async false
set_option linter.all false
set_option maxRecDepth 100000
set_option maxHeartbeats 4000000
set_option autoImplicit false
/-! TP, part 18: calls within a comprehension that change what is owned; small facts for mirrors. -/
namespace TP
open PySem PySem.Spec L2
section
variable {K : Fg} {mg : Str → Option Value} {W : WX} {S S' : List Sl} {te ta tb tc tv : TE} {tr : TA} {tt : TT} {t t1 t2 u : TS}
variable {α β γ δ τ τ0 τ1 κ ι ζ ω : Type} {R : Rp α} {B : β → List Sl} {N : τ → List Sl}
theorem hu1 {k : Nat} {A : Around} (hr : Room k A) : A.units + 1 < cLine := by
  have := hu100 hr
  omega
theorem le_id {U : View α} : U.le U := fun _ _ _ _ _ _ h => h
theorem len1 {ws : List V} (h : ws.length = 1) : ∃ a, ws = [a] := match ws, h with
  | [a], _ => ⟨a, rfl⟩
theorem len2 {ws : List V} (h : ws.length = 2) : ∃ a b, ws = [a, b] := match ws, h with
  | [a, b], _ => ⟨a, b, rfl⟩
theorem len3 {ws : List V} (h : ws.length = 3) : ∃ a b c, ws = [a, b, c] := match ws, h with
  | [a, b, c], _ => ⟨a, b, c, rfl⟩
theorem len4 {ws : List V} (h : ws.length = 4) : ∃ a b c d, ws = [a, b, c, d] := match ws, h with
  | [a, b, c, d], _ => ⟨a, b, c, d, rfl⟩
theorem len5 {ws : List V} (h : ws.length = 5) : ∃ a b c d e, ws = [a, b, c, d, e] := match ws, h with
  | [a, b, c, d, e], _ => ⟨a, b, c, d, e, rfl⟩
theorem XEO.callI0 {D : κ → List Ar} {G : ω → List Sl} {G' : ω → δ → List Sl} {S1 : κ → τ → List Sl} (c : κ → τ → ω) (f : κ → τ → δ → τ) {r : Rp α} {m : ω → Res (α × δ)} {ma : Res (κ × τ)} (h : XEG K mg W S tr D N ma) (ht : ∀ t s, Take (D t) (N s) (G (c t s)) (S1 t s)) (hg : ∀ t s y, Give (D t) (G' (c t s) y) (S1 t s) (N (f t s y))) :
    XEO K mg W S (tCall (spI K mg G G' r m) [] (fun _ _ _ => False) tr) r N (ma.bind fun p => ((m (c p.1 p.2)).noer).bind fun x => .ok (x.1, f p.1 p.2 x.2)) := fun F H σ A a Q q =>
  h F H σ A a _ ((Post.of_bind q).imp (fun p k vs F1 H1 A1 n1 a1 u1 => by
    rw [List.append_nil]
    obtain ⟨B1, Bg, h1, h2, h3, h4⟩ := take_at (ht p.1 p.2) a1 u1
    have nb := List.nodup_append.mp h3
    have k' := Post.of_bind k
    refine ⟨c p.1 p.2, F1, Bg, ⟨a1.fh, nb.2.1, fun z hz => a1.fo z (h4 z (List.mem_append_right _ hz)), h2⟩, ?_⟩
    cases em : m (c p.1 p.2) with
    | er z =>
      rw [em] at k'
      exact False.elim k'
    | bad =>
      rw [em] at k'
      exact False.elim k'
    | ok x =>
      rw [em] at k'
      intro v F2 H2 Ab Av n s u1' u2 nd fo
      have noB : ∀ z ∈ B1, z ∉ Bg := fun z h k => nb.2.2 z h z k rfl
      have keep : ∀ z ∈ B1, H2 z = H1 z := fun z hz => by
        cases cz : H1 z with
        | none => exact absurd cz (h1.sl.dom z hz)
        | some o => exact n.hh z o cz (noB z hz)
      have ap : ∀ z ∈ B1, z ∉ Ab ++ Av := fun z hz k => (n.aa z k).elim (noB z hz) fun cz => h1.sl.dom z hz cz
      have a2 : At K F2 H2 σ (S1 p.1 p.2) B1 := ⟨s, h1.nd, fun z hz => (n.fo z (h1.sl.dom z hz) (noB z hz)).trans (h1.fo z hz), h1.sl.mono n.ff keep⟩
      have ndv := List.nodup_append.mp nd
      obtain ⟨A2, a3, s3⟩ := give_at (hg p.1 p.2 x.2) a2 u1 u1' (List.nodup_append.mpr ⟨h1.nd, ndv.1, fun y hy z hz e => by
        subst e
        exact ap y hy (List.mem_append_left _ hz)⟩) fun z hz => fo z (List.mem_append_left _ hz)
      refine k' v F2 H2 A2 Av (n1.trans (n.grow (fun z hz => h4 z (List.mem_append_right _ hz)) fun z hz => ?_)) a3 u2 (List.nodup_append.mpr ⟨a3.nd, ndv.2.1, fun y hy z hz e => ?_⟩) fun z hz => fo z (List.mem_append_right _ hz)
      · rcases List.mem_append.mp hz with h | h
        · rcases List.mem_append.mp (s3 z h) with h | h
          · exact .inr (h4 z (List.mem_append_left _ h))
          · exact .inl (List.mem_append_left _ h)
        · exact .inl (List.mem_append_right _ h)
      · subst e
        rcases List.mem_append.mp (s3 y hy) with h | h
        · exact ap y h (List.mem_append_right _ hz)
        · exact ndv.2.2 y h y hz rfl) fun _ z => z)
/-- xs[i] = e, where e changes things -/
theorem Y.setV {i : Nat} {ρ : Rp (List ι)} {e : Enc ι} [Own ρ (fz e)] {xs : τ0 → List ι} {me : Res (ι × τ0)} {mi : τ0 → Res Int} {M : τ0 → List Sl} {N1 : Option (τ → List Sl)} {k : List ι → τ0 → Res (Fl α β τ)} (he : XE K mg W S tv (vD e) M me) (hs2 : ∀ s, (M s)[i]? = some (.val ρ (xs s))) (hi : ∀ s, XB K mg W (M s) ta (vD eI) (mi s)) (hu : ∀ z s, Y K mg W ((M s).set i (.val ρ z)) u R B N1 (k z s)) :
    Y K mg W S (tSeq (tAsg tv (gSub (tVar i) ta rSetL)) u) R B N1 (me.bind fun p => (mi p.2).bind fun j => (chk (setQ (xs p.2) j p.1)).bind fun ys => k ys p.2) := ⟨fun h => .bind fun x => .bind fun p => .bind fun ys => (hu _ _).no h, fun F H σ A a D q =>
  he F H σ A a _ ((Post.of_bind q).imp (fun p k2 w F1 H1 A1 n1 a1 hx => by
    obtain ⟨v, Ai, e1, part⟩ := a1.part (hs2 p.2)
    refine ⟨v, e1, hi p.2 F1 H1 σ A1 a1 _ ((Post.of_bind k2).imp (fun j k3 jv F2 H2 p2 u2 => ?_) fun e z => (YEr.from n1 z).x)⟩
    obtain ⟨ys, ey, k4⟩ := Post.of_chk (Post.of_bind k3)
    unfold setQ at ey
    cases c : ixN (xs p.2).length j with
    | none =>
      rw [c] at ey
      cases ey
    | some n =>
      rw [c] at ey
      cases ey
      have part2 := part.pu p2
      obtain ⟨l, vs, e3, hl, dl, md⟩ := Part.lst (e := e) part2
      have el : vs.length = (xs p.2).length := by rw [dpAll_len dl, List.length_map]
      obtain ⟨A3, a3, n3⟩ := md F2 H2 ((xs p.2).set n p.1) (vs.set n w) (.refl p2.fh) (dpAll_set (dp_sub p2.ff hx) n dl)
      exact ⟨l, vs, j, n, e3, dp_int u2, hl, by rw [el]; exact c, (hu _ _).run F2 _ σ A3 a3 D (Post.from ((n1.trans (p2.nx fun _ z => .inl z)).trans n3) k4)⟩) fun e z => z)⟩
theorem eqA_law [DecidableEq ι] {e : Enc ι} [Law e] (a b : ι) (hd : Law.dep e ≤ 64 := by decide) : eqA (e a) (e b) = some (decide (a = b)) := by
  unfold eqA
  rw [if_pos ⟨Law.plain a, Law.plain b, Nat.le_trans (Nat.min_le_left _ _) (Nat.le_trans (Law.dep_le a) hd)⟩, Law.eqv]
theorem neA_law [DecidableEq ι] {e : Enc ι} [Law e] (a b : ι) (hd : Law.dep e ≤ 64 := by decide) : neA (e a) (e b) = some (!decide (a = b)) := by
  unfold neA
  rw [if_pos ⟨Law.plain a, Law.plain b, Nat.le_trans (Nat.min_le_left _ _) (Nat.le_trans (Law.dep_le a) hd)⟩, Law.eqv]
theorem ifE_ok {b : Bool} {s : τ0} {x y : τ0 → Res ι} : ifE (.ok (b, s)) x y = if b = true then x s else y s := rfl
theorem andE_ok {b : Bool} {s : τ0} {m : τ0 → Res (Bool × τ0)} : andE (.ok (b, s)) m = if b = true then m s else .ok (false, s) := rfl
theorem orE_ok {b : Bool} {s : τ0} {m : τ0 → Res (Bool × τ0)} : orE (.ok (b, s)) m = if b = true then .ok (true, s) else m s := rfl
theorem ret_ifE {b : Bool} {s : τ0} {x y : τ0 → Res ι} {P : ι → Prop} (h1 : b = true → Ret (x s) P) (h2 : b = false → Ret (y s) P) : Ret (ifE (.ok (b, s)) x y) P := by
  cases b with
  | true => exact h1 rfl
  | false => exact h2 rfl
theorem popQ_ok {xs : List ι} {j : Int} (h0 : 0 ≤ j) (h1 : j < xs.length) (h2 : j < 4611686018427387904) : popQ xs j = some (xs[j.toNat]'(by omega), xs.eraseIdx j.toNat) := by
  unfold popQ ixN
  rw [if_pos ⟨by omega, h2⟩, if_pos h0, if_pos h1, Option.bind_some, List.getElem?_eq_getElem (by omega)]
  rfl
/-- a comprehension that threads a state -/
theorem ret_lcS {f : ι → τ0 → Res (γ × τ0)} {P : List γ × τ0 → Prop} (I : List ι → List ι → List γ → τ0 → Prop)
    (step : ∀ d x t acc s, I d (x :: t) acc s → Ret (f x s) fun p => acc.length < 16777216 ∧ I (d ++ [x]) t (acc ++ [p.1]) p.2)
    (fin : ∀ d acc s, I d [] acc s → P (acc, s)) : ∀ (xs d : List ι) (acc : List γ) (s : τ0), I d xs acc s → Ret (lcS f xs acc s) P
  | [], d, acc, s, h => ⟨_, rfl, fin d acc s h⟩
  | x :: xs, d, acc, s, h => by
    obtain ⟨p, e, k1, k2⟩ := step d x xs acc s h
    rw [lcS, e, bind_ok, if_pos (show _ < sizeLine from k1)]
    exact ret_lcS I step fin xs _ _ _ k2
end
end TP

set_option Elab.async false
set_option linter.all false
set_option maxRecDepth 100000
set_option maxHeartbeats 4000000
set_option autoImplicit false
/-! TP, part 19: more methods, lists of unlike items. -/
namespace TP
open PySem PySem.Spec L2
section
variable {K : Fg} {mg : Str → Option Value} {W : WX} {S S' : List Sl} {te ta tb tc tv : TE} {tr : TA} {tt : TT} {t t1 t2 u : TS}
variable {α β γ δ τ τ0 τ1 κ ι ζ ω : Type} {R : Rp α} {B : β → List Sl} {N : Option (τ → List Sl)} {M : τ0 → List Sl}
/-- xs.extend(e), e changes other things -/
theorem Y.extE {i : Nat} {ρ : Rp (List ι)} {e : Enc ι} [Own ρ (fz e)] {xs0 : List ι} {xs : τ0 → List ι} {me : Res (List ι × τ0)} {k : List ι → τ0 → Res (Fl α β τ)} (hs : S[i]? = some (.val ρ xs0)) (he : XE K mg W S ta (vD (eL e)) M me) (hs2 : ∀ s, (M s)[i]? = some (.val ρ (xs s))) (hu : ∀ z s, Y K mg W ((M s).set i (.val ρ z)) u R B N (k z s)) :
    Y K mg W S (tSeq (tDrop (tBM K "list" (rExtS K) (tVar i) (tCons ta tNil))) u) R B N (me.bind fun p => (chk (catQ (xs p.2) p.1)).bind fun ys => k ys p.2) := ⟨fun h => .bind fun p => .bind fun ys => (hu ys p.2).no h, fun F H σ A a D q => by
  obtain ⟨v, Ai, e1, part⟩ := a.part hs
  refine ⟨v, e1, part_ty part, he F H σ A a _ ((Post.of_bind q).imp (fun p k2 w F2 H2 A2 n2 a2 h2 => ?_) fun e z => z)⟩
  obtain ⟨zs, e4, k3⟩ := Post.of_chk (Post.of_bind k2)
  unfold catQ at e4
  split at e4
  · rename_i c
    cases e4
    obtain ⟨v', Bi, e1', part2⟩ := a2.part (hs2 p.2)
    rw [e1] at e1'
    cases e1'
    obtain ⟨b, ws, rfl, g1, g2⟩ := dp_lst h2
    obtain ⟨l, vs, e2, hl, dl, md⟩ := Part.lst (e := e) part2
    have el : vs.length = (xs p.2).length := by rw [dpAll_len dl, List.length_map]
    have el2 : ws.length = p.1.length := by rw [dpAll_len g2, List.length_map]
    obtain ⟨A3, a3, n3⟩ := md F2 H2 (xs p.2 ++ p.1) (vs ++ ws) (.refl a2.fh) (by
      rw [List.map_append]
      exact dpAll_app dl g2)
    exact ⟨l, b, vs, ws, e2, rfl, hl, sqL_sub a2.fh g1, by rw [el, el2]; exact c, (hu _ _).run F2 _ σ A3 a3 D (Post.from (n2.trans n3) k3)⟩
  · cases e4⟩
/-! ### list(range(n)) -/
theorem dpAll_rg {F : Hp} (a b : Int) : DpAll K F (rgV a b) ((rangeL a b).map eI) := by
  unfold rangeL rgV
  rw [List.map_map]
  generalize (List.range (b - a).toNat) = l
  induction l with
  | nil => exact .nil
  | cons x l ih => exact .cons (.int _) ih
@[irreducible] def rgQ (n : Int) : Option (List Int) := if -(2 ^ 62) ≤ n ∧ n ≤ 16777216 then some (rangeL 0 n) else none
theorem XO.lrg {m : Res Int} (h : XB K mg W S te (vD eI) m) : XO K mg W S (tLstRg (tRg1 te)) (ow (fz eI)) (m.bind fun n => chk (rgQ n)) := fun F H σ A a Q q =>
  h F H σ A a _ ((Post.of_bind q).imp (fun n k2 v F1 H1 p1 u1 => by
    obtain ⟨z, ez, k3⟩ := Post.of_chk k2
    unfold rgQ at ez
    split at ez
    · rename_i c
      cases ez
      refine ⟨n, dp_int u1, ⟨by omega, by omega, by omega, by omega, by omega⟩, fun p hp => ?_⟩
      refine k3 (.ref p) F1 _ [p] (p1.trans (.newO p1.fh hp)) ⟨p, _, [], rfl, upd_same, rfl, okL_of (dpAll_rg 0 n)⟩ ⟨by simp, fun z hz => ?_, fun z hz => ?_⟩
      · rw [List.mem_singleton] at hz
        rw [hz]
        exact p1.hh.back hp
      · rw [List.mem_singleton] at hz
        rw [hz]
        exact p1.fh.back hp
    · cases ez) fun e z => z)
theorem rgQ_ok {n : Int} (h0 : -4611686018427387904 ≤ n) (h1 : n ≤ 16777216) : rgQ n = some (rangeL 0 n) := by
  unfold rgQ
  rw [if_pos ⟨by omega, h1⟩]
/-! ### lists of unlike items, frozen -/
def h2 {α β : Type} (e : Enc α) (f : Enc β) : Enc (α × β) := fun p => .list [e p.1, f p.2]
def h3 {α β γ : Type} (e : Enc α) (f : Enc β) (g : Enc γ) : Enc (α × β × γ) := fun p => .list [e p.1, f p.2.1, g p.2.2]
theorem XB.hl {D : κ → List PyData} {e : Enc ι} {m : Res κ} {n : Nat} (h : XA K mg W S tr D m) (f : κ → ι) (hf : ∀ t, e (f t) = .list (D t)) (hn : ∀ t, (D t).length = n := by intro _; rfl) (hz : n ≤ sizeLine := by decide) :
    XB K mg W S (tLst tr) (vD e) (m.bind fun t => .ok (f t)) := fun F H σ A a Q q =>
  h F H σ A a _ ((Post.of_bind q).imp (fun t k vs F1 H1 p1 u1 => ⟨by
    rw [dpAll_len u1, hn]
    exact hz, fun p hp => by
    refine k (.ref p) (upd F1 p (.lst vs)) _ (p1.trans (.new p1.fh hp)) (show Dp _ _ _ (e (f t)) from ?_)
    rw [hf]
    exact .lst (.of upd_same) (dpAll_sub (.new (p1.fh.back hp)) u1)⟩) fun e z => z)
theorem XTg.hl {gs : TGs} {ts : List Nat} {e : Enc ι} {D : ι → List PyData} {S' : ι → List Sl} {n : Nat} (h : XTgs K S gs ts D S') (he : ∀ x, e x = .list (D x) := by intro _; rfl) (hn : ∀ x, (D x).length = n := by intro _; rfl) : XTg K S (gLst K n gs) ts e S' := fun F H σ A v x a d Q q => by
  rw [he] at d
  obtain ⟨b, vs, rfl, h1, h2⟩ := dp_lst d
  exact ⟨b, vs, rfl, sqL_sub a.fh h1, by rw [dpAll_len h2, hn], h F H σ A vs x a h2 Q q⟩
theorem XB.projL {e : Enc ι} {f : Enc γ} {m : Res ι} {D : ι → List PyData} (n : Nat) {c : Int} (h : XB K mg W S te (vD e) m) (hc : XB K mg W S ta (vD eI) (.ok c)) (g : ι → γ) (he : ∀ x, e x = .list (D x)) (hg : ∀ x, (D x)[n]? = some (f (g x))) (hn : c = (n : Int)) : XB K mg W S (tOp (rIxL K) te ta) (vD f) (m.bind fun x => .ok (g x)) := fun F H σ A a Q q =>
  h F H σ A a _ ((Post.of_bind q).imp (fun x k v F1 H1 p1 u1 => hc F1 H1 σ A (a.pu p1) _ (show Post (.ok c) _ _ from fun w F2 H2 p2 u2 => by
    have u1' : Dp K F1 v (e x) := u1
    rw [he] at u1'
    obtain ⟨b, vs, rfl, g1, g2⟩ := dp_lst u1'
    obtain ⟨w', h3, h4⟩ := dpAll_get g2 (hg x)
    refine ⟨b, vs, c, w', rfl, dp_int u2, sqL_sub p2.hh (sqL_sub p1.fh g1), ?_, k w' F2 H2 (p1.trans p2) (dp_sub p2.ff h4)⟩
    have hl := (List.getElem?_eq_some_iff.mp h3).1
    unfold atI ixN
    rw [hn, if_pos (by omega), if_pos (by omega), Option.bind_some]
    exact h3)) fun e z => z)
end
end TP

set_option Elab.async false
set_option linter.all false
set_option maxRecDepth 100000
set_option maxHeartbeats 4000000
set_option autoImplicit false
/-! TP, part 20: rules with the fragment named, once more. -/
namespace TP
open PySem PySem.Spec L2 PyProof.Rows
section
variable {X : Cx} {K : Fg}
theorem piL {tg e : Expr} {te : TE} (hK : X.K = K) (h : PE X e te) : PI X tg e (iList K te) := by subst hK; exact pi_list h
theorem piT {tg e : Expr} {te : TE} (hK : X.K = K) (h : PE X e te) : PI X tg e (iTup K te) := by subst hK; exact pi_tup h
theorem kBm0 {o : Expr} {to : TE} {name : Str} {apos cpos : Pos} {T id : String} {r : V → List V → Hp → VK → Prop} (hK : X.K = K) (pa : PlainAttrs T) (slot : Slot T name id) (hty : typeOf (.builtin id) = pure (.type "method_descriptor")) (hm : MtR X id r) (ho : PE X o to)
    (hbase : attributeBase o name X.env (eval o X.env) = eval o X.env := by rfl) (hline : (apos.endLine == cpos.line) = true := by rfl) : PE X (.Call (.Attribute o name apos) [] [] cpos) (tBM0 K T r to) := by
  subst hK
  exact pe_bm0 pa slot hty hm ho hbase hline
theorem kBm {o e : Expr} {es : List Expr} {to : TE} {t : TA} {name : Str} {apos cpos : Pos} {T id : String} {r : V → List V → Hp → VK → Prop} (hK : X.K = K) (pa : PlainAttrs T) (slot : Slot T name id) (hty : typeOf (.builtin id) = pure (.type "method_descriptor")) (hm : MtR X id r) (ho : PE X o to) (ha : PA X (e :: es) t)
    (hbase : attributeBase o name X.env (eval o X.env) = eval o X.env := by rfl)
    (hfew : ((backTo cpos (starEach (e :: es) X.env)).all (fun x => !x.1) && (backToKw cpos (keywordEach [] X.env)).all (fun x => x.1.isSome)
      && decide ((e :: es).length + ([] : List Keyword).length + (if ([] : List Keyword).isEmpty then 0 else 1) < 30)) = true := by rfl)
    (hline : (apos.endLine == cpos.line) = true := by rfl) (hs : starEach (e :: es) X.env = (false, eval e X.env) :: starEach es X.env := by rfl) (hplain : (backTo cpos (starEach es X.env)).any (·.1) = false := by rfl) :
    PE X (.Call (.Attribute o name apos) (e :: es) [] cpos) (tBM K T r to t) := by
  subst hK
  exact pe_bm pa slot hty hm ho ha hbase hfew hline hs hplain
theorem kPop : MtR X "list.pop" rPop := mt_pop
theorem kPopAt : MtR X "list.pop" rPopAt := mt_popAt
end
end TP

set_option Elab.async false
set_option linter.all false
set_option maxRecDepth 100000
set_option maxHeartbeats 4000000
/-! TP, part 21: try, raise, own exceptions. -/
namespace TP
open PySem PySem.Spec PyProof.Rows L2

/-! ### a try with several clauses, named or not -/
def dOf (i : Option Nat) (D : Ends) : Ends := match i with
  | none => D
  | some i => { nx := fun σ' H' => D.nx (σ'.set i none) H', rt := D.rt, bk := fun σ' H' => D.bk (σ'.set i none) H', ct := fun σ' H' => D.ct (σ'.set i none) H' }
def sOf (i : Option Nat) (a : Addr) (σ : L2.St) : L2.St := match i with
  | none => σ
  | some i => σ.set i (some (.ref a))
abbrev Hd := Value × Option Nat × (Addr → Value → Option Addr → TS)
def wHs (K : Fg) (Wout : WX) (D : Ends) : List Hd → WX
  | [] => Wout
  | (c, i, ts) :: r => fun cls d σ H => ∃ b, PySem.W.exmOne K cls c = some b ∧ (b = true → ∀ a, H a = none → ts a cls d (dOf i D) (sOf i a σ) H) ∧ (b = false → wHs K Wout D r cls d σ H)
/-- a suite does so -/
def SuOk (X : Cx) (su : List Stmt) (ts : Addr → Value → Option Addr → TS) : Prop :=
  ∀ (a : Addr) (oe : Obj) (cls : Value) (d : Option Addr) (pn : List (Addr × Obj)), Zc cls d oe → (∃ vs, oe.data = .fields vs) → PSs (X.suite a ((a, oe) :: pn)) su (ts a cls d)
inductive HdsA (X : Cx) : List ExceptHandler → List Hd → Prop
  | nil : HdsA X [] []
  | cons {x : Str} {c : Value} {ts : Addr → Value → Option Addr → TS} {b₀ : Stmt} {suite : List Stmt} {np pos' : Pos} {hds : List ExceptHandler} {l : List Hd} (hc : Names X x c)
      (hsu : SuOk X (b₀ :: suite) ts) (r : HdsA X hds l) : HdsA X (.ExceptHandler (some (.Name x np)) none (b₀ :: suite) pos' :: hds) ((c, none, ts) :: l)
  | named {x n : Str} {i : Nat} {c : Value} {ts : Addr → Value → Option Addr → TS} {b₀ : Stmt} {suite : List Stmt} {np pos' : Pos} {hds : List ExceptHandler} {l : List Hd} (hN : X.N.Nodup) (hi : X.N[i]? = some n) (hln : X.env.kindOf n = some .local)
      (hc : Names X x c) (hsu : SuOk X (b₀ :: suite) ts) (r : HdsA X hds l) : HdsA X (.ExceptHandler (some (.Name x np)) (some n) (b₀ :: suite) pos' :: hds) ((c, some i, ts) :: l)
section
variable {X : Cx} {body orelse : List Stmt} {h₀ : ExceptHandler} {hds : List ExceptHandler} {l : List Hd} {pos : Pos} {tb : WX → TS} {u : TS} {Wout : WX}
theorem ps_tryA (ho : PSs X orelse u) (hs : X.stack = X.env :: X.outer) (hf : X.env.frame = some X.env.locals) (tk : Takes X Wout)
    (hb : ∀ (W : WX) (pn : List (Addr × Obj)) (xe : Value → Shared → Prop), Takes (X.tr pn xe) W → PassesOwn (model X.prog X.w) X.A X.env xe → PSs (X.tr pn xe) body (tb W))
    (hh : HdsA X (h₀ :: hds) l) : PS X (.Try body (h₀ :: hds) orelse [] pos) (fun D σ H => tb (wHs X.K Wout D l) { D with nx := u D } σ H) := by
  refine ⟨fun pins s σ H D I h => ?_⟩
  have ok := I.ok
  have hfr : X.A.frames = some (X.env :: X.outer) := by rw [ok.frames, hs]
  refine wpAny_Try_except ?_
  refine wpAny_mono ((hb (wHs X.K Wout D l) (X.pn ++ pins) (fun e s₁ => wpAny (model X.prog X.w) X.A (noteFrame e X.env) (fun _ s₂ => wpAny (model X.prog X.w) X.A (setFlight e none) (fun _ s₃ =>
    wpAny (model X.prog X.w) X.A (handleBy e X.env (h₀ :: hds)) (SP X pins D) X.xe s₃) X.xe s₂) X.xe s₁) (fun v s' xx => ?_) PassesOwn.looking).run [] s σ H { D with nx := u D } (I.toTry _) h) (fun f s1 hsp => ?_) (fun e s1 he => he)
  · obtain ⟨a, B, sI, pins', σ', H', cls, d, rfl, J', nb, up, sky, na, os, ag, w⟩ := xx
    have J : Inv X pins σ' H' sI := J'.ofTry ok
    have sky' : Sky B (X.env :: X.outer) a (Zc cls d) X.env.locals s'.heap := by rw [← hs]; exact sky
    show wpAny (model X.prog X.w) X.A (noteFrame (.ref a) X.env) _ _ _
    refine Sky.land Zc.steady hfr hf sky' fun h3 fl3 up3 => ?_
    have J3 : Inv X pins σ' H' { s' with heap := h3 } := J.landed nb fl3.1 (up.trans up3) os ag
    obtain ⟨oe3, vs3, he3, hz3, hd3⟩ := fl3.there
    have nfr : a ∉ frs (X.env :: X.outer) := fun hm => by
      obtain ⟨_, o', e', hnf⟩ := fl3.2.2.1.mem hm
      rw [he3] at e'
      cases e'
      exact hnf _ hd3
    have nL : a ≠ X.env.locals := fun z => nfr (List.mem_filterMap.mpr ⟨X.env, List.mem_cons_self, by rw [hf, z]⟩)
    have nF : a ∉ X.fs := fun hm => by
      obtain ⟨e, he, q⟩ := List.mem_filterMap.mp hm
      exact nfr (List.mem_filterMap.mpr ⟨e, List.mem_cons_of_mem _ he, q⟩)
    have S3 := J3.suite he3 hd3 na nL nF
    have LT : PySem.W.Looks (model X.prog X.w) h3 (typeOf (.ref a)) cls := fun A Q E s k q => wpAny_typeOf_ref (k _ _ he3) (by rw [hz3.1]; exact q)
    have test : ∀ {x : Str} {c : Value} {np : Pos} {Q : Value → Shared → Prop} {E : Value → Shared → Prop}, Names X x c → Q c { s' with heap := h3 } → wpAny (model X.prog X.w) (X.A.mark (some (.ref a))) (eval (.Name x np) X.env) Q E { s' with heap := h3 } := fun {x c np Q E} hc q => by
      obtain ⟨hg, hdbg, hm | ⟨hm, hv, hnn⟩⟩ := hc
      · exact ld_glob (X := X.suite a ((a, oe3) :: (X.pn ++ pins))) S3 hg hm q hdbg
      · exact ld_blt (X := X.suite a ((a, oe3) :: (X.pn ++ pins))) S3 hg hm hv q hnn hdbg
    have go : ∀ {hds' : List ExceptHandler} {l' : List Hd}, HdsA X hds' l' → wHs X.K Wout D l' cls d σ' H' →
        wpAny (model X.prog X.w) X.A (handleBy (.ref a) X.env hds') (SP X pins D) X.xe { s' with heap := h3 } := by
      intro hds' l' hk
      induction hk with
      | nil =>
        intro w
        refine wpAny_handleBy_nil ?_
        obtain ⟨k1, k2, k3, oe, vs, T, oT, ts', he, hz, hd, h1, hr⟩ := id fl3
        unfold PySem.passOn
        refine wpAny_bind (wpAny_field he hd h1 ?_)
        rw [if_neg (show ¬ ((Value.ref T == Value.none) = true) from by simp)]
        have fin : wpAny (model X.prog X.w) X.A (setFlight (.ref a) X.env.frame) (fun _ s4 => wpAny (model X.prog X.w) X.A (throw (.ref a) : Sem Flow) (SP X pins D) X.xe s4) X.xe { s' with heap := h3 } := by
          rw [hf]
          refine HandSPX.setFlight_upZ fl3 fun h4 hh4 up4 => wpAny_throw (tk _ _ ?_)
          exact ⟨a, B, sI, pins, σ', H', cls, d, rfl, J, nb, (up.trans up3).trans up4, .inr (.inr (by rw [hs]; exact hh4)), na, os, ag, w⟩
        first
          | exact wpAny_bind (wpAny_pure (wpAny_bind fin))
          | exact wpAny_bind fin
      | @cons x c ts b₀ suite np pos' hds2 l2 hc hsu r ih =>
        intro w
        obtain ⟨b, hb1, hyes, hno⟩ := w
        refine wpAny_handleBy_cons (codeAny_handlers_test ?_) (by intro q; cases q)
        refine test hc ((PySem.W.exm_one (M := model X.prog X.w) (J3.kIn) LT hb1).here ?_)
        cases b with
        | true =>
          refine codeAny_handlers_suite ?_
          refine HandSPX.lands_againZ fl3 fun h4 fl4 up4 => ?_
          have J4 : Inv X pins σ' H' { s' with heap := h4 } := J.landed nb fl4.1 ((up.trans up3).trans up4) os ag
          obtain ⟨oe4, vs4, he4, hz4, hd4⟩ := fl4.there
          have S4 := J4.suite he4 hd4 na nL nF
          refine wpAny_mono ((hsu a oe4 cls d (X.pn ++ pins) hz4 ⟨_, hd4⟩).run [] _ _ H' _ S4 (hyes rfl a na)) (fun f s6 hsp => ?_) (fun _ _ z => False.elim z)
          cases f with
          | next =>
            obtain ⟨σ6, H6, S6, q6⟩ := hsp
            exact ⟨_, _, S6.unsuite ok, q6⟩
          | brk =>
            obtain ⟨σ6, H6, S6, q6⟩ := hsp
            exact ⟨_, _, S6.unsuite ok, q6⟩
          | cont =>
            obtain ⟨σ6, H6, S6, q6⟩ := hsp
            exact ⟨_, _, S6.unsuite ok, q6⟩
          | ret u =>
            obtain ⟨v6, σ6, H6, S6, r6, q6⟩ := hsp
            exact ⟨_, _, _, S6.unsuite ok, r6, q6⟩
        | false => exact ih (hno rfl)
      | @named x n i c ts b₀ suite np pos' hds2 l2 hN hi hln hc hsu r ih =>
        intro w
        obtain ⟨b, hb1, hyes, hno⟩ := w
        refine wpAny_handleBy_cons (codeAny_handlers_test ?_) (by intro q; cases q)
        refine test hc ((PySem.W.exm_one (M := model X.prog X.w) (J3.kIn) LT hb1).here ?_)
        cases b with
        | true =>
          refine codeAny_handlers_suite_as ?_
          refine HandSPX.lands_againZ fl3 fun h4 fl4 up4 => ?_
          have J4 : Inv X pins σ' H' { s' with heap := h4 } := J.landed nb fl4.1 ((up.trans up3).trans up4) os ag
          obtain ⟨oe4, vs4, he4, hz4, hd4⟩ := fl4.there
          have S4 := J4.suite he4 hd4 na nL nF
          refine store_ok (X := X.suite a ((a, oe4) :: (X.pn ++ pins))) (v := .ref a) S4 hN hi (.inl hln) rfl (fun s5 S5 => ?_) (.inr hln)
          refine wpAny_mono ((hsu a oe4 cls d (X.pn ++ pins) hz4 ⟨_, hd4⟩).run [] s5 _ H' _ S5 (hyes rfl a na)) (fun f s6 hsp => ?_) (fun _ _ z => False.elim z)
          cases f with
          | next =>
            obtain ⟨σ6, H6, S6, q6⟩ := hsp
            exact gone_ok (S6.unsuite ok) hN hi hln fun s7 J7 => ⟨_, _, J7, q6⟩
          | brk =>
            obtain ⟨σ6, H6, S6, q6⟩ := hsp
            exact gone_ok (S6.unsuite ok) hN hi hln fun s7 J7 => ⟨_, _, J7, q6⟩
          | cont =>
            obtain ⟨σ6, H6, S6, q6⟩ := hsp
            exact gone_ok (S6.unsuite ok) hN hi hln fun s7 J7 => ⟨_, _, J7, q6⟩
          | ret u =>
            obtain ⟨v6, σ6, H6, S6, r6, q6⟩ := hsp
            exact gone_ok (S6.unsuite ok) hN hi hln fun s7 J7 => ⟨_, _, _, J7, r6, q6⟩
        | false => exact ih (hno rfl)
    exact go hh w
  · cases f with
    | next =>
      obtain ⟨σ', H', J', q⟩ := hsp
      exact ho.run pins s1 σ' H' D (J'.ofTry ok) q
    | brk =>
      obtain ⟨σ', H', J', q⟩ := hsp
      exact ⟨σ', H', J'.ofTry ok, q⟩
    | cont =>
      obtain ⟨σ', H', J', q⟩ := hsp
      exact ⟨σ', H', J'.ofTry ok, q⟩
    | ret u =>
      obtain ⟨v, σ', H', J', r, q⟩ := hsp
      exact ⟨v, σ', H', J'.ofTry ok, r, q⟩
end
end TP

set_option Elab.async false
set_option linter.all false
set_option maxRecDepth 100000
set_option maxHeartbeats 4000000
/-! TP, part 22: try at the mirrors. -/
namespace TP
open PySem PySem.Spec PyProof.Rows L2

def WF : WX := fun _ _ _ _ => False
section
variable (K : Fg) (mg : Str → Option Value) (W : WX)
variable {α β τ : Type}
/-- an exception while the slots S0 are still known -/
def YErS (S0 : List Sl) (F H : Hp) (A : List Addr) (e : Exn) : Prop := ∀ F' H' σ' A' c d, Nx F H A F' H' A' → At K F' H' σ' S0 A' → ExcOk K mg F' H' e c d → W c d σ' H'
/-- a try's body -/
structure YE (S : List Sl) (t : TS) (R : Rp α) (B : β → List Sl) (N : Option (τ → List Sl)) (S0 : List Sl) (m : Res (Fl α β τ)) : Prop where
  no : N = none → NoNx m
  run : ∀ F H σ A, At K F H σ S A → ∀ D : Ends, Post m (YOk K F H A R B N D) (YErS K mg W S0 F H A) → t D σ H
/-- the clauses -/
structure YH (S0 : List Sl) (R : Rp α) (B : β → List Sl) (N : Option (τ → List Sl)) (l : List Hd) (mh : Exn → Res (Fl α β τ)) : Prop where
  no : N = none → ∀ e, NoNx (mh e)
  run : ∀ e F H σ A c d, At K F H σ S0 A → ExcOk K mg F H e c d → ∀ D : Ends, Post (mh e) (YOk K F H A R B N D) (YEr K mg W F H A) → wHs K W D l c d σ H
end
def tryR {α β τ τ1 : Type} (mb : Res (Fl α β τ1)) (mh : Exn → Res (Fl α β τ)) (k : τ1 → Res (Fl α β τ)) : Res (Fl α β τ) := match mb with
  | .ok (.nx s) => k s
  | .ok (.rt x) => .ok (.rt x)
  | .ok (.bk s) => .ok (.bk s)
  | .ok (.ct s) => .ok (.ct s)
  | .er e => mh e
  | .bad => .bad
section
variable {K : Fg} {mg : Str → Option Value} {W : WX} {S S0 S' : List Sl} {te ta tb tc : TE} {tt : TT} {t t1 t2 u : TS}
variable {α β τ τ1 ι γ : Type} {R : Rp α} {B : β → List Sl} {N : Option (τ → List Sl)}
theorem YErS.from {F H F1 H1 : Hp} {A A1 : List Addr} {e : Exn} (n : Nx F H A F1 H1 A1) (h : YErS K mg W S0 F H A e) : YErS K mg W S0 F1 H1 A1 e := fun F' H' σ' A' c d x a q => h F' H' σ' A' c d (n.trans x) a q
theorem YErS.x {F H : Hp} {A : List Addr} {e : Exn} {σ : L2.St} (a : At K F H σ S A) (w : Wk S S0) (h : YErS K mg W S0 F H A e) : XEr K mg W F H σ e := fun F' H' c d p x => by
  have a' := a.pu p
  obtain ⟨A', h1, sub⟩ := w K F' H' σ A a'.sl
  exact h F' H' σ A' c d (p.nx fun z hz => .inl (sub.mem hz)) ⟨a'.fh, a'.nd.sublist sub, fun z hz => a'.fo z (sub.mem hz), h1⟩ x
theorem Post.fromS {F H F1 H1 : Hp} {A A1 : List Addr} {D : Ends} {m : Res (Fl α β τ)} (n : Nx F H A F1 H1 A1) (h : Post m (YOk K F H A R B N D) (YErS K mg W S0 F H A)) : Post m (YOk K F1 H1 A1 R B N D) (YErS K mg W S0 F1 H1 A1) :=
  h.imp (fun _ q => q.from n) fun _ q => q.from n
/-- what raises nothing -/
theorem noer_nn {m : Res (Fl α β τ)} (h : NoNx m) : NoNx m.noer := fun s e => by
  cases m with
  | ok x => exact h s e
  | er x => cases e
  | bad => cases e
theorem Post.of_noer {m : Res ι} {P : ι → Prop} {E E' : Exn → Prop} (h : Post m.noer P E) : Post m P E' := by
  cases m with
  | ok x => exact h
  | er x => exact h.elim
  | bad => exact h.elim
theorem YE.calm {m : Res (Fl α β τ)} (h : Y K mg W S t R B N m) : YE K mg W S t R B N S0 m.noer where
  no := fun z => noer_nn (h.no z)
  run := fun F H σ A a D q => h.run F H σ A a D (Post.of_noer q)
theorem YE.asgO {i : Nat} {r : Rp ι} {me : Res ι} {k : ι → Res (Fl α β τ)} (he : XO K mg W S te r me) (hw : Wk S S0) (hu : ∀ x, YE K mg W (S.set i (.val r x)) u R B N S0 (k x)) (hi : S[i]?.isSome = true) :
    YE K mg W S (tSeq (tAsg te (gName i)) u) R B N S0 (me.bind k) := ⟨fun h => .bind fun x => (hu x).no h, fun F H σ A a D q =>
  he F H σ A a _ ((Post.of_bind q).imp (fun x k2 v F' H' Av p hr fr => by
    obtain ⟨A', a', n⟩ := a.set p hr fr (lt_some hi)
    exact (hu x).run F' H' _ A' a' D (k2.fromS n)) fun e z => z.x a hw)⟩
theorem YE.asg {i : Nat} {e : Enc ι} {me : Res ι} {k : ι → Res (Fl α β τ)} (he : XB K mg W S te (vD e) me) (hw : Wk S S0) (hu : ∀ x, YE K mg W (S.set i (.val (fz e) x)) u R B N S0 (k x)) (hi : S[i]?.isSome = true) :
    YE K mg W S (tSeq (tAsg te (gName i)) u) R B N S0 (me.bind k) := YE.asgO he.own hw hu hi
theorem YE.drop {U : View ι} {me : Res ι} {k : ι → Res (Fl α β τ)} (he : XB K mg W S te U me) (hw : Wk S S0) (hu : ∀ x, YE K mg W S u R B N S0 (k x)) :
    YE K mg W S (tSeq (tDrop te) u) R B N S0 (me.bind k) := ⟨fun h => .bind fun x => (hu x).no h, fun F H σ A a D q =>
  he F H σ A a _ ((Post.of_bind q).imp (fun x k2 v F' H' p hr => (hu x).run F' H' σ A (a.pu p) D (k2.fromS (p.nx fun _ z => .inl z))) fun e z => z.x a hw)⟩
theorem YE.ret {me : Res α} (he : XO K mg W S te R me) (hw : Wk S S0) : YE K mg W S (tSeq (tRet te) u) R B N S0 (me.bind fun x => .ok (.rt x)) := ⟨fun _ => .bind fun _ => .rt, fun F H σ A a D q =>
  he F H σ A a _ ((Post.of_bind q).imp (fun x k2 v F' H' Av p hr fr => k2 F' H' v Av (p.nx fun z h => .inr (fr.fr z h)) p.fh hr fr.nd fr.fo) fun e z => z.x a hw)⟩
theorem YE.nx {N : τ → List Sl} {s : τ} (w : Wk S (N s)) : YE K mg W S tNext R B (some N) S0 (.ok (.nx s)) := ⟨fun h => (nomatch h), fun F H σ A a D q => (Y.nx (mg := mg) (W := W) (R := R) (B := B) w).run F H σ A a D q⟩
theorem YE.if0 {mb : Res Bool} {m1 m2 : Res (Fl α β τ)} (hb : XT K mg W S tt mb) (hw : Wk S S0) (h1 : YE K mg W S t R B N S0 m1) (h2 : YE K mg W S u R B N S0 m2) : YE K mg W S (tIfS tt t u) R B N S0 (ifR mb m1 m2) := ⟨fun h => .ifR (h1.no h) (h2.no h), fun F H σ A a D q =>
  hb F H σ A a _ ((Post.of_bind q).imp (fun b k F' H' p => by
    have n : Nx F H A F' H' A := p.nx fun _ z => .inl z
    cases b with
    | true => exact h1.run F' H' σ A (a.pu p) D (k.fromS n)
    | false => exact h2.run F' H' σ A (a.pu p) D (k.fromS n)) fun e z => z.x a hw)⟩
theorem YE.last {m : Res (Fl α β τ)} (h : YE K mg W S t R B N S0 m) : YE K mg W S (tSeq t tNext) R B N S0 m := ⟨h.no, h.run⟩

/-- the try, then its else -/
theorem Y.try0 {tb : WX → TS} {l : List Hd} {N1 : τ1 → List Sl} {mb : Res (Fl α β τ1)} {mh : Exn → Res (Fl α β τ)} {k : τ1 → Res (Fl α β τ)} (S0 : List Sl)
    (hb : ∀ W', YE K mg W' S (tb W') R B (some N1) S0 mb) (hu : ∀ s, Y K mg W (N1 s) u R B N (k s)) (hh : YH K mg W S0 R B N l mh) :
    Y K mg W S (fun D σ H => tb (wHs K W D l) { D with nx := u D } σ H) R B N (tryR mb mh k) where
  no := fun h s => by
    cases mb with
    | ok fl =>
      cases fl with
      | nx s1 => exact (hu s1).no h s
      | rt x => exact fun z => by cases z
      | bk x => exact fun z => by cases z
      | ct x => exact fun z => by cases z
    | er e => exact hh.no h e s
    | bad => exact fun z => by cases z
  run := fun F H σ A a D q => by
    refine (hb (wHs K W D l)).run F H σ A a { D with nx := u D } ?_
    cases mb with
    | ok fl =>
      cases fl with
      | nx s1 => exact fun F' H' σ' A' n a' => (hu s1).run F' H' σ' A' a' D (Post.from n q)
      | rt x => exact q
      | bk x => exact q
      | ct x => exact q
    | er e => exact fun F' H' σ' A' c d n a' x => hh.run e F' H' σ' A' c d a' x D (Post.from n q)
    | bad => exact q
theorem YH.nil0 : YH K mg W S0 R B N [] (fun e => .er e) := ⟨fun h e s z => (by cases z), fun e F H σ A c d a x D q => q F H σ c d (Nx.refl.less fun _ z => (by cases z)) a.fh x⟩
/-- the class that is asked for: what the table says -/
def TabOk (K : Fg) (mg : Str → Option Value) (c : Value) (tab : List (Str × Bool)) : Prop := ∀ n b, tab.lookup n = some b → ∀ c', mg n = some c' → PySem.W.exmOne K c' c = some b
theorem YH.cons {c : Value} {ts : Addr → Value → Option Addr → TS} {l : List Hd} {tab : List (Str × Bool)} {ms mh : Exn → Res (Fl α β τ)} (ht : TabOk K mg c tab) (hs : ∀ e a cls d, mg e.c = some cls → Y K mg WF S0 (ts a cls d) R B N (ms e)) (hl : YH K mg W S0 R B N l mh)
    (hne : ∀ e, N = none → NoNx (ms e)) :
    YH K mg W S0 R B N ((c, none, ts) :: l) (fun e => ifR (chk (tab.lookup e.c)) (ms e).noer (mh e)) where
  no := fun h e => .ifR (noer_nn (hne e h)) (hl.no h e)
  run := fun e F H σ A cls d a x D q => by
    obtain ⟨b, eb, q⟩ := Post.of_chk (Post.of_bind q)
    refine ⟨b, ht _ _ eb _ x.1, fun hb aa na => ?_, fun hb => ?_⟩
    · subst hb
      exact (hs e aa cls d x.1).run F H σ A a D (Post.of_noer q)
    · subst hb
      exact hl.run e F H σ A cls d a x D q
/-- the exception that a clause holds -/
def rEx (a : Addr) (d : Option Addr) : Rp Exn where
  ok := fun K F _ v x A => A = [] ∧ v = .ref a ∧ ((x.fs = [] ∧ d = none) ∨ ∃ dd kvs, d = some dd ∧ F dd = some (.xd kvs) ∧ ∀ f y, (f, y) ∈ x.fs → ∃ v, kvs.lookup f = some v ∧ Dp K F v y)
  mono := fun h s _ => ⟨h.1, h.2.1, h.2.2.imp id fun ⟨dd, kvs, e1, e2, e3⟩ => ⟨dd, kvs, e1, s _ _ e2, fun f y z => (e3 f y z).imp fun _ q => ⟨q.1, dp_sub s q.2⟩⟩⟩
  dom := fun h a ha => by
    rw [h.1] at ha
    cases ha
theorem At.unset {F H : Hp} {σ : L2.St} {A : List Addr} {i : Nat} (a : At K F H σ S A) (hi : S[i]? = some .nil) : At K F H (σ.set i none) S A := by
  obtain ⟨o, A1, Ai, A2, e1, e2, e3, e4⟩ := a.sl.at hi
  have e3' : Ai = [] := by
    cases o <;> exact e3
  subst e3'
  have z := e4 F H Option.none .nil [] (.refl _) (fun _ _ => rfl) rfl
  have es : S.set i .nil = S := by
    apply List.ext_getElem?
    intro k
    by_cases h : i = k
    · subst h
      rw [hi, List.getElem?_set_self (lt_some (by rw [hi]; rfl))]
    · rw [List.getElem?_set_ne h]
  rw [es] at z
  subst e2
  exact ⟨a.fh, a.nd, a.fo, z⟩
/-- the ends do not speak of slot i -/
structure NoI (i : Nat) (B : β → List Sl) (N : Option (τ → List Sl)) : Prop where
  b : ∀ s, (B s)[i]? = some .nil
  n : ∀ f s, N = some f → (f s)[i]? = some .nil
theorem YOk.unset {F H : Hp} {A : List Addr} {D : Ends} {i : Nat} (hn : NoI i B N) : ∀ {fl : Fl α β τ}, YOk K F H A R B N D fl → YOk K F H A R B N (dOf (some i) D) fl
  | .nx s, h => by
    cases N with
    | none => exact h
    | some f => exact fun F' H' σ' A' x a => h F' H' (σ'.set i none) A' x (a.unset (hn.n f s rfl))
  | .ct s, h => fun F' H' σ' A' x a => h F' H' (σ'.set i none) A' x (a.unset (hn.b s))
  | .bk s, h => fun F' H' σ' A' x a => h F' H' (σ'.set i none) A' x (a.unset (hn.b s))
  | .rt x, h => h
theorem ExcOk.in_rEx {F H : Hp} {e : Exn} {c : Value} {d : Option Addr} {a : Addr} (x : ExcOk K mg F H e c d) : (rEx a d).ok K F H (.ref a) e [] :=
  ⟨rfl, rfl, x.2⟩
theorem YH.named {i : Nat} {c : Value} {ts : Addr → Value → Option Addr → TS} {l : List Hd} {tab : List (Str × Bool)} {ms mh : Exn → Res (Fl α β τ)} (ht : TabOk K mg c tab)
    (hs : ∀ e a cls d, mg e.c = some cls → Y K mg WF (S0.set i (.val (rEx a d) e)) (ts a cls d) R B N (ms e)) (hl : YH K mg W S0 R B N l mh) (hi : S0[i]?.isSome = true) (hn : NoI i B N)
    (hne : ∀ e, N = none → NoNx (ms e)) :
    YH K mg W S0 R B N ((c, some i, ts) :: l) (fun e => ifR (chk (tab.lookup e.c)) (ms e).noer (mh e)) where
  no := fun h e => .ifR (noer_nn (hne e h)) (hl.no h e)
  run := fun e F H σ A cls d a x D q => by
    obtain ⟨b, eb, q⟩ := Post.of_chk (Post.of_bind q)
    refine ⟨b, ht _ _ eb _ x.1, fun hb aa na => ?_, fun hb => ?_⟩
    · subst hb
      obtain ⟨A', a', n⟩ := a.set (r := rEx aa d) (.refl a.fh) x.in_rEx frs0 (lt_some hi)
      refine (hs e aa cls d x.1).run F H _ A' a' _ (Post.from n ?_)
      have q2 : Post (ms e) (YOk K F H A R B N (dOf (some i) D)) (YEr K mg W F H A) := (Post.of_noer (E' := YEr K mg W F H A) q).imp (fun _ z => z.unset hn) fun _ z => z
      exact (Post.of_noer (E' := YEr K mg WF F H A) (E := YEr K mg W F H A) (by
        cases e2 : ms e with
        | ok fl =>
          rw [e2] at q2
          exact q2
        | er x =>
          rw [e2] at q
          exact q.elim
        | bad =>
          rw [e2] at q
          exact q.elim))
    · subst hb
      exact hl.run e F H σ A cls d a x D q

/-! ### a field of the exception held -/
/-- e.f -/
def tXfA (K : Fg) (a : Addr) (cls : Value) (d : Option Addr) (f : Str) (te : TE) : TE := fun σ H Q => te σ H fun x H1 => x = .ref a ∧ ∃ (C dd : Addr) (fs : List (Str × V)) (v : V), cls = .ref C ∧ XfC K C ∧ PySem.W.findIn K (.ref C) f = some none ∧ d = some dd ∧ H1 dd = some (.xd fs) ∧ fs.lookup f = some v ∧ Q v H1
theorem pe_xfA {X : Cx} {a : Addr} {oe : Obj} {cls : Value} {d : Option Addr} {pn : List (Addr × Obj)} {e : Expr} {te : TE} {pos : Pos} {n : Str} (hz : Zc cls d oe) (hf : ∃ vs, oe.data = .fields vs) (he : PE (X.suite a ((a, oe) :: pn)) e te) (hb : attributeBase e n X.env (eval e X.env) = eval e X.env := by rfl) :
    PE (X.suite a ((a, oe) :: pn)) (.Attribute e n pos) (tXfA X.K a cls d n te) := by
  refine ⟨fun pins s σ H Q I h => attr_of hb (thn (he.run pins s σ H _ I h) fun u s1 hh => ?_)⟩
  obtain ⟨x, H1, I1, rx, ex, C, dd, fs, v, ec, T, hno, ed, ea, l, q⟩ := hh
  subst ex ec ed
  obtain rfl : u = Value.ref a := rx
  have ha := (I1.pin (a, oe) (List.mem_append_left _ List.mem_cons_self)).1
  obtain ⟨vs, hd⟩ := hf
  obtain ⟨mA, hns, hr⟩ := (I1.hok dd _ ea : ObjOk X.prog X.w H1 s1.heap dd (.xd fs))
  obtain ⟨od, ho, hl⟩ := lookIn_ns hns
  obtain ⟨u, hu, ru⟩ := RelO.some_of (v := v) (o := mA n) (by rw [← l]; exact hr n)
  have J : PySem.W.InstAt s1.heap a oe C (some od) := ⟨ha, hz.1, by unfold PySem.W.notCls; rw [hd] <;> rfl, by rw [hz.2]; exact ho⟩
  exact HandSPX.exc_get I1.kIn J T.ga T.gg T.exC (PySem.W.findObj_own T.hdC hno rfl (by rw [hl, hu])) (handed_of ru) ⟨v, H1, I1.tok _, ru, q⟩
/-- the names of classes whose instances may be asked for the field f -/
def XfTab (K : Fg) (mg : Str → Option Value) (f : Str) (ns : List Str) : Prop := ∀ n ∈ ns, ∀ c, mg n = some c → ∃ C, c = .ref C ∧ XfC K C ∧ PySem.W.findIn K (.ref C) f = some none
def xfQ {α : Type} (ns : List Str) (f : Str) (dec : PyData → Option α) (e : Exn) : Option α := if e.c ∈ ns then (e.fs.lookup f).bind dec else none
theorem XB.xf {i : Nat} {a : Addr} {cls : Value} {d : Option Addr} {e : Exn} {f : Str} {ns : List Str} {en : Enc ι} {dec : PyData → Option ι} (h : S[i]? = some (.val (rEx a d) e)) (hc : mg e.c = some cls) (hx : XfTab K mg f ns) (hd : ∀ y x, dec y = some x → en x = y) :
    XB K mg W S (tXfA K a cls d f (tVar i)) (vD en) (chk (xfQ ns f dec e)) := fun F H σ A at_ Q q => by
  obtain ⟨x, ex, q⟩ := Post.of_chk q
  unfold xfQ at ex
  split at ex
  · rename_i hn
    obtain ⟨C, rfl, xc, nf⟩ := hx _ hn _ hc
    obtain ⟨o, A1, Ai, A2, e1, e2, e3, e4⟩ := at_.sl.at h
    cases o with
    | none => exact e3.elim
    | some v =>
      obtain ⟨_, rfl, e5⟩ := (e3 : (rEx a d).ok K F H v e Ai)
      cases el : e.fs.lookup f with
      | none =>
        rw [el] at ex
        cases ex
      | some y =>
        rw [el] at ex
        rcases e5 with e5 | ⟨dd, kvs, rfl, e6, e7⟩
        · rw [e5.1] at el
          cases el
        · obtain ⟨v, e8, e9⟩ := e7 f y (PySem.mem_of_lookup el)
          refine ⟨_, e1, rfl, C, dd, kvs, v, rfl, xc, nf, rfl, at_.fh _ _ e6, e8, q v F H (.refl at_.fh) ?_⟩
          show Dp K F v (en x)
          rw [hd y x ex]
          exact e9
  · cases ex
end
end TP

set_option Elab.async false
set_option linter.all false
set_option maxRecDepth 100000
set_option maxHeartbeats 4000000
/-! TP, part 23: raise, own exceptions made. -/
namespace TP
open PySem PySem.Spec PyProof.Rows L2

/-! ### TapeError.__init__(self, ..), TapeError a class of the program without own __init__ -/
theorem pe_veinitC {X : Cx} {x : Str} {T : Addr} {mc : Value} {e : Expr} {es : List Expr} {ta : TA} {p1 p2 pos : Pos} {pl : Sem Bool} (hg : Gl X x) (hm : X.mg x = some (.ref T)) (cr : ClX.CRead X.K T mc)
    (at_ : PySem.W.findCls X.K (.ref T) mc "__init__" = some (.val (.builtin "ValueError.__init__"))) (ha : PA X (e :: es) ta)
    (hc : eval (.Call (.Attribute (.Name x p1) "__init__" p2) (e :: es) [] pos) X.env = (do
      let ov ← eval (.Name x p1) X.env
      standAt p2.atName
      let (f, first) ← holding [ov] (getMethod ov "__init__" pl)
      callWith pos f first (backTo pos (starEach (e :: es) X.env)) (backToKw pos (keywordEach [] X.env))) := by rfl) (hdb : (x == ("__debug__" : Str)) = false := by decide)
    (he : starEach (e :: es) X.env = (false, eval e X.env) :: starEach es X.env := by rfl) (hpl : (backTo pos (starEach es X.env)).any (·.1) = false := by rfl) :
    PE X (.Call (.Attribute (.Name x p1) "__init__" p2) (e :: es) [] pos) (tVeI X.K ta) := by
  refine ⟨fun pins s σ H Q I h => ?_⟩
  refine PySem.W.methodCall_KW (ld_glob I hg hm ?_ hdb) hc
  refine PySem.W.method_cls I.kIn cr.ga (PySem.W.cls_value I.kIn cr.rd at_ (by decide +kernel) ?_)
  show wpAny _ _ (callWith pos (Value.builtin "ValueError.__init__") [] (backTo pos (starEach (e :: es) X.env)) []) _ _ _
  refine PyProof.Rows.callWith_method1 (thn (ha.run pos pins _ σ H _ (I.tok _) h) fun us s1 ⟨vs, H1, I1, r1, a, C, ws, ev, hl, T, ea, q⟩ => ?_) he hpl
  subst ev
  cases r1 with
  | @cons _ u0 _ ur ra rw' =>
    obtain rfl : u0 = Value.ref a := ra
    have hlen : ur.length ≤ sizeLine := by
      rw [← Paired.length rw', sizeLine_eq]
      omega
    exact oinit_ok T I1 ea hlen fun s' J => ⟨.non, H1, J, rfl, q⟩

/-! ### what an own __init__ promises -/
def xst (H : Hp) (a C dx : Addr) (fs : List (Str × V)) : Hp := upd (upd H dx (exd dx fs)) a (exo a C (some dx))
def spX (K : Fg) (fl : List Str) (C : Addr) : Sp := fun vs H Q _ => ∃ a ys, vs = .ref a :: ys ∧ ys.length = fl.length ∧ H a = some (exo a C none) ∧ ∀ dx, H dx = none → dx ≠ a → Q .non (xst H a C dx ((fl.zip ys).reverse))
section
variable {P : Program} {w : World} {K : Fg} {mg : Str → Option Value} {base : Heap} {x qual : Str} {st : Stmt} {fI C : Addr} {fd : FuncData} {nm ps : List Str} {k : Nat} {m f g : Str}
theorem init_ok1 (T : OexC K C) (h1 : PySem.W.findIn K (.ref C) f = some none) (F : Fun K x qual st fI fd) (Sc : FnScope nm ps (defScope st)) (hps : ps.length = 2) (hnm : nm.length = 2)
    (body : ∀ (cdv : Value) (A : Around) (outer : List Env) (s : Shared) (H : Hp) (E : XK), PSs (cxOf (L2.CX P w) P w K mg base nm qual (defScope st) fI cdv A outer s H E) (defBody st)
      (tSeq (tDrop (tVeI K (tCons (tVar 0) (tCons (tC (.str m)) tNil)))) (tSeq (tOst K f (tVar 0) (tVar 1)) tNext))) :
    FnOk P w K mg base (L2.CX P w) (k + 1) fI fd ps (spX K [f] C) := by
  refine F.okX Sc (fun vs H Q E h => ?_) (fun cdv A outer s H vs Q E hr h => ⟨_, body cdv A outer s H E, ?_⟩)
  · obtain ⟨a, ys, rfl, hl, _⟩ := h
    rw [List.length_cons, hl, hps]
    rfl
  · obtain ⟨a, ys, rfl, hl, ha, q⟩ := h
    match ys, hl with
    | [y], _ =>
      have e : L2.start nm [V.ref a, y] = [some (.ref a), some y] := by
        unfold L2.start
        rw [hnm]
        rfl
      rw [e]
      refine ⟨_, rfl, ⟨a, C, [.str m], rfl, by simp, T, ha, ?_⟩⟩
      refine ⟨_, rfl, _, rfl, a, C, rfl, T, h1, .inl ⟨ha, fun dx n ne => ?_⟩⟩
      exact q dx n ne
theorem init_ok2 (T : OexC K C) (h1 : PySem.W.findIn K (.ref C) f = some none) (h2 : PySem.W.findIn K (.ref C) g = some none) (F : Fun K x qual st fI fd) (Sc : FnScope nm ps (defScope st)) (hps : ps.length = 3) (hnm : nm.length = 3)
    (body : ∀ (cdv : Value) (A : Around) (outer : List Env) (s : Shared) (H : Hp) (E : XK), PSs (cxOf (L2.CX P w) P w K mg base nm qual (defScope st) fI cdv A outer s H E) (defBody st)
      (tSeq (tDrop (tVeI K (tCons (tVar 0) (tCons (tC (.str m)) tNil)))) (tSeq (tOst K f (tVar 0) (tVar 1)) (tSeq (tOst K g (tVar 0) (tVar 2)) tNext)))) :
    FnOk P w K mg base (L2.CX P w) (k + 1) fI fd ps (spX K [f, g] C) := by
  refine F.okX Sc (fun vs H Q E h => ?_) (fun cdv A outer s H vs Q E hr h => ⟨_, body cdv A outer s H E, ?_⟩)
  · obtain ⟨a, ys, rfl, hl, _⟩ := h
    rw [List.length_cons, hl, hps]
    rfl
  · obtain ⟨a, ys, rfl, hl, ha, q⟩ := h
    match ys, hl with
    | [y, z], _ =>
      have e : L2.start nm [V.ref a, y, z] = [some (.ref a), some y, some z] := by
        unfold L2.start
        rw [hnm]
        rfl
      rw [e]
      refine ⟨_, rfl, ⟨a, C, [.str m], rfl, by simp, T, ha, ?_⟩⟩
      refine ⟨_, rfl, _, rfl, a, C, rfl, T, h1, .inl ⟨ha, fun dx n ne => ?_⟩⟩
      refine ⟨_, rfl, _, rfl, a, C, rfl, T, h2, .inr ⟨dx, [(f, y)], upd_same, ?_, by simp, ?_⟩⟩
      · rw [upd_ne ne]
        exact upd_same
      · have e2 : upd (upd (upd H dx (exd dx [(f, y)])) a (exo a C (some dx))) dx (exd dx [(g, z), (f, y)]) = xst H a C dx [(g, z), (f, y)] := by
          funext b
          unfold xst
          by_cases hb : b = dx
          · subst hb
            rw [upd_same, upd_ne ne, upd_same]
          · rw [upd_ne hb]
            by_cases ha2 : b = a
            · subst ha2
              rw [upd_same, upd_same]
            · rw [upd_ne ha2, upd_ne hb, upd_ne ha2, upd_ne hb]
        have zz := q dx n ne
        rw [show ([f, g].zip [y, z]).reverse = [(g, z), (f, y)] from rfl, ← e2] at zz
        exact zz
end

/-! ### raise -/
section
variable {K : Fg} {mg : Str → Option Value} {W : WX} {S : List Sl} {u : TS} {ta : TA}
variable {α β τ ι : Type} {R : Rp α} {B : β → List Sl} {N : Option (τ → List Sl)}
theorem NoNx.er {e : Exn} : NoNx (.er e : Res (Fl α β τ)) := fun s z => by cases z
theorem Y.raise0 {n : Str} {C : Addr} (h : mg n = some (.ref C)) : Y K mg W S (tSeq (fun _ σ H => W (.ref C) none σ H) u) R B N (.er ⟨n, []⟩) := ⟨fun _ => .er, fun F H σ A a D q =>
  q F H σ (.ref C) none (Nx.refl.less fun _ z => (by cases z)) a.fh ⟨h, .inl ⟨rfl, rfl⟩⟩⟩
def FlOk (fl : List Str) : Prop := (∃ f, fl = [f]) ∨ ∃ f g, f ≠ g ∧ fl = [f, g]
theorem fl_look {F : Hp} {fl : List Str} (hf : FlOk fl) {vs : List V} {ds : List PyData} (h : DpAll K F vs ds) {f : Str} {x : PyData} (hm : (f, x) ∈ fl.zip ds) : ∃ v, (fl.zip vs).reverse.lookup f = some v ∧ Dp K F v x := by
  rcases hf with ⟨f1, rfl⟩ | ⟨f1, f2, ne, rfl⟩
  · cases h with
    | nil => simp at hm
    | @cons v d vs ds h1 h2 =>
      simp at hm
      obtain ⟨rfl, rfl⟩ := hm
      exact ⟨v, by simp [List.lookup], h1⟩
  · cases h with
    | nil => simp at hm
    | @cons v d vs ds h1 h2 =>
      cases h2 with
      | nil =>
        simp at hm
        obtain ⟨rfl, rfl⟩ := hm
        exact ⟨v, by simp [List.lookup], h1⟩
      | @cons v2 d2 vs ds h2 h3 =>
        simp at hm
        rcases hm with ⟨rfl, rfl⟩ | ⟨rfl, rfl⟩
        · exact ⟨v, by
            have z : (f == f2) = false := by simpa using ne
            simp [List.lookup, z], h1⟩
        · exact ⟨v2, by simp [List.lookup], h2⟩
theorem Y.raiseX {n : Str} {C : Addr} {fl : List Str} {D : ι → List PyData} {ma : Res ι} (h : mg n = some (.ref C)) (ha : XA K mg W S ta D ma) (hf : FlOk fl) (hl : ∀ t, (D t).length = fl.length) :
    Y K mg W S (tSeq (fun _ σ H => tMkO C (spX K fl C) [] ta σ H fun cls d H' => W cls d σ H') u) R B N (ma.bind fun t => .er ⟨n, fl.zip (D t)⟩) := ⟨fun _ => .bind fun _ => .er, fun F H σ A a De q =>
  ha F H σ A a _ ((Post.of_bind q).imp (fun t k vs F1 H1 p1 dp => by
    have ev : vs.length = fl.length := (dpAll_len dp).trans (hl t)
    have sm : vs.length ≤ 1000 := by
      rw [ev]
      rcases hf with ⟨f, rfl⟩ | ⟨f, g, _, rfl⟩ <;> simp
    refine ⟨sm, fun a' na => ?_⟩
    rw [List.append_nil]
    refine ⟨a', vs, rfl, ev, upd_same, fun dx ndx nex => ⟨rfl, dx, (fl.zip vs).reverse, upd_same, ?_, ?_, ?_⟩⟩
    · unfold xst
      rw [upd_ne nex]
      exact upd_same
    · rwa [upd_ne nex] at ndx
    · rw [upd_ne nex] at ndx
      have e2 : upd (del (xst (upd H1 a' (exo a' C none)) a' C dx (fl.zip vs).reverse) a') dx (.xd (fl.zip vs).reverse) = upd H1 dx (.xd (fl.zip vs).reverse) := by
        funext b
        by_cases hb : b = dx
        · subst hb
          rw [upd_same, upd_same]
        · rw [upd_ne hb, upd_ne hb]
          by_cases ha2 : b = a'
          · subst ha2
            rw [del_same, na]
          · unfold xst
            rw [del_ne ha2, upd_ne ha2, upd_ne hb, upd_ne ha2]
      rw [e2]
      have p2 : Pu F1 H1 (upd F1 dx (.xd (fl.zip vs).reverse)) (upd H1 dx (.xd (fl.zip vs).reverse)) := .new p1.fh ndx
      exact k _ _ σ _ _ ((p1.trans p2).nx fun _ z => (by cases z)) p2.fh ⟨h, .inr ⟨dx, _, rfl, upd_same, fun f x hm => fl_look hf (dpAll_sub p2.ff dp) hm⟩⟩) fun e z => z.x)⟩
end
end TP

set_option Elab.async false
set_option linter.all false
set_option maxRecDepth 100000
set_option maxHeartbeats 4000000
/-! TP, part 24: what the text says of the program's exceptions. -/
namespace TP
open PySem PySem.Spec PyProof.Rows L2

structure XCls (K : Fg) (mg : Str → Option Value) (n : Str) (C : Addr) : Prop where
  g : mg n = some (.ref C)
  k : PySem.W.keepIn K (.ref C) = true
  b : PySem.W.subIn K (.ref C) (.type "BaseException") = some true
  t : PySem.W.typeIn K (.ref C) = some (.type "type")
  i : PySem.W.isClsIn K C = true
abbrev veT : List Value := [.type "ValueError", .type "Exception", .type "BaseException", .type "object"]
section
variable {K : Fg} {mg : Str → Option Value} {n m : Str} {C D : Addr} {b : Bool} {tab : List (Str × Bool)} {f : Str} {ns : List Str}
theorem exm_of (c : XCls K mg m D) (h : PySem.W.subIn K (.ref C) (.ref D) = some b) : PySem.W.exmOne K (.ref C) (.ref D) = some b := by
  have e1 : (PySem.W.subIn K (.ref D) (.type "BaseException") == some true) = true := by rw [c.b] <;> rfl
  have e2 : ((PySem.W.clsIn K D).isSome && PySem.W.typeIn K (.ref D) == some (.type "type")) = true := by
    have h2' : (PySem.W.clsIn K D).isSome = true := c.i
    rw [h2', c.t] <;> rfl
  show (if (PySem.W.subIn K (.ref D) (.type "BaseException") == some true) = true then (if ((PySem.W.clsIn K D).isSome && PySem.W.typeIn K (.ref D) == some (.type "type")) = true then PySem.W.subIn K (.ref C) (.ref D) else none) else none) = some b
  rw [if_pos e1, if_pos e2]
  exact h
theorem TabOk.nil {c : Value} : TabOk K mg c [] := fun n b e => by cases e
theorem TabOk.cons (d : XCls K mg m D) (c : XCls K mg n C) (h : PySem.W.subIn K (.ref C) (.ref D) = some b) (r : TabOk K mg (.ref D) tab) : TabOk K mg (.ref D) ((n, b) :: tab) := fun x b' e c' hm => by
  rw [List.lookup_cons] at e
  by_cases z : x = n
  · subst z
    simp at e
    subst e
    rw [c.g] at hm
    cases hm
    exact exm_of d h
  · have z' : (x == n) = false := by simpa using z
    rw [z'] at e
    exact r x b' e c' hm
theorem XfTab.nil : XfTab K mg f [] := fun n h => by cases h
theorem XfTab.cons (c : XCls K mg n C) (x : XfC K C) (h : PySem.W.findIn K (.ref C) f = some none) (r : XfTab K mg f ns) : XfTab K mg f (n :: ns) := fun y hy c' hm => by
  rcases List.mem_cons.mp hy with z | z
  · subst z
    rw [c.g] at hm
    cases hm
    exact ⟨C, rfl, x, h⟩
  · exact r y z c' hm
end
/-! ### the try as a word -/
def tTry (K : Fg) (tb : WX → TS) (Wout : WX) (l : List Hd) (u : TS) : TS := fun D σ H => tb (wHs K Wout D l) { D with nx := u D } σ H
theorem ps_tryT {X : Cx} {body orelse : List Stmt} {h₀ : ExceptHandler} {hds : List ExceptHandler} {l : List Hd} {pos : Pos} {tb : WX → TS} {u : TS} {Wout : WX} (ho : PSs X orelse u) (hs : X.stack = X.env :: X.outer) (hf : X.env.frame = some X.env.locals) (tk : Takes X Wout)
    (hb : ∀ (W : WX) (pn : List (Addr × Obj)) (xe : Value → Shared → Prop), Takes (X.tr pn xe) W → PassesOwn (model X.prog X.w) X.A X.env xe → PSs (X.tr pn xe) body (tb W))
    (hh : HdsA X (h₀ :: hds) l) : PS X (.Try body (h₀ :: hds) orelse [] pos) (tTry X.K tb Wout l u) := ps_tryA ho hs hf tk hb hh
section
variable {K : Fg} {mg : Str → Option Value} {W : WX} {S S0 : List Sl} {u : TS}
variable {α β τ τ1 : Type} {R : Rp α} {B : β → List Sl} {N : Option (τ → List Sl)}
theorem Y.tryT {tb : WX → TS} {l : List Hd} {N1 : τ1 → List Sl} {mb : Res (Fl α β τ1)} {mh : Exn → Res (Fl α β τ)} {k : τ1 → Res (Fl α β τ)} (S0 : List Sl)
    (hb : ∀ W', YE K mg W' S (tb W') R B (some N1) S0 mb) (hu : ∀ s, Y K mg W (N1 s) u R B N (k s)) (hh : YH K mg W S0 R B N l mh) :
    Y K mg W S (tTry K tb W l u) R B N (tryR mb mh k) := Y.try0 S0 hb hu hh
end
/-! ### fields read back -/
def decI : PyData → Option Int
  | .int i => some i
  | _ => none
def decAll {α : Type} (d : PyData → Option α) : List PyData → Option (List α)
  | [] => some []
  | x :: r => (d x).bind fun y => (decAll d r).map (y :: ·)
def decV {α : Type} (d : PyData → Option α) : PyData → Option (List α)
  | .tuple xs => decAll d xs
  | _ => none
def decL {α : Type} (d : PyData → Option α) : PyData → Option (List α)
  | .list xs => decAll d xs
  | _ => none
theorem decI_ok : ∀ y x, decI y = some x → eI x = y := fun y x h => by
  cases y <;> first | cases h; rfl | cases h
theorem decAll_ok {α : Type} {d : PyData → Option α} {e : Enc α} (hd : ∀ y x, d y = some x → e x = y) : ∀ ys xs, decAll d ys = some xs → xs.map e = ys
  | [], xs, h => by
    cases h
    rfl
  | y :: ys, xs, h => by
    unfold decAll at h
    cases e1 : d y with
    | none =>
      rw [e1] at h
      cases h
    | some z =>
      rw [e1] at h
      cases e2 : decAll d ys with
      | none =>
        rw [e2] at h
        cases h
      | some zs =>
        rw [e2] at h
        cases h
        rw [List.map_cons, hd _ _ e1, decAll_ok hd _ _ e2]
theorem decV_ok {α : Type} {d : PyData → Option α} {e : Enc α} (hd : ∀ y x, d y = some x → e x = y) : ∀ y x, decV d y = some x → eV e x = y := fun y x h => by
  cases y <;> first | cases h | exact congrArg PyData.tuple (decAll_ok hd _ _ h)
theorem decL_ok {α : Type} {d : PyData → Option α} {e : Enc α} (hd : ∀ y x, d y = some x → e x = y) : ∀ y x, decL d y = some x → eL e x = y := fun y x h => by
  cases y <;> first | cases h | exact congrArg PyData.list (decAll_ok hd _ _ h)
/-! ### an argument that is not looked at -/
def rAny : Rp Unit where
  ok := fun _ _ _ _ _ A => A = []
  mono := fun h _ _ => h
  dom := fun h a ha => by
    rw [h] at ha
    cases ha
theorem XO.junk {K : Fg} {mg : Str → Option Value} {W : WX} {S : List Sl} {i : Nat} {α : Type} {r : Rp α} {x : α} (h : S[i]? = some (.val r x)) : XO K mg W S (tVar i) rAny (.ok ()) := fun F H σ A a Q q => by
  obtain ⟨o, A1, Ai, A2, e1, e2, e3, _⟩ := a.sl.at h
  cases o with
  | none => exact e3.elim
  | some v => exact ⟨v, e1, q v F H [] (.refl a.fh) rfl frs0⟩
end TP

set_option Elab.async false
set_option linter.all false
set_option maxRecDepth 100000
set_option maxHeartbeats 4000000
/-! TP, part 25: isinstance of the exception that a clause holds. -/
namespace TP
open PySem PySem.Spec PyProof.Rows L2

def vval : V → Value
  | .ref a => .ref a
  | .ty n => .type n
  | _ => .none
def clsy : V → Bool
  | .ref _ => true
  | .ty _ => true
  | _ => false
theorem vval_ok {v : V} {u : Value} (h : clsy v = true) (r : RelV v u) : u = vval v := by
  cases v <;> first | exact r | cases h
theorem vvals_ok : ∀ {vs : List V} {us : List Value}, vs.all clsy = true → Vals vs us → us = vs.map vval
  | _, _, _, .nil => rfl
  | v :: vs, _, h, .cons r t => by
    rw [List.all_cons, Bool.and_eq_true] at h
    rw [List.map_cons, ← vval_ok h.1 r, ← vvals_ok h.2 t]
/-- isinstance(e, c) | isinstance(e, (c, ..)), e the exception held -/
def rIsX (K : Fg) (a : Addr) (cls : Value) (d : Option Addr) : List V → Hp → VK → Prop := fun xs H Q => ∃ (D : Addr) (cs : List V) (b : Bool), cls = .ref D ∧ ExcC K D ∧ (d = none ∨ ∃ dd fs, d = some dd ∧ H dd = some (.xd fs)) ∧
  cs.all clsy = true ∧ PySem.W.kitAny K (.ref D) (cs.map vval) = some b ∧ Q (.bl b) H ∧ ((∃ c, cs = [c] ∧ xs = [.ref a, c]) ∨ ∃ t, xs = [.ref a, .ref t] ∧ H t = some (.tup cs))
theorem kitAny_one {K : Fg} {t c : Value} {b : Bool} (h : PySem.W.kitAny K t [c] = some b) : PySem.W.kitOne K t c = some b := by
  unfold PySem.W.kitAny PySem.W.kitAny at h
  split at h
  · rename_i e
    rw [e]
    exact h
  · rename_i e
    rw [e]
    exact h
  · cases h
theorem call_isX {X : Cx} {a : Addr} {oe : Obj} {cls : Value} {d : Option Addr} {pn : List (Addr × Obj)} (hz : Zc cls d oe) (hf : ∃ vs, oe.data = .fields vs) : CallR (X.suite a ((a, oe) :: pn)) (.builtin "isinstance") (rIsX X.K a cls d) := by
  intro pins s σ H xs us Q I r h
  obtain ⟨D, cs, b, rfl, C, hd, hc, e, q, sh⟩ := h
  obtain ⟨hget, _⟩ := I.pin (a, oe) (List.mem_append.mpr (.inl List.mem_cons_self))
  obtain ⟨vs, hv⟩ := hf
  have J : ∃ od, PySem.W.InstAt s.heap a oe D od := by
    rcases hd with rfl | ⟨dd, fs, rfl, hdd⟩
    · refine ⟨none, hget, hz.1, ?_, ?_⟩
      · unfold PySem.W.notCls
        rw [hv] <;> rfl
      · rw [hz.2]
        trivial
    · obtain ⟨mA, hns, hr⟩ := (I.hok dd _ hdd : ObjOk X.prog X.w H s.heap dd (.xd fs))
      obtain ⟨od, ho, hl⟩ := lookIn_ns hns
      refine ⟨some od, hget, hz.1, ?_, ?_⟩
      · unfold PySem.W.notCls
        rw [hv] <;> rfl
      · rw [hz.2]
        exact ho
  obtain ⟨od, J⟩ := J
  have Z := PySem.W.kitx_exc (od := od) (ox := oe) (x := a) (by
    obtain ⟨cd, hcd, _⟩ := PySem.W.any_some C.hd
    rw [hcd]
    rfl) C.hg C.hk C.hs C.ha C.hn C.ht C.hm
  rcases sh with ⟨c, rfl, rfl⟩ | ⟨t, rfl, ht⟩
  · cases r with
    | cons rx rr =>
      cases rr with
      | cons rt rr =>
        cases rr
        cases rx
        rw [List.all_cons, Bool.and_eq_true] at hc
        have ec := vval_ok hc.1 rt
        subst ec
        exact PySem.W.kia_one Z I.kIn J (kitAny_one e) (fun z => nomatch z) fun tk => ⟨.bl b, H, I.kept (t' := tk) fun _ _ z => z, rfl, q⟩
  · cases r with
    | cons rx rr =>
      cases rr with
      | cons rt rr =>
        cases rr
        cases rx
        cases rt
        obtain ⟨_, its, rv, ⟨oc, od2, oda, osl⟩, e1, e2, n, e3⟩ := (I.hok t _ ht : ObjOk X.prog X.w H s.heap t (.tup cs))
        dsimp only at e2 e3
        subst e2 e3
        have ei := vvals_ok hc rv
        subst ei
        exact PySem.W.kia_tup Z I.kIn J e1 e (fun z => nomatch z) fun tk => ⟨.bl b, H, I.kept (t' := tk) fun _ _ z => z, rfl, q⟩

/-! ### facts -/
section
variable {K : Fg} {mg : Str → Option Value} {n m : Str} {C D : Addr} {b b1 b2 : Bool} {tab : List (Str × Bool)} {cs : List V}
theorem kit_own (c : XCls K mg m C) (h : PySem.W.subIn K (.ref D) (.ref C) = some b) (hs : PySem.W.subIn K (.ref C) (.ref C) = some true) : PySem.W.kitOne K (.ref D) (.ref C) = some b := by
  unfold PySem.W.kitOne
  by_cases e : D = C
  · subst e
    rw [hs] at h
    rw [if_pos (by simp), h]
  · rw [if_neg (by simpa using e)]
    have e2 : ((PySem.W.clsIn K C).isSome && PySem.W.typeIn K (.ref C) == some (.type "type")) = true := by
      have h2' : (PySem.W.clsIn K C).isSome = true := c.i
      rw [h2', c.t] <;> rfl
    show (if ((PySem.W.clsIn K C).isSome && PySem.W.typeIn K (.ref C) == some (.type "type")) = true then PySem.W.subIn K (.ref D) (.ref C) else none) = some b
    rw [if_pos e2]
    exact h
theorem kit_ve (h : PySem.W.subIn K (.ref D) (.type "ValueError") = some b) : PySem.W.kitOne K (.ref D) (.type "ValueError") = some b := by
  unfold PySem.W.kitOne
  rw [if_neg (by simp)]
  show (if PySem.W.kitMeta "ValueError" = true then PySem.W.subIn K (.ref D) (.type "ValueError") else none) = some b
  rw [if_pos (by decide +kernel)]
  exact h
theorem any_nil {t : Value} : PySem.W.kitAny K t (([] : List V).map vval) = some false := rfl
theorem any_cons {t : Value} {c : V} (h1 : PySem.W.kitOne K t (vval c) = some b1) (h2 : PySem.W.kitAny K t (cs.map vval) = some b2) : PySem.W.kitAny K t ((c :: cs).map vval) = some (b1 || b2) := by
  rw [List.map_cons]
  unfold PySem.W.kitAny
  rw [h1]
  cases b1 with
  | true => rfl
  | false => exact h2
def IsTab (K : Fg) (mg : Str → Option Value) (cs : List V) (tab : List (Str × Bool)) : Prop := ∀ n b, tab.lookup n = some b → ∀ c, mg n = some c → ∃ D, c = .ref D ∧ ExcC K D ∧ PySem.W.kitAny K (.ref D) (cs.map vval) = some b
theorem IsTab.nil : IsTab K mg cs [] := fun n b e => by cases e
theorem IsTab.cons (c : XCls K mg n C) (x : ExcC K C) (h : PySem.W.kitAny K (.ref C) (cs.map vval) = some b) (r : IsTab K mg cs tab) : IsTab K mg cs ((n, b) :: tab) := fun y b' e c' hm => by
  rw [List.lookup_cons] at e
  by_cases z : y = n
  · subst z
    simp at e
    subst e
    rw [c.g] at hm
    cases hm
    exact ⟨C, rfl, x, h⟩
  · have z' : (y == n) = false := by simpa using z
    rw [z'] at e
    exact r y b' e c' hm
end
section
variable {K : Fg} {mg : Str → Option Value} {W : WX} {S : List Sl} {tab : List (Str × Bool)} {cs : List V} {c : V} {i : Nat} {a : Addr} {cls : Value} {d : Option Addr} {e : Exn}
theorem held_at {F H : Hp} {σ : L2.St} {A : List Addr} (at_ : At K F H σ S A) (h : S[i]? = some (.val (rEx a d) e)) : σ[i]? = some (some (.ref a)) ∧ (d = none ∨ ∃ dd fs, d = some dd ∧ F dd = some (.xd fs)) := by
  obtain ⟨o, A1, Ai, A2, e1, e2, e3, e4⟩ := at_.sl.at h
  cases o with
  | none => exact e3.elim
  | some v =>
    obtain ⟨_, rfl, e5⟩ := (e3 : (rEx a d).ok K F H v e Ai)
    exact ⟨e1, e5.imp (fun z => z.2) fun ⟨dd, kvs, h1, h2, _⟩ => ⟨dd, kvs, h1, h2⟩⟩
theorem XB.is1 (h : S[i]? = some (.val (rEx a d) e)) (hc : mg e.c = some cls) (ht : IsTab K mg [c] tab) (hy : clsy c = true := by rfl) :
    XB K mg W S (tCB (rIsX K a cls d) (tCons (tVar i) (tCons (tC c) tNil))) (vD eB) (chk (tab.lookup e.c)) := fun F H σ A at_ Q q => by
  obtain ⟨b, eb, q⟩ := Post.of_chk q
  obtain ⟨D, rfl, x, hk⟩ := ht _ _ eb _ hc
  obtain ⟨e1, hd⟩ := held_at at_ h
  exact ⟨_, e1, D, [c], b, rfl, x, hd.imp id fun ⟨dd, fs, h1, h2⟩ => ⟨dd, fs, h1, at_.fh _ _ h2⟩, by simp [hy], hk, q _ F H (.refl at_.fh) (.bl b), .inl ⟨c, rfl, rfl⟩⟩
/-- arguments that stand for themselves -/
def TaIs (ta : TA) (cs : List V) : Prop := ∀ σ H (Q : List V → Hp → Prop), Q cs H → ta σ H Q
theorem TaIs.nil : TaIs tNil [] := fun _ _ _ q => q
theorem TaIs.cons {ta : TA} (h : TaIs ta cs) : TaIs (tCons (tC c) ta) (c :: cs) := fun σ H Q q => h σ H _ q
theorem XB.isN {ta : TA} (h : S[i]? = some (.val (rEx a d) e)) (hc : mg e.c = some cls) (ht : IsTab K mg cs tab) (ha : TaIs ta cs) (hy : cs.all clsy = true := by rfl) (hz : cs.length ≤ sizeLine := by decide) :
    XB K mg W S (tCB (rIsX K a cls d) (tCons (tVar i) (tCons (tTup ta) tNil))) (vD eB) (chk (tab.lookup e.c)) := fun F H σ A at_ Q q => by
  obtain ⟨b, eb, q⟩ := Post.of_chk q
  obtain ⟨D, rfl, x, hk⟩ := ht _ _ eb _ hc
  obtain ⟨e1, hd⟩ := held_at at_ h
  refine ⟨_, e1, ha σ H _ ⟨hz, fun p hp => ?_⟩⟩
  have p2 : Pu F H (upd F p (.tup cs)) (upd H p (.tup cs)) := .new at_.fh hp
  exact ⟨D, cs, b, rfl, x, hd.imp id fun ⟨dd, fs, h1, h2⟩ => ⟨dd, fs, h1, p2.hh _ _ (at_.fh _ _ h2)⟩, hy, hk, q _ _ _ p2 (.bl b), .inr ⟨p, rfl, upd_same⟩⟩
end
end TP

set_option Elab.async false
set_option linter.all false
set_option maxRecDepth 100000
set_option maxHeartbeats 4000000
/-! TP, part 26: a tuple of two whose first item is one's own. -/
namespace TP
open PySem PySem.Spec PyProof.Rows L2

def rT2 {α β : Type} (r : Rp α) (e : Enc β) : Rp (α × β) where
  ok := fun K F H v x A => ∃ p v1 v2, v = .ref p ∧ F p = some (.tup [v1, v2]) ∧ r.ok K F H v1 x.1 A ∧ Dp K F v2 (e x.2)
  mono := fun ⟨p, v1, v2, h1, h2, h3, h4⟩ s k => ⟨p, v1, v2, h1, s _ _ h2, r.mono h3 s k, dp_sub s h4⟩
  dom := fun ⟨p, v1, v2, h1, h2, h3, h4⟩ => r.dom h3
section
variable {K : Fg} {mg : Str → Option Value} {W : WX} {S : List Sl} {te tb : TE} {u : TS}
variable {α β τ ι γ : Type} {B : β → List Sl} {N : Option (τ → List Sl)}
theorem Y.retT2 {i : Nat} {r : Rp ι} {e : Enc γ} {x : ι} {me : Res γ} (h : S[i]? = some (.val r x)) (he : XB K mg W S te (vD e) me) :
    Y K mg W S (tSeq (tRet (tTup (tCons (tVar i) (tCons te tNil)))) u) (rT2 r e) B N (me.bind fun y => .ok (.rt (x, y))) := ⟨fun _ => .bind fun _ => .rt, fun F H σ A a D q => by
  obtain ⟨o, A1, Ai, A2, e1, e2, e3, _⟩ := a.sl.at h
  cases o with
  | none => exact e3.elim
  | some v =>
    have n1 := List.nodup_append.mp (e2 ▸ a.nd)
    have n2 := List.nodup_append.mp n1.2.1
    have ins : ∀ z ∈ Ai, z ∈ A := fun z hz => by
      rw [e2]
      exact List.mem_append_right _ (List.mem_append_left _ hz)
    refine ⟨v, e1, he F H σ A a _ ((Post.of_bind q).imp (fun y k w F' H' p hw => ⟨by simp [sizeLine_eq], fun t ht => ?_⟩) fun e z => z.x)⟩
    have p2 : Pu F' H' (upd F' t (.tup [v, w])) (upd H' t (.tup [v, w])) := .new p.fh ht
    have pp := p.trans p2
    have hin : ∀ z ∈ Ai, H z ≠ none := fun z hz => a.sl.dom z (ins z hz)
    refine k _ _ (.ref t) Ai ((pp.nx fun z hz => .inl (ins z hz))) p2.fh ⟨t, v, w, rfl, upd_same, r.mono e3 pp.ff fun z hz => sub_eq pp.hh (hin z hz), dp_sub p2.ff hw⟩ n2.1 fun z hz => ?_
    exact (pp.fo z (hin z hz)).trans (a.fo z (ins z hz))⟩
theorem XO.proj1 {r : Rp α} {e : Enc γ} {m : Res (α × γ)} (h : XO K mg W S te (rT2 r e) m) : XO K mg W S (tOp (rIxT K) te (tC (.int 0))) r (m.bind fun x => .ok x.1) := fun F H σ A a Q q =>
  h F H σ A a _ ((Post.of_bind q).imp (fun x k v F' H' Av p ⟨t, v1, v2, h1, h2, h3, h4⟩ fr => by
    subst h1
    exact ⟨t, [v1, v2], 0, v1, rfl, rfl, .of (p.fh _ _ h2), rfl, k v1 F' H' Av p h3 fr⟩) fun e z => z)
theorem XO.proj2 {r : Rp α} {e : Enc γ} {m : Res (α × γ)} (h : XO K mg W S te (rT2 r e) m) : XB K mg W S (tOp (rIxT K) te (tC (.int 1))) (vD e) (m.bind fun x => .ok x.2) := fun F H σ A a Q q =>
  h F H σ A a _ ((Post.of_bind q).imp (fun x k v F' H' Av p ⟨t, v1, v2, h1, h2, h3, h4⟩ fr => by
    subst h1
    exact ⟨t, [v1, v2], 1, v2, rfl, rfl, .of (p.fh _ _ h2), rfl, k v2 F' H' p h4⟩) fun e z => z)
end
theorem XB.dec {K : Fg} {mg : Str → Option Value} {W : WX} {S : List Sl} {te : TE} {α : Type} {e : Enc α} {m : Res PyData} {dec : PyData → Option α} (h : XB K mg W S te (vD eA) m) (hd : ∀ y x, dec y = some x → e x = y) : XB K mg W S te (vD e) (m.bind fun y => chk (dec y)) := h.castM (fun y => chk (dec y)) fun y => by
  cases q : dec y with
  | none => trivial
  | some x => exact hd y x q
end TP

set_option Elab.async false
set_option linter.all false
set_option maxRecDepth 100000
set_option maxHeartbeats 4000000
/-! TP, part 27: pop at a place that is told by an expression that changes something. -/
namespace TP
open PySem PySem.Spec L2
section
variable {K : Fg} {mg : Str → Option Value} {W : WX} {S : List Sl} {ta : TE} {ι τ : Type}
theorem XE.popVE {i : Nat} {ρ : Rp (List ι)} {e : Enc ι} [Own ρ (fz e)] {xs0 : List ι} {xs : τ → List ι} {N : τ → List Sl} {mi : Res (Int × τ)} (h0 : S[i]? = some (.val ρ xs0)) (hi : XE K mg W S ta (vD eI) N mi) (hs : ∀ s, (N s)[i]? = some (.val ρ (xs s))) :
    XE K mg W S (tBM K "list" rPopAt (tVar i) (tCons ta tNil)) (vD e) (fun z : τ × List ι => (N z.1).set i (.val ρ z.2)) (mi.bind fun p => (chk (popQ (xs p.2) p.1)).bind fun x => .ok (x.1, (p.2, x.2))) := fun F H σ A a Q q => by
  obtain ⟨v, Ai0, e1, part0⟩ := a.part h0
  refine ⟨v, e1, part_ty part0, hi F H σ A a _ ((Post.of_bind q).imp (fun p k2 w F2 H2 A2 n2 a2 h2 => ?_) fun e z => z)⟩
  obtain ⟨y, ey, k3⟩ := Post.of_chk (Post.of_bind k2)
  obtain ⟨v', Ai, e1', part2⟩ := a2.part (hs p.2)
  rw [e1] at e1'
  cases e1'
  unfold popQ at ey
  split at ey
  · rename_i hj
    cases c : ixN (xs p.2).length p.1 with
    | none =>
      rw [c] at ey
      cases ey
    | some n =>
      rw [c, Option.bind_some] at ey
      cases g : (xs p.2)[n]? with
      | none =>
        rw [g] at ey
        cases ey
      | some x =>
        rw [g] at ey
        cases ey
        obtain ⟨l, vs, e2, hl, dl, md⟩ := Part.lst (e := e) part2
        have el : vs.length = (xs p.2).length := by rw [dpAll_len dl, List.length_map]
        obtain ⟨w', h3, h4⟩ := dpAll_get (i := n) (d := e x) dl (by rw [List.getElem?_map, g]; rfl)
        obtain ⟨A3, a3, n3⟩ := md F2 H2 ((xs p.2).eraseIdx n) (vs.eraseIdx n) (.refl a2.fh) (by
          rw [map_erase]
          exact dpAll_erase n dl)
        exact ⟨l, vs, p.1, n, w', e2, by rw [dp_int h2], hl, by omega, by omega, by rw [el]; exact (ixN_seq c).1, h3, k3 w' F2 _ A3 (n2.trans n3) a3 h4⟩
  · cases ey
end
end TP

set_option Elab.async false
set_option linter.all false
set_option maxRecDepth 100000
set_option maxHeartbeats 4000000
/-! TP, part 28: index of a list of ints. -/
namespace TP
open PySem PySem.Spec L2
theorem kIndex {X : Cx} {K : Fg} (hK : X.K = K) : MtR X "list.index" (rIndex K) := by
  subst hK
  exact mt_index
@[irreducible] def idxQ (xs : List Int) (i : Int) : Option Int := (xs.findIdx? (· == i)).map fun j => (j : Int)
theorem idxQ_ok {xs : List Int} {i : Int} {j : Nat} (h : xs[j]? = some i) (hn : ∀ m, m < j → xs[m]? ≠ some i) : idxQ xs i = some (j : Int) := by
  unfold idxQ
  obtain ⟨hj, e⟩ := List.getElem?_eq_some_iff.mp h
  rw [List.findIdx?_eq_some_iff_getElem.mpr ⟨hj, by simpa using e, fun m hm => by
    have := hn m hm
    rw [List.getElem?_eq_getElem (by omega)] at this
    simpa using this⟩]
  rfl
section
variable {K : Fg} {mg : Str → Option Value} {W : WX} {S : List Sl} {te ta : TE}
theorem XB.lindex {m : Res (List Int)} {mi : Res Int} (h : XB K mg W S te (TP.vL eI) m) (hi : XB K mg W S ta (vD eI) mi) :
    XB K mg W S (tBM K "list" (rIndex K) te (tCons ta tNil)) (vD eI) (m.bind fun xs => mi.bind fun i => chk (idxQ xs i)) := fun F H σ A a Q q =>
  h F H σ A a _ ((Post.of_bind q).imp (fun xs k v F1 H1 p1 u1 => by
    obtain ⟨l, vs, rfl, g1, g2⟩ := u1
    have ev := dpAll_ints g2
    subst ev
    refine ⟨.inl ⟨rfl, _, g1⟩, hi F1 H1 σ A (a.pu p1) _ ((Post.of_bind k).imp (fun i k2 w F2 H2 p2 u2 => ?_) fun e z => z.pu p1)⟩
    obtain ⟨j, ej, k3⟩ := Post.of_chk k2
    unfold idxQ at ej
    cases c : xs.findIdx? (· == i) with
    | none =>
      rw [c] at ej
      cases ej
    | some n =>
      rw [c] at ej
      cases ej
      obtain ⟨hn, e1, e2⟩ := List.findIdx?_eq_some_iff_getElem.mp c
      rw [dp_int u2]
      refine ⟨l, xs.map V.int, .int i, n, .int xs[n], rfl, rfl, sqL_sub p2.hh g1, rfl, ?_, ?_, ?_, ?_, k3 _ F2 H2 (p1.trans p2) (.int _)⟩
      · rw [List.all_eq_true]
        intro y hy
        obtain ⟨z, _, rfl⟩ := List.mem_map.mp hy
        rfl
      · rw [List.getElem?_map, List.getElem?_eq_getElem hn]
        rfl
      · exact e1
      · intro m z' hm hz
        rw [List.getElem?_map, List.getElem?_eq_getElem (by omega)] at hz
        cases hz
        have := e2 m hm
        show (xs[m] == i) = false
        simpa using this) fun e z => z)
end
end TP

set_option Elab.async false
set_option linter.all false
set_option maxRecDepth 100000
set_option maxHeartbeats 4000000
set_option autoImplicit false
/-! TP, part 29: dicts whose keys are tuples of ints; the machine's rules. -/
namespace TP
open PySem PySem.Spec PyProof.Rows L2

/-! ### the dict's object -/
abbrev kT (P : Program) (w : World) : HeapKind P w (List Key) := tupleKind (mixKind P w)
/-- keys, where they stand, values -/
abbrev KT3 : List (List Int × Addr × V) → List (List Key × Addr × Value) → Prop := Paired fun p q => p.1.map Sum.inl = q.1 ∧ p.2.1 = q.2.1 ∧ RelV p.2.2 q.2.2
def DtX (P : Program) (w : World) (h : Heap) (a : Addr) (xs : List (List Int × Addr × V)) : Prop :=
  xs.length ≤ sizeLine ∧ (a == sysModules) = false ∧ ∃ ys, KT3 xs ys ∧ ∃ o es ep, h.get? a = some o ∧ o.ExactDict ∧ o.data = .dict es ep ∧ es.toList = ys.map (entryOfKey (kT P w)) ∧ (ys.map (·.1)).Nodup
def DtO (P : Program) (w : World) (a : Addr) (xs : List (List Int × Addr × V)) : HO := .ext fun h => DtX P w h a xs
theorem dtO_ok {P : Program} {w : World} {H : Hp} {h : Heap} {a : Addr} {xs : List (List Int × Addr × V)} (x : DtX P w h a xs) : ObjOk P w H h a (DtO P w a xs) := by
  obtain ⟨z, hd, ys, r, o, es, ep, h1, h2⟩ := x
  refine ⟨⟨z, hd, ys, r, o, es, ep, h1, h2⟩, ⟨o, h1⟩, fun h1 h2 p k => ?_⟩
  obtain ⟨z, hd, ys, r, o, es, ep, g1, g2⟩ := p
  exact ⟨z, hd, ys, r, o, es, ep, k o g1, g2⟩
theorem inl_inj : ∀ {a b : List Int}, (a.map Sum.inl : List Key) = b.map Sum.inl → a = b
  | [], [], _ => rfl
  | [], _ :: _, e => by simp at e
  | _ :: _, [], e => by simp at e
  | x :: xs, y :: ys, e => by
    rw [List.map_cons, List.map_cons] at e
    injection e with e1 e2
    injection e1 with e1
    rw [e1, inl_inj e2]
/-- what stands at a key -/
def getX (xs : List (List Int × Addr × V)) (k : List Int) : Option V := (xs.find? fun x => decide (x.1 = k)).map (·.2.2)
def putX (xs : List (List Int × Addr × V)) (k : List Int) (b : Addr) (v : V) : List (List Int × Addr × V) :=
  if (getX xs k).isSome = true then xs.map (fun x => if x.1 = k then (x.1, x.2.1, v) else x) else xs ++ [(k, b, v)]
theorem KT3.get {xs : List (List Int × Addr × V)} {ys : List (List Key × Addr × Value)} (r : KT3 xs ys) (k : List Int) : RelO (getX xs k) ((atKey ys (k.map Sum.inl)).map (·.2)) := by
  induction r with
  | nil => exact True.intro
  | @cons p q ps qs h t ih =>
    obtain ⟨h1, h2, h3⟩ := h
    by_cases e : p.1 = k
    · have e' : q.1 = k.map Sum.inl := by rw [← h1, e]
      have a1 : getX (p :: ps) k = some p.2.2 := by simp [getX, List.find?_cons, e]
      have b : atKey (q :: qs) (k.map Sum.inl) = some q.2 := by simp [atKey, List.find?_cons, e']
      rw [a1, b]
      exact h3
    · have e' : ¬ q.1 = k.map Sum.inl := fun z => e (inl_inj (h1.trans z))
      have a1 : getX (p :: ps) k = getX ps k := by simp [getX, List.find?_cons, e]
      have b : atKey (q :: qs) (k.map Sum.inl) = atKey qs (k.map Sum.inl) := by simp [atKey, List.find?_cons, e']
      rw [a1, b]
      exact ih
theorem KT3.repl {xs : List (List Int × Addr × V)} {ys : List (List Key × Addr × Value)} (r : KT3 xs ys) (k : List Int) {y : V} {u : Value} (ry : RelV y u) :
    KT3 (xs.map fun x => if x.1 = k then (x.1, x.2.1, y) else x) (ys.map (putAt (k.map Sum.inl) u)) := by
  induction r with
  | nil => exact .nil
  | @cons p q ps qs h t ih =>
    rw [List.map_cons, List.map_cons]
    refine .cons ?_ ih
    obtain ⟨h1, h2, h3⟩ := h
    unfold putAt
    by_cases e : p.1 = k
    · rw [if_pos e, if_pos (by rw [← h1, e])]
      exact ⟨h1, h2, ry⟩
    · rw [if_neg e, if_neg (fun z => e (inl_inj (h1.trans z)))]
      exact ⟨h1, h2, h3⟩
theorem KT3.put {xs : List (List Int × Addr × V)} {ys : List (List Key × Addr × Value)} (r : KT3 xs ys) (k : List Int) (b : Addr) {y : V} {u : Value} (ry : RelV y u) :
    KT3 (putX xs k b y) (storedH ys (k.map Sum.inl) b u) := by
  unfold putX storedH
  have e : (getX xs k).isSome = (atKey ys (k.map Sum.inl)).isSome := by
    rw [(r.get k).isSome_eq, Option.isSome_map]
  rw [e]
  by_cases q : (atKey ys (k.map Sum.inl)).isSome = true
  · rw [if_pos q, if_pos q]
    exact r.repl k ry
  · rw [if_neg q, if_neg q]
    exact Paired.snoc r ⟨rfl, rfl, ry⟩
theorem putX_len (xs : List (List Int × Addr × V)) (k : List Int) (b : Addr) (v : V) : (putX xs k b v).length ≤ xs.length + 1 := by
  unfold putX
  split
  · rw [List.length_map]
    omega
  · rw [List.length_append]
    exact Nat.le_refl _
/-- the keys stand -/
def KeysT (K : Fg) (H : Hp) (xs : List (List Int × Addr × V)) : Prop := ∀ x ∈ xs, SqT K H x.2.1 (x.1.map V.int)
theorem int_kV (ns : List Int) : ns.map V.int = (ns.map Sum.inl : List Key).map kV := by
  rw [List.map_map]
  rfl
section
variable {X : Cx} {pins : List (Addr × Obj)} {σ : L2.St} {H : Hp} {s : Shared} {a : Addr} {xs : List (List Int × Addr × V)}
theorem inv_key (I : Inv X pins σ H s) {b : Addr} {ns : List Int} (h : SqT X.K H b (ns.map V.int)) : (kT X.prog X.w).is s.heap (ns.map Sum.inl) b := by
  obtain ⟨its, r, pl, hz⟩ := I.tuple h
  obtain ⟨o, h1, h2, n, h3⟩ := pl
  rw [int_kV] at r
  exact ⟨o, its.toArray, n, h1, h2, h3, by simpa using items_are r⟩
theorem KT3.mem {xs : List (List Int × Addr × V)} {ys : List (List Key × Addr × Value)} (r : KT3 xs ys) : ∀ y ∈ ys, ∃ x ∈ xs, x.1.map Sum.inl = y.1 ∧ x.2.1 = y.2.1 := by
  induction r with
  | nil => exact fun y hy => by cases hy
  | @cons p q ps qs h t ih =>
    intro y hy
    rcases List.mem_cons.mp hy with e | e
    · subst e
      exact ⟨p, List.mem_cons_self, h.1, h.2.1⟩
    · obtain ⟨x, hx, g⟩ := ih y e
      exact ⟨x, List.mem_cons_of_mem _ hx, g⟩
theorem inv_dt (I : Inv X pins σ H s) (e : H a = some (DtO X.prog X.w a xs)) (hk : KeysT X.K H xs) : xs.length ≤ sizeLine ∧ (a == sysModules) = false ∧ ∃ ys, KT3 xs ys ∧ s.heap.DictOfH (kT X.prog X.w) a ys := by
  obtain ⟨⟨z, hd, ys, r, o, es, ep, h1, h2, h3, h4, h5⟩, _⟩ := (show ObjOk X.prog X.w H s.heap a (DtO X.prog X.w a xs) from I.hok a _ e)
  refine ⟨z, hd, ys, r, o, es, ep, h1, h2, h3, h4, fun y hy => ?_, h5⟩
  obtain ⟨x, hx, g1, g2⟩ := r.mem y hy
  rw [← g1, ← g2]
  exact inv_key I (hk x hx)
theorem dt_new {P : Program} {w : World} {H' : Hp} {h' : Heap} {xs : List (List Int × Addr × V)} {ys : List (List Key × Addr × Value)} (z : xs.length ≤ sizeLine) (hd : (a == sysModules) = false) (rel : KT3 xs ys) (dd : h'.DictOfH (kT P w) a ys) :
    ObjOk P w H' h' a (DtO P w a xs) := by
  obtain ⟨o, es, ep, h1, h2, h3, h4, _, h5⟩ := dd
  exact dtO_ok ⟨z, hd, ys, rel, o, es, ep, h1, h2, h3, h4, h5⟩
end

/-! ### new ones -/
def tDNewX (P : Program) (w : World) : TE := fun _ H Q => ∀ p, H p = none → Q (.ref p) (upd H p (DtO P w p []))
theorem dtx_empty {P : Program} {w : World} {H : Hp} (h : Heap) (hb : sysModules < h.objs.size) : ObjOk P w H (h.push { cls := .type "dict", data := .dict #[] }) h.objs.size (DtO P w h.objs.size []) :=
  dtO_ok ⟨Nat.zero_le _, beq_eq_false_iff_ne.mpr (Ne.symm (Nat.ne_of_lt hb)), [], .nil, _, #[], 0, Heap.get?_push_size _ rfl, ⟨rfl, rfl, rfl⟩, rfl, rfl, List.nodup_nil⟩
theorem pe_dnewX {X : Cx} {P : Program} {w : World} {pos : Pos} (hP : X.prog = P) (hw : X.w = w) : PE X (.Dict [] [] pos) (tDNewX P w) := by
  subst hP hw
  exact ⟨fun pins s σ H Q I h =>
    wpAny_Dict_empty ⟨.ref s.heap.objs.size, _, I.laid (a := s.heap.objs.size) (o := DtO X.prog X.w s.heap.objs.size []) (t' := s.toks) (fun _ _ q => Heap.get?_push_of_some _ q) (Nat.le_refl _) (dtx_empty s.heap I.big), rfl, h _ (I.hok.fresh (Nat.le_refl _))⟩⟩
/-- {k: v} -/
def tDisp1X (P : Program) (w : World) (K : Fg) (tk tv : TE) : TE := fun σ H Q => ∀ p, H p = none → tk σ (upd H p (DtO P w p [])) fun x H1 => tv σ H1 fun y H2 => H2 p = some (DtO P w p []) ∧
  ∃ b ns, x = .ref b ∧ SqT K H2 b (ns.map V.int) ∧ Q (.ref p) (upd H2 p (DtO P w p [(ns, b, y)]))
theorem pe_disp1X {X : Cx} {P : Program} {w : World} {K : Fg} {k v : Expr} {pos : Pos} {tk tv : TE} (hP : X.prog = P) (hw : X.w = w) (hK : X.K = K) (hu : X.A.units + 100 < cLine) (hk : PE X k tk) (hv : PE X v tv) :
    PE X (.Dict [some k] [v] pos) (tDisp1X P w K tk tv) := by
  subst hP hw hK
  refine ⟨fun pins s σ H Q I q => ?_⟩
  have hn := I.hok.fresh (Nat.le_refl s.heap.objs.size)
  have I1 := I.laid (a := s.heap.objs.size) (o := DtO X.prog X.w s.heap.objs.size []) (h' := s.heap.push { cls := .type "dict", data := .dict #[] }) (t' := s.toks) (fun _ _ q => Heap.get?_push_of_some _ q) (Nat.le_refl _) (dtx_empty s.heap I.big)
  have hs := zip_pairTrees [some k] [v] X.env pos rfl rfl
  rw [arm_eval_Dict, hs, dictDisplay_pairs (pairTrees [some k] [v] X.env pos) (by
    intro he
    have := pairTrees_length [some k] [v] X.env pos rfl rfl
    rw [he] at this
    cases this) (by rw [pairTrees_length [some k] [v] X.env pos rfl rfl]; show 1 < 17; decide)]
  refine wpAny_bind (wpAny_standAt (wpAny_bind (wpAny_subDictH (knd := kT X.prog X.w) (show X.A.units < cLine by omega) (by rw [pairTrees_length [some k] [v] X.env pos rfl rfl]; show 1 ≤ 15; decide) ?_)))
  refine pairTrees_cons_walk (thn (hk.run pins _ σ _ _ I1 (q _ hn)) fun u s1 ⟨x, H1, I1', rx, q1⟩ => thn (hv.run pins s1 σ H1 _ I1' q1) fun w2 s2 ⟨y, H2, I2, ry, e, b, ns, ex, hb, q2⟩ => pairTrees_nil_walk ?_)
  subst ex
  obtain rfl : u = Value.ref b := rx
  obtain ⟨z, hd, ys, r0, dd⟩ := inv_dt I2 e (fun x hx => by cases hx)
  cases r0
  refine ⟨[(ns.map Sum.inl, b, w2)], ⟨rfl, rfl, inv_key I2 hb, trivial⟩, dd, fun h' tk dd' hs' => wpAny_pure ⟨.ref s.heap.objs.size, _, ?_, rfl, q2⟩⟩
  have he : ∃ q, h'.get? s.heap.objs.size = some q := let ⟨q, _, _, hq, _⟩ := dd'; ⟨q, hq⟩
  refine d_write I2 (by rw [e]; exact True.intro) hs' he (dt_new (ys := [(ns.map Sum.inl, b, w2)]) (by rw [List.length_singleton, sizeLine_eq]; decide) hd (.cons ⟨rfl, rfl, ry⟩ .nil) dd')

/-! ### in, get, put, len -/
/-- y in d -/
def rDInX (P : Program) (w : World) (K : Fg) (neg : Bool) : R2 := fun y x H Q => ∃ a xs b ns, x = .ref a ∧ H a = some (DtO P w a xs) ∧ KeysT K H xs ∧ y = .ref b ∧ SqT K H b (ns.map V.int) ∧ Q (.bl (neg != (getX xs ns).isSome)) H
theorem op_dinX {X : Cx} {P : Program} {w : World} {K : Fg} (hP : X.prog = P) (hw : X.w = w) (hK : X.K = K) (hu : X.A.units + 100 < cLine) : OpR X (compareOp .In) (rDInX P w K false) := by
  subst hP hw hK
  intro pins s σ H y x u v Q I ry rx h
  obtain ⟨a, xs, b, ns, rfl, e, hk, rfl, hb, q⟩ := h
  cases ry
  cases rx
  obtain ⟨z, hd, ys, rel, dd⟩ := inv_dt I e hk
  refine wpAny_in_heap (tupleKind_room_in1 (by omega)) (inv_key I hb) hd dd ⟨.bl _, H, I.tok _, ?_, q⟩
  have := (rel.get ns).isSome_eq
  rw [Option.isSome_map] at this
  show Value.bool _ = Value.bool _
  rw [← this]
  cases (getX xs ns).isSome <;> rfl
theorem op_dniX {X : Cx} {P : Program} {w : World} {K : Fg} (hP : X.prog = P) (hw : X.w = w) (hK : X.K = K) (hu : X.A.units + 100 < cLine) : OpR X (compareOp .NotIn) (rDInX P w K true) := by
  subst hP hw hK
  intro pins s σ H y x u v Q I ry rx h
  obtain ⟨a, xs, b, ns, rfl, e, hk, rfl, hb, q⟩ := h
  cases ry
  cases rx
  obtain ⟨z, hd, ys, rel, dd⟩ := inv_dt I e hk
  refine wpAny_notIn_heap (tupleKind_room_in1 (by omega)) (inv_key I hb) hd dd ⟨.bl _, H, I.tok _, ?_, q⟩
  have := (rel.get ns).isSome_eq
  rw [Option.isSome_map] at this
  show Value.bool _ = Value.bool _
  rw [← this]
  cases (getX xs ns).isSome <;> rfl
/-- d[y] -/
def tDGetX (P : Program) (w : World) (K : Fg) (td ty : TE) : TE := fun σ H Q => td σ H fun x H1 => ty σ H1 fun y H2 => ∃ a xs b ns v, x = .ref a ∧ H2 a = some (DtO P w a xs) ∧ KeysT K H2 xs ∧ y = .ref b ∧ SqT K H2 b (ns.map V.int) ∧ getX xs ns = some v ∧ Q v H2
theorem pe_dgetX {X : Cx} {P : Program} {w : World} {K : Fg} {o i : Expr} {pos : Pos} {td ty : TE} (hP : X.prog = P) (hw : X.w = w) (hK : X.K = K) (hu : X.A.units + 100 < cLine) (ho : PE X o td) (hi : PE X i ty) (hs : NoSl i) : PE X (.Subscript o i pos) (tDGetX P w K td ty) := by
  subst hP hw hK
  refine ⟨fun pins s σ H Q I h => ?_⟩
  refine subD_of PySem.F.slot_dict_getitem.lookup hs (thn (ho.run pins s σ H _ I h) fun u s1 ⟨x, H1, I1, rx, q1⟩ => thn (hi.run pins s1 σ H1 _ I1 q1) fun iv s2 ⟨y, H2, I2, ry, a, xs, b, ns, v, ex, e, hk, ey, hb, g, q2⟩ => ?_)
  subst ex ey
  obtain rfl : u = Value.ref a := rx
  obtain rfl : iv = Value.ref b := ry
  obtain ⟨z, hd, ys, rel, dd⟩ := inv_dt I2 e hk
  obtain ⟨w', hw', rw'⟩ := RelO.some_of (v := v) (o := (atKey ys (ns.map Sum.inl)).map (·.2)) (by rw [← g]; exact rel.get ns)
  obtain ⟨p, hp, hp2⟩ := Option.map_eq_some_iff.mp hw'
  refine ⟨dd.typeIs, wpAny_getItem_heap (tupleKind_room_in1 (by omega)) (inv_key I2 hb) dd hp ?_⟩
  rw [hp2]
  exact ⟨v, H2, I2.tok _, rw', q2⟩
/-- d[y] = v -/
def sDPutX (P : Program) (w : World) (K : Fg) (td ty tv : TE) : TS := fun D σ H => tv σ H fun v H1 => td σ H1 fun x H2 => ty σ H2 fun y H3 => ∃ a xs b ns, x = .ref a ∧ H3 a = some (DtO P w a xs) ∧ KeysT K H3 xs ∧ xs.length < sizeLine ∧ y = .ref b ∧ SqT K H3 b (ns.map V.int) ∧
  D.nx σ (upd H3 a (DtO P w a (putX xs ns b v)))
theorem dt_setItem {X : Cx} {pins : List (Addr × Obj)} {σ : L2.St} {H : Hp} {s : Shared} {a b : Addr} {xs : List (List Int × Addr × V)} {ns : List Int} {v : V} {r : Value} {E : Value → Shared → Prop} {Q : Unit → Shared → Prop} (hu : X.A.units + 100 < cLine) (I : Inv X pins σ H s)
    (e : H a = some (DtO X.prog X.w a xs)) (hk : KeysT X.K H xs) (l : xs.length < sizeLine) (hb : SqT X.K H b (ns.map V.int)) (rv : RelV v r) (h : ∀ s', Inv X pins σ (upd H a (DtO X.prog X.w a (putX xs ns b v))) s' → Q () s') :
    wpAny (model X.prog X.w) X.A (setItem (.ref a) (.ref b) r) Q E s := by
  obtain ⟨z, hd, ys, rel, dd⟩ := inv_dt I e hk
  have hz : ys.length ≤ sizeLine := by rw [← Paired.length rel]; exact z
  have hl : (putX xs ns b v).length ≤ sizeLine := by have := putX_len xs ns b v; omega
  refine wpAny_setItem_heap (hsz := hz) (tupleKind_room_in1 (by omega)) (inv_key I hb) dd fun h' dd' hs => h _ ?_
  have he : ∃ q, h'.get? a = some q := let ⟨q, _, _, hq, _⟩ := dd'; ⟨q, hq⟩
  exact d_write I (by rw [e]; exact True.intro) hs he (dt_new hl hd (rel.put ns b rv) dd')
theorem ps_dputX {X : Cx} {P : Program} {w : World} {K : Fg} {o i value : Expr} {pos pos' : Pos} {td ty tv : TE} (hP : X.prog = P) (hw : X.w = w) (hK : X.K = K) (hu : X.A.units + 100 < cLine) (ho : PE X o td) (hi : PE X i ty) (hv : PE X value tv) (hs : swapsWith value (some (.Subscript o i pos')) pos.line X.env = pure false) :
    PS X (.Assign [.Subscript o i pos'] value pos) (sDPutX P w K td ty tv) := by
  subst hP hw hK
  refine ⟨fun pins s σ H D I h => ?_⟩
  refine wpAny_Assign_Subscript (thn (hv.run pins s σ H _ I h) fun r s1 ⟨v, H1, I1, rv, q1⟩ => thn (ho.run pins s1 σ H1 _ I1 q1) fun u s2 ⟨x, H2, I2, rx, q2⟩ => thn (hi.run pins s2 σ H2 _ I2 q2) fun iv s3 ⟨y, H3, I3, ry, a, xs, b, ns, ex, e, hk, l, ey, hb, q3⟩ => ?_) hs
  subst ex ey
  obtain rfl : u = Value.ref a := rx
  obtain rfl : iv = Value.ref b := ry
  exact dt_setItem hu I3 e hk l hb rv fun s4 I4 => ⟨σ, _, I4, q3⟩
theorem inv_dtRaw {X : Cx} {pins : List (Addr × Obj)} {σ : L2.St} {H : Hp} {s : Shared} {a : Addr} {xs : List (List Int × Addr × V)} (I : Inv X pins σ H s) (e : H a = some (DtO X.prog X.w a xs)) :
    xs.length ≤ sizeLine ∧ (a == sysModules) = false ∧ ∃ es ep, s.heap.DictRaw a es ep ∧ es.size = xs.length ∧ ∀ i (hi : i < es.size) (hx : i < xs.length), es[i].key = .ref xs[i].2.1 := by
  obtain ⟨⟨z, hd, ys, r, o, es, ep, h1, h2, h3, h4, h5⟩, _⟩ := (show ObjOk X.prog X.w H s.heap a (DtO X.prog X.w a xs) from I.hok a _ e)
  have hl : es.size = xs.length := by
    rw [← Array.length_toList, h4, List.length_map, Paired.length r]
  refine ⟨z, hd, es, ep, ⟨o, h1, h2, h3⟩, hl, fun i hi hx => ?_⟩
  have hy : i < ys.length := by rw [← Paired.length r]; exact hx
  have gen : ∀ {xs : List (List Int × Addr × V)} {ys : List (List Key × Addr × Value)}, KT3 xs ys → ∀ (i : Nat) (hx : i < xs.length) (hy : i < ys.length), xs[i].2.1 = ys[i].2.1 := by
    intro xs ys r
    induction r with
    | nil => intro i hx; exact absurd hx (Nat.not_lt_zero _)
    | @cons p q ps qs h t ih =>
      intro i hx hy
      cases i with
      | zero => exact h.2.1
      | succ i => exact ih i (by simpa using hx) (by simpa using hy)
  rw [gen r i hx hy]
  have e1 : es[i]? = (ys.map (entryOfKey (kT X.prog X.w)))[i]? := by rw [← h4, Array.getElem?_toList]
  rw [Array.getElem?_eq_getElem hi, List.getElem?_map, List.getElem?_eq_getElem hy] at e1
  rw [Option.some.inj e1]
  rfl
/-- len(d) -/
def rDLenX (P : Program) (w : World) : List V → Hp → VK → Prop := fun vs H Q => ∃ a xs, vs = [.ref a] ∧ H a = some (DtO P w a xs) ∧ Q (.int xs.length) H
theorem cr_dlenX {X : Cx} {P : Program} {w : World} (hP : X.prog = P) (hw : X.w = w) : CallR X (.builtin "len") (rDLenX P w) := by
  subst hP hw
  intro pins s σ H vs us Q I r h
  obtain ⟨a, xs, rfl, e, q⟩ := h
  rw [Vals.ref1 r]
  obtain ⟨z, hd, es, ep, hm, hl, _⟩ := inv_dtRaw I e
  have z' := z
  rw [sizeLine_eq] at z'
  refine Calls.call_function_entry kind_len plain_len entry_len (args_len1 _) ?_
  unfold Builtin.«len»
  refine wpAny_bind (m := oneArg "len" _) (wpAny_pure ?_)
  refine wpAny_bind (m := callSpecial? (.ref a) (Str.ofString "__len__")) (wpAny_callSpecial?_slot (name := Str.ofString "__len__") hm.typeIs F.slot_dict_len (call_len_raw hd hm ?_))
  show wpAny _ _ _ _ _ { s with toks := s.toks + 1 }
  refine wpAny_bind (wpAny_holding (wpAny_pure ?_))
  refine wpAny_bind (wpAny_letGo ?_)
  show wpAny _ _ (if ((es.size : Nat) : Int) < 0 then _ else _) _ _ _
  rw [if_neg (by omega)]
  show wpAny _ _ (if ((es.size : Nat) : Int) ≥ 2 ^ 63 then _ else _) _ _ _
  rw [if_neg (by omega)]
  exact wpAny_bind (wpAny_mkInt (wpAny_pure ⟨_, rfl, .int xs.length, H, I.tok _, ⟨s.toks + 1, by rw [hl]⟩, q⟩))

/-! ### sorted of what is collected -/
/-- sorted(d): the keys, read as data -/
def rSortX (P : Program) (w : World) (K : Fg) : List V → Hp → VK → Prop := fun vs H Q => ∃ (a : Addr) (xs : List (List Int × Addr × V)) (ds : List PyData), vs = [.ref a] ∧ H a = some (DtO P w a xs) ∧ DpAll K H (xs.map fun x => V.ref x.2.1) ds ∧ PySem.W.AllAlike ds ∧ PySem.W.Sortable ds ∧ (∀ d ∈ ds, d.depth ≤ 64) ∧
  ∀ ys p, PySem.W.EachIs (fun y d => (y, d) ∈ (xs.map fun x => V.ref x.2.1).zip ds) ys (ds.mergeSort (PySem.W.dataLe false id)) → H p = none → Q (.ref p) (upd H p (.lst ys))
theorem vals_refs : ∀ (as : List Addr), Vals (as.map V.ref) (as.map Value.ref)
  | [] => .nil
  | a :: as => .cons rfl (vals_refs as)
/-- sorted of what is collected, as it is or turned about -/
theorem sorted_gen {X : Cx} {pins : List (Addr × Obj)} {σ : L2.St} {H : Hp} {s : Shared} {a : Addr} {b : Bool} {Q : VK} {kw : List (Str × Value)} (hkw : (kw = [] ∧ b = false) ∨ kw = [(Str.ofString "reverse", .bool b)]) (hu : X.A.units + 100 < cLine)
    (hcol : ∀ (E : Value → Shared → Prop) (R : List Value → Shared → Prop), (∀ (s' : Shared) (us : List Value) (vs : List V) (ds : List PyData), Inv X pins σ H s' → Vals vs us → DpAll X.K H vs ds → PySem.W.AllAlike ds → PySem.W.Sortable ds → (∀ d ∈ ds, d.depth ≤ 64) → vs.length ≤ sizeLine →
      (∀ ys p, PySem.W.EachIs (fun y d => (y, d) ∈ vs.zip ds) ys (ds.mergeSort (PySem.W.dataLe b id)) → H p = none → Q (.ref p) (upd H p (.lst ys))) → R us s') → wpAny (model X.prog X.w) X.A.in1 (collect (.ref a)) R E s) :
    wpAny (model X.prog X.w) X.A (call (.builtin "sorted") [.ref a] kw) (EP X pins σ Q) X.xe s := by
  refine call_function_entry_kw PyProof.Rows.kind_sorted PyProof.Rows.plain_sorted PyProof.Rows.entry_sorted (by
    rcases hkw with ⟨rfl, _⟩ | rfl
    · exact PyProof.Rows.args_sorted1 _
    · exact PyProof.Rows.args_sorted_rev _ _) ?_
  unfold Builtin.«sorted»
  refine wpAny_bind (m := checkCount "sorted" 1 1 _) (wpAny_pure ?_)
  refine wpAny_bind (hcol _ _ fun s' us vs ds I1 rv hdp al sb dp z q => ?_)
  obtain ⟨h', g', d', tk, os'⟩ := s'
  have ul : us.length = vs.length := rv.length.symm
  refine wpAny_bind (wpAny_newList ?_ (by rw [ul]; exact z))
  have hoL : (h'.push (seqObj "list" us.toArray 0)).get? h'.objs.size = some (seqObj "list" us.toArray 0) := Heap.get?_push_size _ rfl
  show wpAny _ _ _ _ _ ⟨h'.push (seqObj "list" us.toArray 0), g', d', tk, os'⟩
  have kp : ∀ b o, h'.get? b = some o → (h'.push (seqObj "list" us.toArray 0)).get? b = some o := fun b o e => Heap.get?_push_of_some _ e
  obtain ⟨as, rs⟩ := Dp.readsAll I1 ds vs _ hdp rv
  have el : vs.length = ds.length := dpAll_len hdp
  have er : PySem.W.EachIs (fun v b => ∃ as, Reads (h'.push (seqObj "list" us.toArray 0)) v (id b) as ∧ h'.objs.size ∉ as) us ds := by
    have gen : ∀ {vs : List Value} {ds : List PyData} {as : List Addr}, ReadsAll h' vs ds as → PySem.W.EachIs (fun v b => ∃ as, Reads (h'.push (seqObj "list" us.toArray 0)) v (id b) as ∧ h'.objs.size ∉ as) vs ds := by
      intro vs ds as r
      induction ds generalizing vs as with
      | nil =>
        cases r
        exact .nil
      | cons d ds ih =>
        cases r with
        | cons r1 r2 =>
          refine .cons ⟨_, Reads.keeps kp r1, fun hm => ?_⟩ (ih r2)
          obtain ⟨o, ho⟩ := PyProof.On.reads_mem_get r1 _ hm
          exact absurd (Heap.lt_size ho) (Nat.lt_irrefl _)
    exact gen rs
  have body : ∀ {E : Value → Shared → Prop} {Q' : Value → Shared → Prop}, (∀ out, out.length = ds.length → PySem.W.EachIs (fun u d => ∃ y, RelV y u ∧ (y, d) ∈ vs.zip ds) out (ds.mergeSort (PySem.W.dataLe b id)) → Q' .none ⟨sortedHeap (h'.push (seqObj "list" us.toArray 0)) h'.objs.size us out.toArray, g', d', tk, os'⟩) →
      wpAny (model X.prog X.w) X.A.in1 (call (.builtin "list.sort") [.ref h'.objs.size] kw) Q' E ⟨h'.push (seqObj "list" us.toArray 0), g', d', tk, os'⟩ := by
    intro E Q' hQ
    have hd : ∀ d, d ∈ ds → X.A.in1.units + 1 + (id d).depth < cLine := fun d hd => by
      have := dp d hd
      show X.A.in1.units + 1 + d.depth < cLine
      have e1 : X.A.in1.units ≤ X.A.units + 1 := Nat.le_refl _
      omega
    rcases hkw with ⟨rfl, rfl⟩ | rfl
    · exact PySem.W.list_sort_data (s := ⟨h'.push (seqObj "list" us.toArray 0), g', d', tk, os'⟩) (enc := id) hoL (each_zip rv el) er (by simpa using al) (by simpa using sb) (by rw [← el]; exact z) hd hQ
    · exact PySem.W.list_sort_rev_data (s := ⟨h'.push (seqObj "list" us.toArray 0), g', d', tk, os'⟩) (enc := id) hoL (each_zip rv el) er (by simpa using al) (by simpa using sb) (by rw [← el]; exact z) hd hQ
  refine wpAny_bind (wpAny_holding (body fun out ho eo => ?_))
  obtain ⟨ys, e1, e2⟩ := each_vals eo
  obtain ⟨e', he'⟩ := PyProof.Rows.sortedHeap_at (vs := us) (out := out.toArray) hoL
  have hlen : ys.length ≤ sizeLine := by rw [e1.length, ho, ← el]; exact z
  refine wpAny_pure ⟨_, rfl, .ref h'.objs.size, upd H h'.objs.size (.lst ys), I1.laid (t' := tk) (fun b u e => ?_) (Nat.le_refl _) (show ObjOk X.prog X.w _ _ _ (.lst ys) from ⟨hlen, out, e', e1, he'⟩), rfl, q ys _ e2 (I1.hok.fresh (Nat.le_refl _))⟩
  have hb : b < h'.objs.size := Heap.lt_size e
  rw [PyProof.Rows.sortedHeap_old (Nat.ne_of_lt hb) (by rw [size_push']; exact Nat.lt_succ_of_lt hb)]
  exact Heap.get?_push_of_some _ e
theorem cr_sortX {X : Cx} {P : Program} {w : World} {K : Fg} (hP : X.prog = P) (hw : X.w = w) (hK : X.K = K) (hc : X.calm = true) (hu : X.A.units + 100 < cLine) : CallR X (.builtin "sorted") (rSortX P w K) := by
  subst hP hw hK
  intro pins s σ H vs us Q I r h
  obtain ⟨a, xs, ds, rfl, e, hdp, al, sb, dp, q⟩ := h
  rw [Vals.ref1 r]
  obtain ⟨z, lo, es, ep, hm, hl, hkey⟩ := inv_dtRaw I e
  refine sorted_gen (H := H) (kw := []) (.inl ⟨rfl, rfl⟩) hu fun E R hR => ?_
  have rv : Vals (xs.map fun x => V.ref x.2.1) (xs.map fun x => Value.ref x.2.1) := by
    have := vals_refs (xs.map fun x => x.2.1)
    rw [List.map_map, List.map_map] at this
    exact this
  refine PySem.W.kdu_collect (A := X.A.in1) (KdlSrc.rawDict lo) (I.ok.hd hc) hm (by rw [hl]; exact z) fun h' tk acc hk hacc => ?_
  have ha : acc.toList = xs.map fun x => Value.ref x.2.1 := by
    refine List.ext_getElem? fun i => ?_
    by_cases hi : i < acc.toList.length
    · have hi2 : i < es.size := by rw [Array.length_toList, hacc.1] at hi; exact hi
      obtain ⟨_, ev⟩ := hacc.2 i acc.toList[i] (by rw [← Array.getElem?_toList, List.getElem?_eq_getElem hi])
      rw [List.getElem?_eq_getElem hi, ev, hkey i hi2 (by omega), List.getElem?_map, List.getElem?_eq_getElem (by omega)]
      rfl
    · rw [Array.length_toList, hacc.1] at hi
      rw [List.getElem?_eq_none (by rw [Array.length_toList, hacc.1]; omega), List.getElem?_eq_none (by rw [List.length_map]; omega)]
  rw [ha]
  exact hR _ _ _ _ (I.kept hk) rv hdp al sb dp (by rw [List.length_map]; exact z) q
theorem inv_sqAt {X : Cx} {pins : List (Addr × Obj)} {σ : L2.St} {H : Hp} {s : Shared} (I : Inv X pins σ H s) {a : Addr} {xs : List V} (h : Sq X.K H a xs) : ∃ (us : List Value) (T : String) (o : Obj) (n : Nat), Vals xs us ∧ xs.length ≤ sizeLine ∧ (T = "list" ∨ T = "tuple") ∧ s.heap.get? a = some o ∧ o.cls = .type T ∧ o.data = .seq us.toArray n := by
  rcases h with h | h
  · obtain ⟨its, r, pl, hz⟩ := I.list h
    obtain ⟨o, n, h1, h2, h3, h4⟩ := pl
    exact ⟨its, "list", o, _, r, hz, .inl rfl, h1, h2, h4⟩
  · obtain ⟨its, r, pl, hz⟩ := I.tuple h
    obtain ⟨o, h1, h2, n, h3⟩ := pl
    exact ⟨its, "tuple", o, n, r, hz, .inr rfl, h1, h2, h3⟩
/-- sorted of a list or tuple -/
def rSortS (rev : Bool) (K : Fg) : List V → Hp → VK → Prop := fun vs H Q => ∃ (a : Addr) (xs : List V) (ds : List PyData), vs = [.ref a] ∧ Sq K H a xs ∧ DpAll K H xs ds ∧ PySem.W.AllAlike ds ∧ PySem.W.Sortable ds ∧ (∀ d ∈ ds, d.depth ≤ 64) ∧
  ∀ ys p, PySem.W.EachIs (fun y d => (y, d) ∈ xs.zip ds) ys (ds.mergeSort (PySem.W.dataLe rev id)) → H p = none → Q (.ref p) (upd H p (.lst ys))
theorem kSortS {X : Cx} {K : Fg} (hK : X.K = K) (hu : X.A.units + 100 < cLine) : CallR X (.builtin "sorted") (rSortS false K) := by
  subst hK
  intro pins s σ H vs us Q I r h
  obtain ⟨a, xs, ds, rfl, e, hdp, al, sb, dp, q⟩ := h
  rw [Vals.ref1 r]
  obtain ⟨us, T, o, n, rv, z, hT, h1, h2, h3⟩ := inv_sqAt I e
  exact sorted_gen (H := H) (kw := []) (.inl ⟨rfl, rfl⟩) hu fun E R hR => wpAny_collect_seq a hT h1 h2 h3 (fun h' hk => hR _ _ _ _ (I.kept (t' := s.toks) hk) rv hdp al sb dp z q) (by rw [List.size_toArray, ← rv.length]; exact z)
/-- sorted(xs, reverse=True) -/
theorem kSortRev {X : Cx} {K : Fg} (hK : X.K = K) (hu : X.A.units + 100 < cLine) : CallRK X (.builtin "sorted") [Str.ofString "reverse"] (fun vs zs H Q => zs = [.bl true] ∧ rSortS true K vs H Q) := by
  subst hK
  intro pins s σ H vs zs us ws Q I r rz h
  obtain ⟨rfl, a, xs, ds, rfl, e, hdp, al, sb, dp, q⟩ := h
  rw [Vals.ref1 r]
  obtain ⟨w1, rfl, e1⟩ := vals1 rz
  obtain rfl : w1 = Value.bool true := e1
  obtain ⟨us, T, o, n, rv, z, hT, h1, h2, h3⟩ := inv_sqAt I e
  exact sorted_gen (H := H) (b := true) (.inr rfl) hu fun E R hR => wpAny_collect_seq a hT h1 h2 h3 (fun h' hk => hR _ _ _ _ (I.kept (t' := s.toks) hk) rv hdp al sb dp z q) (by rw [List.size_toArray, ← rv.length]; exact z)
end TP

set_option Elab.async false
set_option linter.all false
set_option maxRecDepth 100000
set_option maxHeartbeats 4000000
set_option autoImplicit false
/-! TP, part 30: dicts whose keys are tuples of ints; sorted of more kinds. -/
namespace TP
open PySem PySem.Spec L2

/-! ### keys -/
class TKey {κ : Type} [DecidableEq κ] (e : Enc κ) where
  toL : κ → List Int
  enc : ∀ x, e x = .tuple ((toL x).map eI)
  inj : ∀ x y, toL x = toL y → x = y
instance : TKey (eV eI) := ⟨fun x => x, fun _ => rfl, fun _ _ h => h⟩
instance : TKey (e2 eI eI) := ⟨fun p => [p.1, p.2], fun _ => rfl, fun x y h => by
  injection h with h1 h2
  injection h2 with h2 _
  exact Prod.ext h1 h2⟩
section
variable {κ α : Type} [DecidableEq κ]
def dgQ (d : List (κ × α)) (k : κ) : Option α := (d.find? fun x => decide (x.1 = k)).map (·.2)
def dpV (d : List (κ × α)) (k : κ) (v : α) : List (κ × α) := if (dgQ d k).isSome = true then d.map (fun x => if x.1 = k then (x.1, v) else x) else d ++ [(k, v)]
@[irreducible] def dputQ (d : List (κ × α)) (k : κ) (v : α) : Option (List (κ × α)) := if d.length < sizeLine then some (dpV d k v) else none
/-- the rows of a dict -/
def DtR (K : Fg) (F : Hp) (e : Enc κ) [TKey e] (f : Enc α) : List (List Int × Addr × V) → List (κ × α) → Prop
  | [], [] => True
  | r :: rs, x :: xs => (r.1 = TKey.toL e x.1 ∧ SqT K F r.2.1 (r.1.map V.int) ∧ Dp K F r.2.2 (f x.2)) ∧ DtR K F e f rs xs
  | _, _ => False
variable {K : Fg} {F F' : Hp} {e : Enc κ} [TKey e] {f : Enc α}
theorem DtR.sub (s : Sub F F') : ∀ {rs : List (List Int × Addr × V)} {xs : List (κ × α)}, DtR K F e f rs xs → DtR K F' e f rs xs
  | [], [], _ => trivial
  | r :: rs, x :: xs, h => ⟨⟨h.1.1, sqT_sub s h.1.2.1, dp_sub s h.1.2.2⟩, h.2.sub s⟩
  | [], _ :: _, h => h.elim
  | _ :: _, [], h => h.elim
theorem DtR.len : ∀ {rs : List (List Int × Addr × V)} {xs : List (κ × α)}, DtR K F e f rs xs → rs.length = xs.length
  | [], [], _ => rfl
  | r :: rs, x :: xs, h => by rw [List.length_cons, List.length_cons, h.2.len]
  | [], _ :: _, h => h.elim
  | _ :: _, [], h => h.elim
theorem DtR.keys : ∀ {rs : List (List Int × Addr × V)} {xs : List (κ × α)}, DtR K F e f rs xs → KeysT K F rs
  | [], [], _ => fun x hx => by cases hx
  | r :: rs, x :: xs, h => fun y hy => by
    rcases List.mem_cons.mp hy with z | z
    · rw [z]
      exact h.1.2.1
    · exact h.2.keys y z
  | [], _ :: _, h => h.elim
  | _ :: _, [], h => h.elim
theorem DtR.get (k : κ) : ∀ {rs : List (List Int × Addr × V)} {xs : List (κ × α)}, DtR K F e f rs xs → (getX rs (TKey.toL e k)).isSome = (dgQ xs k).isSome ∧ ∀ y, dgQ xs k = some y → ∃ v, getX rs (TKey.toL e k) = some v ∧ Dp K F v (f y)
  | [], [], _ => ⟨rfl, fun y h => by cases h⟩
  | r :: rs, x :: xs, h => by
    obtain ⟨⟨h1, h2, h3⟩, t⟩ := h
    obtain ⟨g1, g2⟩ := DtR.get k t
    by_cases c : x.1 = k
    · have c2 : r.1 = TKey.toL e k := by rw [h1, c]
      have a1 : getX (r :: rs) (TKey.toL e k) = some r.2.2 := by simp [getX, List.find?_cons, c2]
      have a2 : dgQ (x :: xs) k = some x.2 := by simp [dgQ, List.find?_cons, c]
      rw [a1, a2]
      exact ⟨rfl, fun y hy => by cases hy; exact ⟨_, rfl, h3⟩⟩
    · have c2 : ¬r.1 = TKey.toL e k := fun z => c (TKey.inj (e := e) _ _ (h1.symm.trans z))
      have a1 : getX (r :: rs) (TKey.toL e k) = getX rs (TKey.toL e k) := by simp [getX, List.find?_cons, c2]
      have a2 : dgQ (x :: xs) k = dgQ xs k := by simp [dgQ, List.find?_cons, c]
      rw [a1, a2]
      exact ⟨g1, g2⟩
  | [], _ :: _, h => h.elim
  | _ :: _, [], h => h.elim
theorem DtR.repl (k : κ) {v : V} {y : α} (hv : Dp K F v (f y)) : ∀ {rs : List (List Int × Addr × V)} {xs : List (κ × α)}, DtR K F e f rs xs → DtR K F e f (rs.map fun x => if x.1 = TKey.toL e k then (x.1, x.2.1, v) else x) (xs.map fun x => if x.1 = k then (x.1, y) else x)
  | [], [], _ => trivial
  | r :: rs, x :: xs, h => by
    obtain ⟨⟨h1, h2, h3⟩, t⟩ := h
    refine ⟨?_, DtR.repl k hv t⟩
    dsimp only
    by_cases c : x.1 = k
    · rw [if_pos (by rw [h1, c]), if_pos c]
      exact ⟨h1, h2, hv⟩
    · rw [if_neg (fun z => c (TKey.inj (e := e) _ _ (h1.symm.trans z))), if_neg c]
      exact ⟨h1, h2, h3⟩
  | [], _ :: _, h => h.elim
  | _ :: _, [], h => h.elim
theorem DtR.snoc {r : List Int × Addr × V} {x : κ × α} (hr : r.1 = TKey.toL e x.1 ∧ SqT K F r.2.1 (r.1.map V.int) ∧ Dp K F r.2.2 (f x.2)) : ∀ {rs : List (List Int × Addr × V)} {xs : List (κ × α)}, DtR K F e f rs xs → DtR K F e f (rs ++ [r]) (xs ++ [x])
  | [], [], _ => ⟨hr, trivial⟩
  | _ :: rs, _ :: xs, h => ⟨h.1, DtR.snoc hr h.2⟩
  | [], _ :: _, h => h.elim
  | _ :: _, [], h => h.elim
theorem DtR.put (k : κ) {b : Addr} {v : V} {y : α} (hb : SqT K F b ((TKey.toL e k).map V.int)) (hv : Dp K F v (f y)) {rs : List (List Int × Addr × V)} {xs : List (κ × α)} (h : DtR K F e f rs xs) : DtR K F e f (putX rs (TKey.toL e k) b v) (dpV xs k y) := by
  unfold putX dpV
  rw [(h.get k).1]
  by_cases c : (dgQ xs k).isSome = true
  · rw [if_pos c, if_pos c]
    exact h.repl k hv
  · rw [if_neg c, if_neg c]
    exact h.snoc ⟨rfl, hb, hv⟩
theorem key_at {v : V} {k : κ} (h : Dp K F v (e k)) : ∃ b, v = .ref b ∧ SqT K F b ((TKey.toL e k).map V.int) := by
  rw [TKey.enc (e := e)] at h
  obtain ⟨b, vs, rfl, h1, h2⟩ := dp_tup h
  rw [dpAll_ints h2] at h1
  exact ⟨b, rfl, h1⟩
/-- an owned dict -/
def dt (P : Program) (w : World) (e : Enc κ) [TKey e] (f : Enc α) : Rp (List (κ × α)) where
  ok := fun K F H v x A => ∃ a rs, v = .ref a ∧ H a = some (DtO P w a rs) ∧ A = [a] ∧ DtR K F e f rs x
  mono := fun ⟨a, kvs, h1, h2, h3, h4⟩ s t => by
    subst h3
    exact ⟨a, kvs, h1, (t a List.mem_cons_self).trans h2, rfl, h4.sub s⟩
  dom := fun ⟨a, kvs, h1, h2, h3, h4⟩ b hb => by
    subst h3
    rw [List.mem_singleton] at hb
    subst hb
    rw [h2]
    exact fun z => nomatch z
/-- a dict that can be read -/
def vDt (P : Program) (w : World) (e : Enc κ) [TKey e] (f : Enc α) : View (List (κ × α)) := ⟨fun K F H v x => ∃ a rs, v = .ref a ∧ H a = some (DtO P w a rs) ∧ DtR K F e f rs x, fun ⟨a, rs, h1, h2, h3⟩ s t => ⟨a, rs, h1, t _ _ h2, h3.sub s⟩⟩
theorem vw_dt {P : Program} {w : World} : Vw (dt P w e f) (vDt P w e f) := fun _ _ _ _ _ _ _ ⟨a, rs, h1, h2, _, h4⟩ => ⟨a, rs, h1, h2, h4⟩
class OwnT (ρ : Rp (List (κ × α))) (P : outParam Program) (w : outParam World) (e : outParam (Enc κ)) [outParam (TKey e)] (f : outParam (Enc α)) : Prop where
  to : ∀ {K : Fg} {F H : Hp} {v : V} {x : List (κ × α)} {A : List Addr}, ρ.ok K F H v x A → (dt P w e f).ok K F H v x A
  back : ∀ {K : Fg} {F H F' H' : Hp} {v : V} {x y : List (κ × α)} {A A' : List Addr}, ρ.ok K F H v x A → (dt P w e f).ok K F' H' v y A' → ρ.ok K F' H' v y A'
instance {P : Program} {w : World} : OwnT (dt P w e f) P w e f := ⟨fun h => h, fun _ h => h⟩
instance {P : Program} {w : World} {v : V} : OwnT (pin v (dt P w e f)) P w e f := ⟨fun h => h.2, fun h k => ⟨h.1, k⟩⟩
end

section
variable {P : Program} {w : World} {K : Fg} {mg : Str → Option Value} {W : WX} {S : List Sl} {te ta tb tk tv : TE} {t u : TS}
variable {κ α β γ τ ι ζ : Type} [DecidableEq κ] {e : Enc κ} [TKey e] {f : Enc α} {R : Rp ζ} {B : β → List Sl} {N : Option (τ → List Sl)}
theorem XO.dnew : XO K mg W S (tDNewX P w) (dt P w e f) (.ok []) := fun F H σ A a Q q p hp =>
  q (.ref p) F _ [p] (.newO a.fh hp) ⟨p, [], rfl, upd_same, rfl, trivial⟩ ⟨by simp, fun z hz => by
    rw [List.mem_singleton] at hz
    rw [hz]
    exact hp, fun z hz => by
    rw [List.mem_singleton] at hz
    rw [hz]
    exact a.fh.back hp⟩
theorem XO.ddisp {mk : Res κ} {mv : Res α} (hk : XB K mg W S tk (vD e) mk) (hv : XB K mg W S tv (vD f) mv) : XO K mg W S (tDisp1X P w K tk tv) (dt P w e f) (mk.bind fun k => mv.bind fun v => .ok [(k, v)]) := fun F H σ A a Q q p hp => by
  have p0 := Pu.newO (o := DtO P w p []) a.fh hp
  refine hk F _ σ A (a.pu p0) _ ((Post.of_bind q).imp (fun k k1 v F1 H1 p1 u1 => hv F1 H1 σ A ((a.pu p0).pu p1) _ ((Post.of_bind k1).imp (fun y k2 w2 F2 H2 p2 u2 => ?_) fun e z => (z.pu p0).pu p1)) fun e z => z.pu p0)
  have p12 := p1.trans p2
  have hp2 : H2 p = some (DtO P w p []) := p12.hh p _ upd_same
  have fp : F p = none := a.fh.back hp
  have fp2 : F2 p = none := (p12.fo p (by rw [upd_same]; exact fun z => nomatch z)).trans fp
  obtain ⟨b, rfl, hb⟩ := key_at (dp_sub p2.ff u1)
  refine ⟨hp2, b, TKey.toL e k, rfl, sqT_sub p2.fh hb, k2 (.ref p) F2 _ [p] ⟨p12.ff, fun z o hz => ?_, p12.fh.mut fp2, fun z hz => ?_⟩ ⟨p, _, rfl, upd_same, rfl, ⟨rfl, hb, u2⟩, trivial⟩ ⟨by simp, fun z hz => ?_, fun z hz => ?_⟩⟩
  · have ne : z ≠ p := fun q => by
      rw [q, hp] at hz
      cases hz
    rw [upd_ne ne]
    exact p12.hh z o (by rw [upd_ne ne]; exact hz)
  · have ne : z ≠ p := fun q => by
      rw [q] at hz
      exact hz hp
    exact p12.fo z (by rw [upd_ne ne]; exact hz)
  · rw [List.mem_singleton] at hz
    rw [hz]
    exact hp
  · rw [List.mem_singleton] at hz
    rw [hz]
    exact fp2
theorem o_dinX {neg : Bool} : Op K (rDInX P w K neg) (vD e) (vDt P w e f) vB (fun k d => some (neg != (dgQ d k).isSome)) := fun F H v u x y z s h1 h2 ez Q q => by
  cases ez
  obtain ⟨a, rs, rfl, g1, g2⟩ := h2
  obtain ⟨b, rfl, hb⟩ := key_at h1
  refine ⟨a, rs, b, _, rfl, g1, fun x hx => sqT_sub s (g2.keys x hx), rfl, sqT_sub s hb, ?_⟩
  rw [(g2.get x).1]
  exact q _ F H (.refl s) (.bl _)
theorem o_dlenX : Cl1 K (rDLenX P w) (vDt P w e f) vI (fun d => some (d.length : Int)) := fun F H v x z s h1 ez Q q => by
  cases ez
  obtain ⟨a, rs, rfl, g1, g2⟩ := h1
  refine ⟨a, rs, rfl, g1, ?_⟩
  rw [g2.len]
  exact q _ F H (.refl s) (.int _)
theorem XB.dgetX {md : Res (List (κ × α))} {mk : Res κ} (hd : XB K mg W S ta (vDt P w e f) md) (hk : XB K mg W S tb (vD e) mk) : XB K mg W S (tDGetX P w K ta tb) (vD f) (md.bind fun d => mk.bind fun k => chk (dgQ d k)) := fun F H σ A a Q q =>
  hd.two hk a ((Post.of_bind q).imp (fun x k => Post.of_bind k) fun e z => z) fun x y v u F2 H2 k p u1 u2 H1 => by
    obtain ⟨z, e1, k⟩ := Post.of_chk k
    obtain ⟨a2, rs, rfl, g1, g2⟩ := u1
    obtain ⟨b, rfl, hb⟩ := key_at u2
    obtain ⟨v, g3, g4⟩ := (g2.get y).2 z e1
    exact ⟨a2, rs, b, _, v, rfl, g1, fun x hx => sqT_sub p.fh (g2.keys x hx), rfl, sqT_sub p.fh hb, g3, k v F2 H2 p g4⟩
/-- d[k] = v -/
theorem Y.dputX {i : Nat} {ρ : Rp (List (κ × α))} [OwnT ρ P w e f] {x : List (κ × α)} {mk : Res κ} {mv : Res α} {kk : List (κ × α) → Res (Fl ζ β τ)} (hs : S[i]? = some (.val ρ x))
    (hv : XB K mg W S tv (vD f) mv) (hk : XB K mg W S tk (vD e) mk) (hu : ∀ z, Y K mg W (S.set i (.val ρ z)) u R B N (kk z)) : Y K mg W S (tSeq (sDPutX P w K (tVar i) tk tv) u) R B N (mv.bind fun y => mk.bind fun k => (chk (dputQ x k y)).bind kk) := ⟨fun h => .bind fun y => .bind fun k => .bind fun z => (hu _).no h, fun F H σ A a D' q =>
  hv F H σ A a _ ((Post.of_bind q).imp (fun y k1 v F1 H1 p1 u1 => by
    have a1 := a.pu p1
    obtain ⟨v0, Ai, e1, part⟩ := a1.part hs
    refine ⟨v0, e1, hk F1 H1 σ A a1 _ ((Post.of_bind k1).imp (fun key k2 vk F2 H2 p2 u2 => ?_) fun e z => z.x.pu p1)⟩
    have a2 := a1.pu p2
    obtain ⟨v0', Ai2, e2, part2⟩ := a2.part hs
    rw [e1] at e2
    cases e2
    obtain ⟨b, rs, rfl, hb, h3, h4⟩ := OwnT.to part2.ok
    obtain ⟨c, rfl, hc⟩ := key_at u2
    obtain ⟨z, ez, k3⟩ := Post.of_chk (Post.of_bind k2)
    unfold dputQ at ez
    split at ez
    case isFalse => cases ez
    rename_i hlt
    cases ez
    have bA : b ∈ Ai2 := by rw [h3]; exact List.mem_cons_self
    have fb : F2 b = none := part2.fo b bA
    have hx : ρ.ok K F2 (upd H2 b (DtO P w b (putX rs (TKey.toL e key) c v))) (.ref b) (dpV x key y) [b] := OwnT.back part2.ok ⟨b, _, rfl, upd_same, rfl, h4.put key hc (dp_sub p2.ff u1)⟩
    obtain ⟨A', a', s'⟩ := part2.mod F2 (upd H2 b (DtO P w b (putX rs (TKey.toL e key) c v))) (dpV x key y) [b] (.refl _) (a2.fh.mut fb) (fun z o h hn => by
        rw [upd_ne fun q => hn (by rw [q]; exact bA)]
        exact h) (fun z h hn => rfl) (fun z hz => .inl (by
        rw [List.mem_singleton] at hz
        rw [hz]
        exact bA)) (by simp) (fun z hz => by
        rw [List.mem_singleton] at hz
        rw [hz]
        exact fb) (fun z h => by
        by_cases q : z = b
        · rw [q, upd_same]
          exact fun z => nomatch z
        · rw [upd_ne q]
          exact h) hx
    refine ⟨b, rs, c, TKey.toL e key, rfl, hb, fun x hx => sqT_sub a2.fh (h4.keys x hx), by rw [h4.len]; exact hlt, rfl, sqT_sub a2.fh hc, (hu _).run F2 _ σ A' a' D' (Post.from (((p1.trans p2).nx fun _ z => .inl z).trans ⟨.refl _, fun z o h hn => ?_, fun z h _ => rfl, fun z hz => .inl ?_, fun z h => ?_⟩) k3)⟩
    · rw [upd_ne fun q => hn (by rw [q]; exact part2.inA b bA)]
      exact h
    · rcases s' z hz with h | h
      · exact h
      · rw [List.mem_singleton] at h
        rw [h]
        exact part2.inA b bA
    · by_cases q : z = b
      · rw [q, upd_same]
        exact fun z => nomatch z
      · rw [upd_ne q]
        exact h) fun e z => z.x)⟩
/-- a thing of one's own handed from one name to another -/
theorem Y.mv {i j : Nat} {r : Rp ι} {x : ι} {k : ι → Res (Fl ζ β τ)} (hij : i ≠ j) (hs : S[j]? = some (.val r x)) (hi : S[i]?.isSome = true) (h : ∀ y, Y K mg W ((S.set j .nil).set i (.val r y)) u R B N (k y)) : Y K mg W S (tSeq (tAsg (tVar j) (gName i)) u) R B N ((Res.ok x).bind k) := ⟨fun q => .bind fun y => (h y).no q, fun F H σ A a D q => by
  obtain ⟨o, A1, Aj, A2, e1, e2, e3, e4⟩ := a.sl.at hs
  cases o with
  | none => exact e3.elim
  | some v =>
    refine ⟨v, e1, ?_⟩
    have fh := a.fh
    have nd := a.nd
    have fo := a.fo
    subst e2
    have n1 := List.nodup_append.mp nd
    have n2 := List.nodup_append.mp n1.2.1
    -- the slot j emptied
    have d0 := e4 F H (some v) .nil [] (.refl _) (fun _ _ => rfl) rfl
    have es : σ.set j (some v) = σ := by
      refine List.ext_getElem? fun m => ?_
      by_cases z : j = m
      · subst z
        rw [e1, List.getElem?_set_self (by
          obtain ⟨hl, _⟩ := List.getElem?_eq_some_iff.mp e1
          exact hl)]
      · rw [List.getElem?_set_ne z]
    rw [es] at d0
    obtain ⟨s0, hs0⟩ : ∃ s0, (S.set j .nil)[i]? = some s0 := by
      rw [List.getElem?_set_ne (fun z => hij z.symm)]
      exact Option.isSome_iff_exists.mp hi
    obtain ⟨o2, B1, Bi, B2, g1, g2, g3, g4⟩ := d0.at hs0
    have d1 := g4 F H (some v) (.val r x) Aj (.refl _) (fun _ _ => rfl) e3
    have sub : List.Sublist (B1 ++ B2) (A1 ++ A2) := by
      rw [List.nil_append] at g2
      rw [g2]
      exact List.Sublist.append (.refl _) (List.sublist_append_right _ _)
    have inA : ∀ z ∈ B1 ++ (Aj ++ B2), z ∈ A1 ++ (Aj ++ A2) := fun z hz => by
      rcases List.mem_append.mp hz with h | h
      · rcases List.mem_append.mp (sub.mem (List.mem_append_left B2 h)) with h | h
        · exact List.mem_append_left _ h
        · exact List.mem_append_right _ (List.mem_append_right _ h)
      · rcases List.mem_append.mp h with h | h
        · exact List.mem_append_right _ (List.mem_append_left _ h)
        · rcases List.mem_append.mp (sub.mem (List.mem_append_right B1 h)) with h | h
          · exact List.mem_append_left _ h
          · exact List.mem_append_right _ (List.mem_append_right _ h)
    have notJ : ∀ z ∈ B1 ++ B2, z ∉ Aj := fun z hz hj => by
      rcases List.mem_append.mp (sub.mem hz) with h | h
      · exact n1.2.2 z h z (List.mem_append_left _ hj) rfl
      · exact n2.2.2 z hj z h rfl
    have ndA : (A1 ++ A2).Nodup := nd.sublist (List.Sublist.append (.refl _) (List.sublist_append_right _ _))
    have ndB := List.nodup_append.mp (ndA.sublist sub)
    refine (h x).run F H _ (B1 ++ (Aj ++ B2)) ⟨fh, ?_, fun z hz => fo z (inA z hz), d1⟩ D (Post.from (Nx.refl.less inA) q)
    refine List.nodup_append.mpr ⟨ndB.1, List.nodup_append.mpr ⟨n2.1, ndB.2.1, fun y hy w hw z => ?_⟩, fun y hy w hw z => ?_⟩
    · subst z
      exact notJ y (List.mem_append_right _ hw) hy
    · subst z
      rcases List.mem_append.mp hw with h | h
      · exact notJ y (List.mem_append_left _ hy) h
      · exact ndB.2.2 y hy y h rfl⟩

/-! ### sorted -/
/-- what can be sorted -/
class SrtC {α : Type} [DecidableEq α] (e : Enc α) extends Ordl e where
  okS : List α → Bool
  srt : ∀ xs : List α, okS xs = true → PySem.W.Sortable (xs.map e)
instance srtOf {α : Type} [DecidableEq α] {e : Enc α} [s : Srt e] : SrtC e := { s with okS := fun _ => true, srt := fun xs _ => Srt.srt xs }
instance srtV {α : Type} [DecidableEq α] {e : Enc α} [Ordl e] : SrtC (eV e) where
  okS xs := xs.all fun x => !x.isEmpty
  srt xs h := .inl fun d hd => by
    obtain ⟨x, hx, rfl⟩ := List.mem_map.mp hd
    have := List.all_eq_true.mp h x hx
    cases x with
    | nil => cases this
    | cons y ys => exact ⟨_, _, rfl⟩
@[irreducible] def sortC {α : Type} [DecidableEq α] (e : Enc α) [SrtC e] (xs : List α) : Option (List α) := if SrtC.okS e xs = true then some (sortL (Ordl.lt e) xs) else none
/-- .. turned about -/
@[irreducible] def sortR {α : Type} (lt : α → α → Bool) (xs : List α) : List α := xs.mergeSort fun a b => !lt a b
@[irreducible] def sortRC {α : Type} [DecidableEq α] (e : Enc α) [SrtC e] (xs : List α) : Option (List α) := if SrtC.okS e xs = true then some (sortR (Ordl.lt e) xs) else none
theorem sortR_map {α : Type} [DecidableEq α] {e : Enc α} [Ordl e] (xs : List α) : (xs.map e).mergeSort (PySem.W.dataLe true id) = (sortR (Ordl.lt e) xs).map e := by
  unfold sortR
  refine (List.map_mergeSort fun a _ b _ => ?_).symm
  rw [PySem.W.dataLe_eq]
  show (!Ordl.lt e a b) = (!PySem.W.dataLt (e a) (e b))
  rw [Ordl.lt_eq]
theorem sq_go {α : Type} [DecidableEq α] {e : Enc α} [SrtC e] (hd : Law.dep e ≤ 64) {rev : Bool} {F H : Hp} {a : Addr} {vs : List V} {x z : List α} (s : Sub F H) (g1 : Sq K H a vs) (g2 : DpAll K F vs (x.map e)) (ez : (if rev then sortRC e x else sortC e x) = some z) {Q : VK}
    (q : ∀ w F' H' Av, Pu F H F' H' → (ow (fz e)).ok K F' H' w z Av → Frs F H F' Av → Q w H') : rSortS rev K [.ref a] H Q := by
  have ok : SrtC.okS e x = true := by
    cases rev
    · unfold sortC at ez
      by_cases c : SrtC.okS e x = true
      · exact c
      · simp [c] at ez
    · unfold sortRC at ez
      by_cases c : SrtC.okS e x = true
      · exact c
      · simp [c] at ez
  refine ⟨a, vs, x.map e, rfl, g1, dpAll_sub s g2, .of fun b b' => Ordl.alike b b', SrtC.srt x ok, fun d hd' => ?_, fun ys p he hp => newL s ?_ hp q⟩
  · obtain ⟨b, _, rfl⟩ := List.mem_map.mp hd'
    exact Nat.le_trans (Law.dep_le b) hd
  · cases rev
    · unfold sortC at ez
      simp only [Bool.false_eq_true, if_false, ok, if_true, Option.some.injEq] at ez
      subst ez
      rw [sort_map] at he
      exact each_dp (dpAll_zip g2) he
    · unfold sortRC at ez
      simp only [ok, if_true, Option.some.injEq] at ez
      subst ez
      rw [sortR_map] at he
      exact each_dp (dpAll_zip g2) he
theorem o_sortL {α : Type} [DecidableEq α] {e : Enc α} [SrtC e] (hd : Law.dep e ≤ 64 := by decide) : Cl1O K (rSortS false K) (vL e) (ow (fz e)) (sortC e) := fun F H v x z s h1 ez Q q => by
  obtain ⟨a, vs, rfl, g1, g2⟩ := h1
  exact sq_go hd (rev := false) s (.inl g1) g2 ez q
theorem o_sortV {α : Type} [DecidableEq α] {e : Enc α} [SrtC e] (hd : Law.dep e ≤ 64 := by decide) : Cl1O K (rSortS false K) (vD (eV e)) (ow (fz e)) (sortC e) := fun F H v x z s h1 ez Q q => by
  obtain ⟨a, vs, rfl, g1, g2⟩ := dp_tup h1
  exact sq_go hd (rev := false) s (.inr (sqT_sub s g1)) g2 ez q
/-- sorted(xs, reverse=True) -/
theorem XO.sortRL {α : Type} [DecidableEq α] {e : Enc α} [SrtC e] {m : Res (List α)} (h : XB K mg W S te (vL e) m) (hd : Law.dep e ≤ 64 := by decide) : XO K mg W S (tCKw (fun vs zs H Q => zs = [.bl true] ∧ rSortS true K vs H Q) (tCons te tNil) (tCons (tC (.bl true)) tNil)) (ow (fz e)) (m.bind fun x => chk (sortRC e x)) := fun F H σ A a Q q =>
  h F H σ A a _ ((Post.of_bind q).imp (fun x k v F1 H1 p1 u1 => by
    obtain ⟨z, ez, k⟩ := Post.of_chk k
    obtain ⟨l, vs, rfl, g1, g2⟩ := u1
    exact ⟨rfl, sq_go hd (rev := true) p1.fh (.inl g1) g2 ez fun w F3 H3 Av p3 u3 fr => k w F3 H3 Av (p1.trans p3) u3 (fr.pu p1)⟩) fun e z => z)
theorem XO.sortRV {α : Type} [DecidableEq α] {e : Enc α} [SrtC e] {m : Res (List α)} (h : XB K mg W S te (vD (eV e)) m) (hd : Law.dep e ≤ 64 := by decide) : XO K mg W S (tCKw (fun vs zs H Q => zs = [.bl true] ∧ rSortS true K vs H Q) (tCons te tNil) (tCons (tC (.bl true)) tNil)) (ow (fz e)) (m.bind fun x => chk (sortRC e x)) := fun F H σ A a Q q =>
  h F H σ A a _ ((Post.of_bind q).imp (fun x k v F1 H1 p1 u1 => by
    obtain ⟨z, ez, k⟩ := Post.of_chk k
    obtain ⟨l, vs, rfl, g1, g2⟩ := dp_tup u1
    exact ⟨rfl, sq_go hd (rev := true) p1.fh (.inr (sqT_sub p1.fh g1)) g2 ez fun w F3 H3 Av p3 u3 fr => k w F3 H3 Av (p1.trans p3) u3 (fr.pu p1)⟩) fun e z => z)
theorem dtr_refs : ∀ {F : Hp} {rs : List (List Int × Addr × V)} {xs : List (κ × α)}, DtR K F e f rs xs → DpAll K F (rs.map fun x => V.ref x.2.1) ((xs.map (·.1)).map e)
  | _, [], [], _ => .nil
  | _, r :: rs, x :: xs, h => by
    refine .cons ?_ (dtr_refs h.2)
    show Dp K _ (.ref r.2.1) (e x.1)
    rw [TKey.enc (e := e)]
    exact .tup h.1.2.1 (by
      rw [h.1.1]
      exact dp_ints _)
  | _, [], _ :: _, h => h.elim
  | _, _ :: _, [], h => h.elim
/-- sorted(d) -/
theorem o_sortX [s : SrtC e] (hd : Law.dep e ≤ 64 := by decide) : Cl1O K (rSortX P w K) (vDt P w e f) (ow (fz e)) (fun d => sortC e (d.map (·.1))) := fun F H v x z s h1 ez Q q => by
  obtain ⟨a, rs, rfl, g1, g2⟩ := h1
  have hr := dtr_refs g2
  have ok : SrtC.okS e (x.map (·.1)) = true := by
    unfold sortC at ez
    by_cases c : SrtC.okS e (x.map (·.1)) = true
    · exact c
    · simp [c] at ez
  refine ⟨a, rs, (x.map (·.1)).map e, rfl, g1, dpAll_sub s hr, .of fun b b' => Ordl.alike b b', SrtC.srt _ ok, fun d hd' => ?_, fun ys p he hp => newL s ?_ hp q⟩
  · obtain ⟨b, _, rfl⟩ := List.mem_map.mp hd'
    exact Nat.le_trans (Law.dep_le b) hd
  · unfold sortC at ez
    simp only [ok, if_true, Option.some.injEq] at ez
    subst ez
    rw [sort_map] at he
    exact each_dp (dpAll_zip hr) he
end
/-! ### plain facts -/
theorem dputQ_ok {κ α : Type} [DecidableEq κ] {d : List (κ × α)} {k : κ} {v : α} (h : d.length < 16777216) : dputQ d k v = some (dpV d k v) := by
  unfold dputQ
  rw [if_pos (by rw [sizeLine_eq]; exact h)]
theorem sortC_ok {α : Type} [DecidableEq α] {e : Enc α} [SrtC e] {xs : List α} (h : SrtC.okS e xs = true) : sortC e xs = some (sortL (Ordl.lt e) xs) := by
  unfold sortC
  rw [if_pos h]
theorem sortRC_ok {α : Type} [DecidableEq α] {e : Enc α} [SrtC e] {xs : List α} (h : SrtC.okS e xs = true) : sortRC e xs = some (sortR (Ordl.lt e) xs) := by
  unfold sortRC
  rw [if_pos h]
theorem sortR_perm {α : Type} {lt : α → α → Bool} (xs : List α) : (sortR lt xs).Perm xs := by
  unfold sortR
  exact List.mergeSort_perm ..
theorem sortR_rev {α : Type} {lt : α → α → Bool} [LtOk lt] (xs : List α) : sortR lt xs = (sortL lt xs).reverse := by
  have h1 : (sortR lt xs).Pairwise fun a b => lt a b = false := by
    unfold sortR
    have := List.pairwise_mergeSort (le := fun a b => !lt a b) (fun a b c h1 h2 => by
      simp only [Bool.not_eq_true'] at h1 h2 ⊢
      exact le_tr (lt := lt) h2 h1) (fun a b => by
      simp only [Bool.or_eq_true, Bool.not_eq_true']
      cases h : lt a b with
      | false => exact .inl rfl
      | true => exact .inr (lt_asym h)) xs
    exact this.imp fun h => by simpa using h
  have h2 : Asc lt (sortR lt xs).reverse := by
    unfold Asc
    rw [List.pairwise_reverse]
    exact h1
  have := asc_unique h2 (sort_asc xs) ((List.reverse_perm _).trans ((sortR_perm xs).trans (sortL_perm xs).symm))
  rw [← this, List.reverse_reverse]
end TP

set_option Elab.async false
set_option linter.all false
set_option maxRecDepth 100000
set_option maxHeartbeats 4000000
set_option autoImplicit false
/-! TP, part 31: slices of tuples, tuples times a number, ranges with a step. -/
namespace TP
open PySem PySem.Spec L2
theorem kSlA {X : Cx} {K : Fg} (hK : X.K = K) : SlR X (rSlA K) := by subst hK; exact sl_tupA
theorem kRepT {X : Cx} {K : Fg} (hK : X.K = K) : OpR X (binaryOp .Mult) (rRepT K) := by subst hK; exact op_repT
section
variable {K : Fg} {mg : Str → Option Value} {W : WX} {S : List Sl} {te ta tb tc : TE} {α : Type}
theorem dpAll_repF {F : Hp} {e : Enc α} {vs : List V} {xs : List α} (h : DpAll K F vs (xs.map e)) : ∀ k : Nat, DpAll K F (List.replicate k vs).flatten (((List.replicate k xs).flatten).map e)
  | 0 => .nil
  | k + 1 => by
    rw [List.replicate_succ, List.replicate_succ, List.flatten_cons, List.flatten_cons, List.map_append]
    exact dpAll_app h (dpAll_repF h k)
theorem XB.slV {e : Enc α} {tl th : TO} {m : Res (List α)} {ml mh : Res (Option Int)} (h : XB K mg W S te (vD (eV e)) m) (hl : XPo K mg W S tl ml) (hh : XPo K mg W S th mh) :
    XB K mg W S (tSl (rSlA K) te tl th) (vD (eV e)) (m.bind fun xs => ml.bind fun lo => mh.bind fun hi => .ok (cutA xs lo hi)) := fun F H σ A a Q q =>
  h F H σ A a _ ((Post.of_bind q).imp (fun xs k v F1 H1 p1 u1 => hl F1 H1 σ A (a.pu p1) _ ((Post.of_bind k).imp (fun lo k F2 H2 p2 => hh F2 H2 σ A ((a.pu p1).pu p2) _ ((Post.of_bind k).imp (fun hi k F3 H3 p3 => by
    obtain ⟨b, vs, rfl, g1, g2⟩ := dp_tup (dp_sub (p2.ff.trans p3.ff) u1)
    have el : vs.length = xs.length := by
      rw [dpAll_len g2, List.length_map]
    have pp := (p1.trans p2).trans p3
    refine ⟨b, vs, rfl, sqT_sub p3.fh g1, fun c => ?_, fun _ p hp => ?_⟩
    · refine k _ F3 H3 pp ?_
      have e1 : cutA xs lo hi = xs := by
        unfold cutA
        rw [el] at c
        rw [c.1, c.2, List.drop_zero, Nat.sub_zero, List.take_length]
      rw [e1]
      exact .tup g1 g2
    · refine k _ (upd F3 p (.tup (cutV vs lo hi))) _ (pp.trans (.new p3.fh hp)) (.tup (.of upd_same) (dpAll_sub (.new (p3.fh.back hp)) ?_))
      unfold cutV cutA
      rw [el, List.map_take, List.map_drop]
      exact dpAll_take _ (dpAll_drop _ g2)) fun e z => (z.pu p1).pu p2)) fun e z => z.pu p1)) fun e z => z)
@[irreducible] def repTQ (xs : List α) (k : Int) : Option (List α) := if xs.length ≠ 0 ∧ xs.length ≤ 1000 ∧ 2 ≤ k ∧ k ≤ 1000 then some (List.replicate k.toNat xs).flatten else none
theorem repTQ_ok {xs : List α} {k : Int} (h : xs.length ≠ 0) (h1 : xs.length ≤ 1000) (h2 : 2 ≤ k) (h3 : k ≤ 1000) : repTQ xs k = some (List.replicate k.toNat xs).flatten := by
  unfold repTQ
  rw [if_pos ⟨h, h1, h2, h3⟩]
theorem o_repT {e : Enc α} : Op K (rRepT K) (vD (eV e)) vI (vD (eV e)) repTQ := fun F H v u x y z s h1 h2 ez Q q => by
  obtain ⟨a, vs, rfl, g1, g2⟩ := dp_tup h1
  unfold repTQ at ez
  split at ez
  case isFalse => cases ez
  rename_i c
  cases ez
  have e1 : vs.length = x.length := by
    rw [dpAll_len g2, List.length_map]
  refine ⟨a, y, vs, rfl, dp_int h2, sqT_sub s g1, fun z => c.1 (by rw [← e1, z]; rfl), c.2.2.1, c.2.2.2, by rw [e1]; exact c.2.1, fun p hp => ?_⟩
  exact q _ (upd F p (.tup (List.replicate y.toNat vs).flatten)) _ (.new s hp) (.tup (.of upd_same) (dpAll_sub (.new (s.back hp)) (dpAll_repF g2 _)))
/-- lo, lo + c, .. below hi -/
def rangeS (lo hi c : Int) : List Int := (List.range ((hi - lo + (c - 1)) / c).toNat).map fun i : Nat => lo + (i : Int) * c
end
end TP

set_option Elab.async false
set_option linter.all false
set_option maxRecDepth 100000
set_option maxHeartbeats 4000000
set_option autoImplicit false
/-! TP, part 32: sets of tuples, sorted; members; ranges with a step; tuples that are known to have no dict. -/
namespace TP
open PySem PySem.Spec PyProof.Rows L2

/-! ### lists in order -/
section
variable {α : Type} [DecidableEq α] {lt : α → α → Bool} [LtOk lt]
theorem listLt_irr : ∀ x : List α, listLt lt x x = false
  | [] => rfl
  | x :: xs => by
    rw [listLt, if_pos rfl]
    exact listLt_irr xs
theorem listLt_tr : ∀ a b c : List α, listLt lt a b = true → listLt lt b c = true → listLt lt a c = true
  | [], [], _, h, _ => by cases h
  | [], _ :: _, [], _, h => by cases h
  | [], _ :: _, _ :: _, _, _ => rfl
  | _ :: _, [], _, h, _ => by cases h
  | _ :: _, _ :: _, [], _, h => by cases h
  | x :: xs, y :: ys, z :: zs, h1, h2 => by
    rw [listLt] at h1 h2 ⊢
    by_cases p : x = y
    · rw [if_pos p] at h1
      by_cases q : y = z
      · rw [if_pos q] at h2
        rw [if_pos (p.trans q)]
        exact listLt_tr xs ys zs h1 h2
      · rw [if_neg q] at h2
        rw [if_neg (fun k => q (p.symm.trans k)), p]
        exact h2
    · rw [if_neg p] at h1
      by_cases q : y = z
      · rw [if_neg (fun k => p (k.trans q.symm)), ← q]
        exact h1
      · rw [if_neg q] at h2
        have h3 := LtOk.tr _ _ _ h1 h2
        by_cases r : x = z
        · rw [r] at h3
          exact absurd h3 (by rw [LtOk.irr (lt := lt) z]; exact Bool.false_ne_true)
        · rw [if_neg r]
          exact h3
theorem listLt_tri : ∀ a b : List α, listLt lt a b = false → listLt lt b a = false → a = b
  | [], [], _, _ => rfl
  | [], _ :: _, h, _ => by cases h
  | _ :: _, [], _, h => by cases h
  | x :: xs, y :: ys, h1, h2 => by
    rw [listLt] at h1 h2
    by_cases p : x = y
    · rw [if_pos p] at h1
      rw [if_pos p.symm] at h2
      rw [p, listLt_tri xs ys h1 h2]
    · rw [if_neg p] at h1
      rw [if_neg (fun k => p k.symm)] at h2
      exact absurd (LtOk.tri _ _ h1 h2) p
instance ltokL : LtOk (listLt lt) := ⟨listLt_irr, listLt_tr, listLt_tri⟩
end
instance ltokV {α : Type} [DecidableEq α] {e : Enc α} [Ordl e] [LtOk (Ordl.lt e)] : LtOk (Ordl.lt (eV e)) := (ltokL : LtOk (listLt (Ordl.lt e)))
instance ltokI : LtOk (fun a b : Int => decide (a < b)) := inferInstanceAs (LtOk (Ordl.lt eI))
/-! ### sorted(set) -/
theorem kSetOfT {X : Cx} {P : Program} {w : World} {K : Fg} (hP : X.prog = P) (hw : X.w = w) (hK : X.K = K) (hc : X.calm = true) (hu : X.A.units + 100 < cLine) : CallR X (.type "set") (rSetOfT K P w) := by
  subst hP hw hK
  exact cr_setOfT hc (by omega)
def rSortST (P : Program) (w : World) (K : Fg) : List V → Hp → VK → Prop := fun vs H Q => ∃ (a : Addr) (L : List (Addr × List Int)), vs = [V.ref a] ∧ H a = some (SetTO P w a L) ∧ (∀ p ∈ L, SqT K H p.1 (p.2.map V.int)) ∧ (∀ p ∈ L, p.2 ≠ []) ∧
  ((L.map (·.2)).Nodup → L.length < 64 → ∀ (L' : List (Addr × List Int)) (p : Addr), L'.Perm L → (L'.map (·.2)).Pairwise (fun x y => listLt (fun a b => decide (a < b)) y x = false) → H p = none → Q (.ref p) (upd H p (.lst (L'.map fun q => V.ref q.1))))
theorem dataLt_ints (x y : List Int) : PySem.W.dataLt (.tuple (x.map eI)) (.tuple (y.map eI)) = listLt (fun a b => decide (a < b)) x y := (Ordl.lt_eq (e := eV eI) x y)
theorem cr_sortST {X : Cx} {P : Program} {w : World} {K : Fg} (hP : X.prog = P) (hw : X.w = w) (hK : X.K = K) (hc : X.calm = true) (hu : X.A.units + 100 < cLine) : CallR X (.builtin "sorted") (rSortST P w K) := by
  subst hP hw hK
  intro pins s σ H vs us Q I r h
  obtain ⟨a, L, rfl, ha, hk, hne, q⟩ := h
  have R0 : SetT0 X.prog X.w s.heap a L := (I.hok a _ ha).1
  obtain ⟨es, ep, t, R⟩ := R0.full fun p hp => I.isT (hk p hp)
  rw [Vals.ref1 r]
  obtain ⟨o, ho, hex, hd⟩ := R.ob
  have hsz := R.size
  have hfew := R.few
  refine sorted_gen (H := H) (kw := []) (.inl ⟨rfl, rfl⟩) hu fun E Rr hR => ?_
  refine collect_set (A := X.A.in1) (I.ok.hd hc) ⟨o, ho, hex.1, hd⟩ R.fits (by unfold scanBound; omega) R.tab.ris R.led fun s1 vs k1 hz g1 o1 pm => ?_
  have hes : es.toList.map (·.2) = L.map fun q => Value.ref q.1 := by
    rw [R.rows]
    unfold rowsOf
    rw [List.map_map] <;> rfl
  rw [hes] at pm
  have ord : ∀ vs : List Value, (∀ v ∈ vs, ∃ q ∈ L, v = Value.ref q.1) → ∃ L1 : List (Addr × List Int), vs = L1.map (fun q => Value.ref q.1) ∧ ∀ q ∈ L1, q ∈ L := by
    intro vs
    induction vs with
    | nil => intro _; exact ⟨[], rfl, fun q hq => (by cases hq)⟩
    | cons v vs ih =>
      intro hv
      obtain ⟨q, hq, e⟩ := hv v List.mem_cons_self
      obtain ⟨L1, e1, hs⟩ := ih fun u hu => hv u (List.mem_cons_of_mem _ hu)
      refine ⟨q :: L1, by rw [List.map_cons, e, e1], fun r hr => ?_⟩
      rcases List.mem_cons.mp hr with z | z
      · rw [z]; exact hq
      · exact hs r z
  have one : ∀ q ∈ L, ∀ r ∈ L, q.1 = r.1 → q = r := fun q hq r hr e => by
    have a1 := R.tup q hq
    have a2 := R.tup r hr
    rw [e] at a1
    have e2 : q.2 = r.2 := a1.inj a2
    exact Prod.ext e e2
  have nref : (L.map fun q => Value.ref q.1).Nodup := by
    refine List.pairwise_map.mpr (List.Pairwise.imp_of_mem (fun {q r} hq hr hne e => ?_) (nodup_of_map R.nd))
    injection e with e
    exact hne (one q hq r hr e)
  have perm_of : ∀ L1 : List (Addr × List Int), (∀ q ∈ L1, q ∈ L) → (L1.map (fun q => Value.ref q.1)).Perm (L.map fun q => Value.ref q.1) → L1.Perm L := by
    intro L1 hs pm1
    have nL : L.Nodup := nodup_of_map R.nd
    have n1 : L1.Nodup := nodup_of_map (pm1.nodup_iff.mpr nref)
    refine (List.perm_ext_iff_of_nodup n1 nL).mpr fun q => ⟨hs q, fun hq => ?_⟩
    have hm : Value.ref q.1 ∈ L1.map (fun q => Value.ref q.1) := pm1.mem_iff.mpr (List.mem_map.mpr ⟨q, hq, rfl⟩)
    obtain ⟨r, hr, e⟩ := List.mem_map.mp hm
    injection e with e
    rw [← one r (hs r hr) q hq e]
    exact hr
  obtain ⟨L1, e1, m1⟩ := ord vs fun v hv => by
    obtain ⟨q, hq, e⟩ := List.mem_map.mp (pm.mem_iff.mp hv)
    exact ⟨q, hq, e.symm⟩
  subst e1
  have p1 : L1.Perm L := perm_of L1 m1 pm
  have I1 : Inv X pins σ H s1 := by
    have J : Inv X pins σ H { s with heap := s1.heap, gens := s1.gens, drawn := s1.drawn, toks := s1.toks } :=
      I.call (ch := []) (Un.kept k1) (I.hok.kept k1) (by rw [g1]; exact I.bare) (fun _ z => nomatch z)
    have e : s1 = { s with heap := s1.heap, gens := s1.gens, drawn := s1.drawn, toks := s1.toks } := by
      cases s1
      cases s
      cases o1
      rfl
    rw [e]
    exact J
  have len1 : L1.length < 64 := by rw [p1.length_eq]; exact hfew
  have dpA : ∀ L0 : List (Addr × List Int), (∀ q ∈ L0, q ∈ L) → DpAll X.K H (L0.map fun q => V.ref q.1) (L0.map fun q => .tuple (q.2.map eI)) := by
    intro L0
    induction L0 with
    | nil => intro _; exact .nil
    | cons q L0 ih => exact fun hq => .cons (.tup (hk q (hq q List.mem_cons_self)) (dp_ints _)) (ih fun r hr => hq r (List.mem_cons_of_mem _ hr))
  refine hR s1 _ (L1.map fun q => V.ref q.1) (L1.map fun q => .tuple (q.2.map eI)) I1 (vals_of_refs L1) (dpA L1 m1) (PySem.W.AllAlike.of (enc := fun q : Addr × List Int => PyData.tuple (q.2.map eI)) fun b b' => Ordl.alike (e := eV eI) b.2 b'.2) (.inl fun d hd => ?_) (fun d hd => ?_) (by rw [List.length_map, sizeLine_eq]; omega) fun ys p he hp => ?_
  · obtain ⟨q, hq, rfl⟩ := List.mem_map.mp hd
    cases e : q.2 with
    | nil => exact absurd e (hne q (m1 q hq))
    | cons x xs => exact ⟨_, _, rfl⟩
  · obtain ⟨q, hq, rfl⟩ := List.mem_map.mp hd
    exact Nat.le_trans (Law.dep_le (e := eV eI) q.2) (by decide)
  · -- the sorted items as rows
    have srt : (L1.map fun q => PyData.tuple (q.2.map eI)).mergeSort (PySem.W.dataLe false id) = (L1.mergeSort fun x y => !listLt (fun a b => decide (a < b)) y.2 x.2).map fun q => .tuple (q.2.map eI) := by
      refine (List.map_mergeSort fun x _ y _ => ?_).symm
      rw [PySem.W.dataLe_eq]
      show (!listLt _ y.2 x.2) = (!PySem.W.dataLt _ _)
      rw [← dataLt_ints]
      rfl
    rw [srt] at he
    have p2 : (L1.mergeSort fun x y => !listLt (fun a b => decide (a < b)) y.2 x.2).Perm L1 := List.mergeSort_perm _ _
    have pw : (L1.mergeSort fun x y => !listLt (fun a b => decide (a < b)) y.2 x.2).Pairwise (fun x y => listLt (fun a b => decide (a < b)) y.2 x.2 = false) := by
      have := List.pairwise_mergeSort (le := fun x y : Addr × List Int => !listLt (fun a b => decide (a < b)) y.2 x.2) (fun x y z h1 h2 => by
        simp only [Bool.not_eq_true'] at h1 h2 ⊢
        exact le_tr (lt := listLt (fun a b : Int => decide (a < b))) h1 h2) (fun x y => by
        simp only [Bool.or_eq_true, Bool.not_eq_true']
        cases h : listLt (fun a b : Int => decide (a < b)) y.2 x.2 with
        | false => exact .inl rfl
        | true => exact .inr (lt_asym (lt := listLt (fun a b : Int => decide (a < b))) h)) L1
      exact this.imp fun h => by simpa using h
    generalize L1.mergeSort (fun x y => !listLt (fun a b => decide (a < b)) y.2 x.2) = L2 at he p2 pw
    -- each sorted item stands for its row
    have key : ys = L2.map fun q => V.ref q.1 := by
      have nd2 : (L.map (·.2)).Nodup := R.nd
      have look : ∀ (y : V) (ns : List Int), (y, PyData.tuple (ns.map eI)) ∈ (L1.map fun q => V.ref q.1).zip (L1.map fun q => PyData.tuple (q.2.map eI)) → ∃ q ∈ L, y = .ref q.1 ∧ q.2 = ns := by
        intro y ns hm
        rw [List.zip_map'] at hm
        obtain ⟨q, hq, e⟩ := List.mem_map.mp hm
        injection e with e1 e2
        injection e2 with e2
        refine ⟨q, m1 q hq, e1.symm, ?_⟩
        have inj : ∀ a b : List Int, a.map eI = b.map eI → a = b := fun a b => (List.map_inj_right (fun x y h => by injection h)).mp
        exact inj _ _ e2
      have m2 : ∀ q ∈ L2, q ∈ L := fun q hq => m1 q (p2.mem_iff.mp hq)
      have gen : ∀ (L2 : List (Addr × List Int)) (ys : List V), (∀ q ∈ L2, q ∈ L) → PySem.W.EachIs (fun y d => (y, d) ∈ (L1.map fun q => V.ref q.1).zip (L1.map fun q => PyData.tuple (q.2.map eI))) ys (L2.map fun q => .tuple (q.2.map eI)) → ys = L2.map fun q => V.ref q.1 := by
        intro L2
        induction L2 with
        | nil =>
          intro ys _ h
          cases h
          rfl
        | cons q L2 ih =>
          intro ys hm h
          cases h with
          | cons h1 h2 =>
            obtain ⟨r, hr, e1, e2⟩ := look _ _ h1
            have : r = q := by
              have i1 : ∀ x ∈ L, ∀ y ∈ L, x.2 = y.2 → x = y := fun x hx y hy e => by
                obtain ⟨i, hi, rfl⟩ := List.getElem_of_mem hx
                obtain ⟨j, hj, rfl⟩ := List.getElem_of_mem hy
                have := (List.getElem_inj (h₀ := by rw [List.length_map]; exact hi) (h₁ := by rw [List.length_map]; exact hj) nd2).mp (by rw [List.getElem_map, List.getElem_map]; exact e)
                subst this
                rfl
              exact i1 r hr q (hm q List.mem_cons_self) e2
            rw [e1, this, List.map_cons, ih _ (fun r hr => hm r (List.mem_cons_of_mem _ hr)) h2]
      exact gen L2 ys m2 he
    rw [key]
    exact q R.nd hfew L2 p (p2.trans p1) (List.pairwise_map.mpr pw) hp
end TP

set_option Elab.async false
set_option linter.all false
set_option maxRecDepth 100000
set_option maxHeartbeats 4000000
set_option autoImplicit false
/-! TP, part 33: sets of tuples as mirrors; members; ranges with a step; tuples that are known to have no dict. -/
namespace TP
open PySem PySem.Spec PyProof.Rows L2
section
variable {κ : Type} [DecidableEq κ]
/-- each once -/
def nub : List κ → List κ
  | [] => []
  | x :: xs => if x ∈ xs then nub xs else x :: nub xs
theorem mem_nub {y : κ} : ∀ {xs : List κ}, y ∈ nub xs ↔ y ∈ xs
  | [] => Iff.rfl
  | x :: xs => by
    rw [nub]
    by_cases h : x ∈ xs
    · rw [if_pos h, mem_nub (xs := xs), List.mem_cons]
      exact ⟨.inr, fun q => q.elim (fun e => e ▸ h) id⟩
    · rw [if_neg h, List.mem_cons, List.mem_cons, mem_nub (xs := xs)]
theorem nub_nodup : ∀ xs : List κ, (nub xs).Nodup
  | [] => List.nodup_nil
  | x :: xs => by
    rw [nub]
    by_cases h : x ∈ xs
    · rw [if_pos h]
      exact nub_nodup xs
    · rw [if_neg h]
      exact List.nodup_cons.mpr ⟨fun q => h (mem_nub.mp q), nub_nodup xs⟩
@[irreducible] def setQ1 (xs : List κ) : Option (List κ) := if xs.length < 64 then some xs else none
@[irreducible] def sortN (e : Enc κ) [TKey e] [Ordl e] (xs : List κ) : Option (List κ) := if xs.all (fun x => !(TKey.toL e x).isEmpty) = true then some (sortL (Ordl.lt e) (nub xs)) else none
theorem setQ1_ok {xs : List κ} (h : xs.length < 64) : setQ1 xs = some xs := by
  unfold setQ1
  rw [if_pos h]
theorem sortN_ok {e : Enc κ} [TKey e] [Ordl e] {xs : List κ} (h : ∀ x ∈ xs, TKey.toL e x ≠ []) : sortN e xs = some (sortL (Ordl.lt e) (nub xs)) := by
  unfold sortN
  rw [if_pos (List.all_eq_true.mpr fun x hx => by
    have := h x hx
    cases q : TKey.toL e x with
    | nil => exact absurd q this
    | cons a b => rfl)]
/-- x in xs -/
def memB {α : Type} [DecidableEq α] (x : α) (xs : List α) : Bool := decide (x ∈ xs)
theorem memB_iff {α : Type} [DecidableEq α] {x : α} {xs : List α} : memB x xs = true ↔ x ∈ xs := decide_eq_true_iff
def rSt (P : Program) (w : World) (e : Enc κ) [TKey e] : Rp (List κ) where
  ok := fun K F H v x A => ∃ a L, v = .ref a ∧ H a = some (SetTO P w a L) ∧ A = [a] ∧ (∀ p ∈ L, SqT K F p.1 (p.2.map V.int)) ∧ (∀ p ∈ L, ∃ y ∈ x, p.2 = TKey.toL e y) ∧ ∀ y ∈ x, ∃ p ∈ L, p.2 = TKey.toL e y
  mono := fun ⟨a, L, h1, h2, h3, h4, h5⟩ s t => by
    subst h3
    exact ⟨a, L, h1, (t a List.mem_cons_self).trans h2, rfl, fun p hp => sqT_sub s (h4 p hp), h5⟩
  dom := fun ⟨a, kvs, h1, h2, h3, h4⟩ b hb => by
    subst h3
    rw [List.mem_singleton] at hb
    subst hb
    rw [h2]
    exact fun z => nomatch z
def vSt (P : Program) (w : World) (e : Enc κ) [TKey e] : View (List κ) := ⟨fun K F H v x => ∃ a L, v = .ref a ∧ H a = some (SetTO P w a L) ∧ (∀ p ∈ L, SqT K F p.1 (p.2.map V.int)) ∧ (∀ p ∈ L, ∃ y ∈ x, p.2 = TKey.toL e y) ∧ ∀ y ∈ x, ∃ p ∈ L, p.2 = TKey.toL e y,
  fun ⟨a, L, h1, h2, h3, h4⟩ s t => ⟨a, L, h1, t _ _ h2, fun p hp => sqT_sub s (h3 p hp), h4⟩⟩
theorem vw_St {P : Program} {w : World} {e : Enc κ} [TKey e] : Vw (rSt P w e) (vSt P w e) := fun _ _ _ _ _ _ _ ⟨a, L, h1, h2, _, h4⟩ => ⟨a, L, h1, h2, h4⟩
theorem rows_of {K : Fg} {F : Hp} {e : Enc κ} [TKey e] : ∀ {vs : List V} {xs : List κ}, DpAll K F vs (xs.map e) → ∃ ks : List (Addr × List Int), vs = ks.map (fun p => V.ref p.1) ∧ ks.map (·.2) = xs.map (TKey.toL e) ∧ ∀ p ∈ ks, SqT K F p.1 (p.2.map V.int)
  | [], [], _ => ⟨[], rfl, rfl, fun p hp => by cases hp⟩
  | v :: vs, x :: xs, .cons h t => by
    obtain ⟨b, rfl, hb⟩ := key_at (e := e) h
    obtain ⟨ks, h1, h2, h3⟩ := rows_of t
    refine ⟨(b, TKey.toL e x) :: ks, by rw [List.map_cons, h1], by rw [List.map_cons, List.map_cons, h2], fun p hp => ?_⟩
    rcases List.mem_cons.mp hp with z | z
    · rw [z]
      exact hb
    · exact h3 p z
theorem lt_toL {e : Enc κ} [TKey e] [Ordl e] (x y : κ) : Ordl.lt e x y = listLt (fun a b => decide (a < b)) (TKey.toL e x) (TKey.toL e y) := by
  rw [← Ordl.lt_eq, TKey.enc (e := e), TKey.enc (e := e), dataLt_ints]
end
section
variable {P : Program} {w : World} {K : Fg} {mg : Str → Option Value} {W : WX} {S : List Sl} {te ta tb tc : TE}
variable {κ : Type} [DecidableEq κ] {e : Enc κ} [TKey e]
theorem o_setOf : Cl1O K (rSetOfT K P w) (vL e) (rSt P w e) setQ1 := fun F H v x z s h1 ez Q q => by
  obtain ⟨l, vs, rfl, g1, g2⟩ := h1
  obtain ⟨ks, rfl, h2, h3⟩ := rows_of g2
  unfold setQ1 at ez
  split at ez
  case isFalse => cases ez
  rename_i c
  cases ez
  have kl : ks.length = x.length := by
    have := congrArg List.length h2
    simpa using this
  refine ⟨l, ks, rfl, g1, fun p hp => sqT_sub s (h3 p hp), by rw [kl]; exact c, fun a L hn m1 m2 => ?_⟩
  have toK : ∀ p ∈ ks, ∃ y ∈ x, p.2 = TKey.toL e y := fun p hp => by
    have : p.2 ∈ x.map (TKey.toL e) := by
      rw [← h2]
      exact List.mem_map.mpr ⟨p, hp, rfl⟩
    obtain ⟨y, hy, e1⟩ := List.mem_map.mp this
    exact ⟨y, hy, e1.symm⟩
  refine q (.ref a) F _ [a] (.newO s hn) ⟨a, L, rfl, upd_same, rfl, fun p hp => h3 p (m1 p hp), fun p hp => toK p (m1 p hp), fun y hy => ?_⟩ ⟨by simp, fun z hz => ?_, fun z hz => ?_⟩
  · have : TKey.toL e y ∈ ks.map (·.2) := by
      rw [h2]
      exact List.mem_map.mpr ⟨y, hy, rfl⟩
    obtain ⟨p, hp, e1⟩ := List.mem_map.mp this
    obtain ⟨r, hr, e2⟩ := List.mem_map.mp (m2 p hp)
    exact ⟨r, hr, e2.trans e1⟩
  · rw [List.mem_singleton] at hz
    rw [hz]
    exact hn
  · rw [List.mem_singleton] at hz
    rw [hz]
    exact s.back hn
theorem o_sortST [Ordl e] : Cl1O K (rSortST P w K) (vSt P w e) (ow (fz e)) (sortN e) := fun F H v x z s h1 ez Q q => by
  obtain ⟨a, L, rfl, g1, g2, g3, g4⟩ := h1
  unfold sortN at ez
  split at ez
  case isFalse => cases ez
  rename_i c
  cases ez
  have ne : ∀ y ∈ x, TKey.toL e y ≠ [] := fun y hy z => by
    have := List.all_eq_true.mp c y hy
    rw [z] at this
    cases this
  refine ⟨a, L, rfl, g1, fun p hp => sqT_sub s (g2 p hp), fun p hp => ?_, fun nd few L' p pm pw hp => ?_⟩
  · obtain ⟨y, hy, e1⟩ := g3 p hp
    rw [e1]
    exact ne y hy
  · -- the sorted rows as keys
    have ex : ∀ L' : List (Addr × List Int), (∀ p ∈ L', p ∈ L) → ∃ ys : List κ, L'.map (·.2) = ys.map (TKey.toL e) ∧ (∀ y ∈ ys, y ∈ x) ∧ DpAll K F (L'.map fun q => V.ref q.1) (ys.map e) := by
      intro L'
      induction L' with
      | nil => exact fun _ => ⟨[], rfl, (fun y hy => nomatch hy), .nil⟩
      | cons r L' ih =>
        intro hm
        obtain ⟨y, hy, e1⟩ := g3 r (hm r List.mem_cons_self)
        obtain ⟨ys, h1, h2, h3⟩ := ih fun q hq => hm q (List.mem_cons_of_mem _ hq)
        refine ⟨y :: ys, by rw [List.map_cons, List.map_cons, h1, e1], fun z hz => ?_, .cons ?_ h3⟩
        · rcases List.mem_cons.mp hz with k | k
          · rw [k]
            exact hy
          · exact h2 z k
        · rw [TKey.enc (e := e)]
          refine .tup (g2 r (hm r List.mem_cons_self)) ?_
          rw [e1]
          exact dp_ints _
    obtain ⟨ys, h1, h2, h3⟩ := ex L' fun p hp => pm.mem_iff.mp hp
    have ndL : (L'.map (·.2)).Nodup := (pm.map (·.2)).nodup_iff.mpr nd
    have ndY : ys.Nodup := by
      rw [h1] at ndL
      exact (List.pairwise_map.mp ndL).imp fun h k => h (by rw [k])
    have asc : Asc (Ordl.lt e) ys := by
      rw [h1] at pw
      exact (List.pairwise_map.mp pw).imp fun {y z} h => by rw [lt_toL]; exact h
    have pm2 : ys.Perm (nub x) := (List.perm_ext_iff_of_nodup ndY (nub_nodup x)).mpr fun y => by
      rw [mem_nub]
      refine ⟨h2 y, fun hy => ?_⟩
      obtain ⟨r, hr, e1⟩ := g4 y hy
      have : r.2 ∈ L'.map (·.2) := List.mem_map.mpr ⟨r, pm.mem_iff.mpr hr, rfl⟩
      rw [h1] at this
      obtain ⟨y', hy', e2⟩ := List.mem_map.mp this
      have := TKey.inj (e := e) _ _ (e2.trans e1)
      rw [← this]
      exact hy'
    have fin : ys = sortL (Ordl.lt e) (nub x) := by
      have ltk : LtOk (Ordl.lt e) := ⟨fun a => by rw [lt_toL]; exact LtOk.irr (lt := listLt fun a b : Int => decide (a < b)) _, fun a b c h1 h2 => by rw [lt_toL] at h1 h2 ⊢; exact LtOk.tr _ _ _ h1 h2, fun a b h1 h2 => by rw [lt_toL] at h1 h2; exact TKey.inj (e := e) _ _ (LtOk.tri _ _ h1 h2)⟩
      exact asc_unique asc (sort_asc _) (pm2.trans (sortL_perm _).symm)
    rw [fin] at h3
    exact newL s h3 hp q

/-! ### range(lo, hi, c) -/
@[irreducible] def okRS (lo hi c : Int) : Option (List Int) := if c ≠ 0 ∧ c.natAbs < 1073741824 ∧ Builtin.Range.small lo hi c = true ∧ 0 ≤ Builtin.Range.rangeSize lo hi c then some ((List.range (Builtin.Range.rangeSize lo hi c).toNat).map fun i : Nat => lo + (i : Int) * c) else none
theorem XI.rng3 {ma mb mc : Res Int} (ha : XB K mg W S ta (vD eI) ma) (hb : XB K mg W S tb (vD eI) mb) (hc : XB K mg W S tc (vD eI) mc) : XI K mg W S (iRng3 (tCons ta (tCons tb (tCons tc tNil)))) eI (ma.bind fun lo => mb.bind fun hi => mc.bind fun c => chk (okRS lo hi c)) := fun F H σ A a Q q =>
  ha F H σ A a _ ((Post.of_bind q).imp (fun x k v F1 H1 p1 u1 => hb F1 H1 σ A (a.pu p1) _ ((Post.of_bind k).imp (fun y k v2 F2 H2 p2 u2 => hc F2 H2 σ A ((a.pu p1).pu p2) _ ((Post.of_bind k).imp (fun z k v3 F3 H3 p3 u3 => by
    obtain ⟨l, el, k⟩ := Post.of_chk k
    unfold okRS at el
    split at el
    case isFalse => cases el
    rename_i c
    cases el
    refine ⟨x, y, z, (Builtin.Range.rangeSize x y z).toNat, by rw [dp_int u1, dp_int u2, dp_int u3], ⟨c.1, c.2.1, c.2.2.1, by omega⟩, k _ F3 H3 ((p1.trans p2).trans p3) fun F4 H4 s1 s2 i => ⟨fun h => (by
      rw [List.length_map, List.length_range] at h
      exact h), fun w hw => ?_⟩⟩
    have hi := (List.getElem?_eq_some_iff.mp hw).1
    rw [List.length_map, List.length_range] at hi
    rw [List.getElem?_map, List.getElem?_range hi] at hw
    refine ⟨hi, fun v H' y => ?_⟩
    obtain ⟨rfl, rfl⟩ := y
    have hx' : x + (i : Int) * z = w := Option.some.inj hw
    subst hx'
    exact ⟨F4, .refl s2, .int _⟩) fun e z => (z.pu p1).pu p2)) fun e z => z.pu p1)) fun e z => z)
/-! ### a tuple that is known to have no dict -/
def NoDt (F : Hp) (a : Addr) : Prop := ∃ o u, F a = some (.frz o u) ∧ o.cls = .type "tuple" ∧ o.dict = none
def tz {α : Type} (e : Enc α) : Rp (List α) where
  ok := fun K F _ v x A => A = [] ∧ Dp K F v (eV e x) ∧ ∀ a, v = .ref a → NoDt F a
  mono := fun ⟨h1, h2, h3⟩ s _ => ⟨h1, dp_sub s h2, fun a ea => by
    obtain ⟨o, u, q, r⟩ := h3 a ea
    exact ⟨o, u, s _ _ q, r⟩⟩
  dom := fun h a ha => by
    rw [h.1] at ha
    cases ha
theorem frz_tz {α : Type} {e : Enc α} : Frz (tz e) (eV e) := fun _ _ _ _ _ _ _ h s _ => dp_sub s h.2.1
theorem vw_tz {α : Type} {e : Enc α} : Vw (tz e) (vD (eV e)) := fun _ _ _ _ _ _ _ h => h.2.1
/-- tuple(xs), the object told -/
def rTupZ (K : Fg) : List V → Hp → VK → Prop := fun xs H Q => ∃ p ys, xs = [.ref p] ∧ SqL K H p ys ∧ ∀ l o, H l = none → o.cls = .type "tuple" → o.dict = none → Q (.ref l) (upd H l (.frz o (.tup ys)))
theorem kTupZ {X : Cx} (hK : X.K = K) : CallR X (.type "tuple") (rTupZ K) := by
  subst hK
  intro pins s σ H xs us Q I r h
  obtain ⟨p, ys, rfl, hq, q⟩ := h
  obtain ⟨u, rfl, rx⟩ := vals1 r
  cases rx
  obtain ⟨its, r', pl, hz⟩ := I.list hq
  have hlen := r'.length
  refine call_tuple_list pl.isList (fun h' kp => ?_) (by simp only [List.size_toArray] <;> omega)
  have I1 : Inv X pins σ H { s with heap := h' } := I.kept (t' := s.toks) kp
  have I2 : Inv X pins σ (upd H h'.objs.size (.frz { cls := .type "tuple", data := .seq its.toArray } (.tup ys))) { s with heap := h'.push { cls := .type "tuple", data := .seq its.toArray } } :=
    I1.laid (t' := s.toks) (fun b o e => Heap.get?_push_of_some _ e) (Nat.le_refl _) (show ObjOk X.prog X.w _ _ _ (.frz _ (.tup ys)) from ⟨Heap.get?_push_size _ rfl, hz, its, r', IsTup.new _ _⟩)
  exact ⟨.ref h'.objs.size, _, I2, rfl, q _ _ (I1.hok.fresh (Nat.le_refl _)) rfl rfl⟩
theorem o_tupZ {α : Type} {e : Enc α} : Cl1O K (rTupZ K) (vL e) (tz e) (fun xs => some xs) := fun F H v x z s h1 ez Q q => by
  obtain ⟨a, vs, rfl, g1, g2⟩ := h1
  cases ez
  refine ⟨a, vs, rfl, g1, fun l o hl c1 c2 => q _ (upd F l (.frz o (.tup vs))) _ [] (.new s hl) ⟨rfl, .tup (.inl (.inr ⟨o, upd_same⟩)) (dpAll_sub (.new (s.back hl)) g2), fun b eb => ?_⟩ ⟨List.nodup_nil, fun _ z => (by cases z), fun _ z => (by cases z)⟩⟩
  cases eb
  exact ⟨o, _, upd_same, c1, c2⟩
/-- t.index(x) -/
def tBMT (K : Fg) (to : TE) (t : TA) : TE := fun σ H Q => to σ H fun x H1 => (∃ a, x = .ref a ∧ NoDt H1 a) ∧ t σ H1 fun xs H2 => rIndexT K x xs H2 Q
theorem pe_bmT {X : Cx} {o e : Expr} {es : List Expr} {to : TE} {t : TA} {apos cpos : Pos} (hK : X.K = K) (pa : PlainAttrs "tuple") (slot : Slot "tuple" "index" "tuple.index") (hty : typeOf (.builtin "tuple.index") = pure (.type "method_descriptor")) (ho : PE X o to) (ha : PA X (e :: es) t)
    (hbase : attributeBase o "index" X.env (eval o X.env) = eval o X.env := by rfl)
    (hfew : ((backTo cpos (starEach (e :: es) X.env)).all (fun x => !x.1) && (backToKw cpos (keywordEach [] X.env)).all (fun x => x.1.isSome)
      && decide ((e :: es).length + ([] : List Keyword).length + (if ([] : List Keyword).isEmpty then 0 else 1) < 30)) = true := by rfl)
    (hline : (apos.endLine == cpos.line) = true := by rfl) (hs : starEach (e :: es) X.env = (false, eval e X.env) :: starEach es X.env := by rfl) (hplain : (backTo cpos (starEach es X.env)).any (·.1) = false := by rfl) :
    PE X (.Call (.Attribute o "index" apos) (e :: es) [] cpos) (tBMT K to t) := by
  subst hK
  refine ⟨fun pins s σ H Q I h => ?_⟩
  refine wpAny_Call_method_late hbase hfew hline rfl (thn (ho.run pins s σ H _ I h) fun v s1 ⟨x, H1, I1, r1, ⟨a, ex, ob, u, hu, c1, c2⟩, q1⟩ => ?_)
  subst ex
  obtain rfl : v = Value.ref a := r1
  obtain ⟨g1, _⟩ := (show ObjOk X.prog X.w H1 s1.heap a (.frz ob u) from I1.hok a _ hu)
  refine ⟨"tuple", "tuple.index", pa, slot, hty, ⟨ob, g1, c1⟩, fun b eb => ?_, ?_⟩
  · cases eb
    exact ⟨ob, g1, c2⟩
  have hA := ha.run cpos pins s1 σ H1 _ I1 q1
  rw [hs] at hA ⊢
  refine Calls.callWith_builtin (by show (false || (backTo cpos (starEach es X.env)).any (·.1)) = false; rw [hplain] <;> rfl) (Calls.evalArgs_plain ?_)
  exact thn hA fun us s2 ⟨vs, H2, I2, r2, q2⟩ => mt_indexT pins s2 σ H2 (.ref a) vs (.ref a) us Q I2 rfl r2 q2
theorem XB.tindex {i : Nat} {x : List Int} {mi : Res Int} (hs : S[i]? = some (.val (tz eI) x)) (hi : XB K mg W S ta (vD eI) mi) :
    XB K mg W S (tBMT K (tVar i) (tCons ta tNil)) (vD eI) (mi.bind fun k => chk (idxQ x k)) := fun F H σ A a Q q => by
  obtain ⟨o, A1, Ai, A2, e1, e2, e3, _⟩ := a.sl.at hs
  cases o with
  | none => exact e3.elim
  | some v =>
    obtain ⟨_, d1, d2⟩ := e3
    obtain ⟨b, vs, rfl, g1, g2⟩ := dp_tup d1
    have ev := dpAll_ints g2
    subst ev
    obtain ⟨ob, u, h1, c1, c2⟩ := d2 b rfl
    refine ⟨_, e1, ⟨b, rfl, ob, u, a.fh _ _ h1, c1, c2⟩, hi F H σ A a _ ((Post.of_bind q).imp (fun k k2 w F2 H2 p2 u2 => ?_) fun e z => z)⟩
    obtain ⟨j, ej, k3⟩ := Post.of_chk k2
    unfold idxQ at ej
    cases c : x.findIdx? (· == k) with
    | none =>
      rw [c] at ej
      cases ej
    | some n =>
      rw [c] at ej
      cases ej
      obtain ⟨hn, f1, f2⟩ := List.findIdx?_eq_some_iff_getElem.mp c
      have hk : k ∈ x := by
        have : x[n] = k := by simpa using f1
        rw [← this]
        exact List.getElem_mem _
      rw [dp_int u2]
      refine ⟨b, x, k, rfl, rfl, sqT_sub (p2.ff.trans p2.fh) g1, hk, ?_⟩
      have e5 : x.idxOf k = n := by
        unfold List.idxOf
        exact (List.findIdx_eq hn).mpr ⟨f1, fun m hm => by simpa using f2 m hm⟩
      rw [e5]
      exact k3 _ F2 H2 p2 (.int _)
theorem o_inM {α : Type} [DecidableEq α] {e : Enc α} [Law e] (hd : Law.dep e ≤ 64 := by decide) : Op K (rInP false K) (vH e) (vL e) vB (fun x ys => some (memB x ys)) := o_inL hd
theorem o_niM {α : Type} [DecidableEq α] {e : Enc α} [Law e] (hd : Law.dep e ≤ 64 := by decide) : Op K (rInP true K) (vH e) (vL e) vB (fun x ys => some (!memB x ys)) := o_niL hd
end
end TP

set_option Elab.async false
set_option linter.all false
set_option maxRecDepth 100000
set_option maxHeartbeats 4000000
set_option autoImplicit false
/-! TP, part 34: a[i][j] += e. -/
namespace TP
open PySem PySem.Spec L2
section
variable {K : Fg} {mg : Str → Option Value} {W : WX} {S : List Sl} {te ta tb tc tv : TE} {t u : TS}
variable {α β τ ι γ κ ζ : Type} {R : Rp α} {B : β → List Sl} {N : Option (τ → List Sl)}
theorem okL_ints {F H : Hp} {vs : List V} {xs : List Int} {A : List Addr} (h : OkL (fz eI) K F H vs xs A) : A = [] ∧ vs = xs.map V.int := by
  obtain ⟨h1, h2⟩ := okL_fz h
  exact ⟨h1, dpAll_ints h2⟩
theorem Y.maug {ρ : Rp (List Int)} [Own ρ (fz eI)] {m : Res (List Int × κ)} {up : κ → List Int → ζ} {Sr : ζ → List Sl} {f : Int → Int → Int} {me mi : Res Int} {k : ζ → Res (Fl α β τ)} (h : XP K mg W S te ρ m up Sr) (hi : XB K mg W S ta (vD eI) mi) (he : XB K mg W S tv (vD eI) me) (hu : ∀ z, Y K mg W (Sr z) u R B N (k z)) :
    Y K mg W S (tSeq (tAugS te ta tv (rGetL K) (ipI f) rSetL) u) R B N (m.bind fun p => mi.bind fun j => (chk (getQ p.1 j)).bind fun x => me.bind fun y => (Res.ok (up p.2 (p.1.set j.toNat (f x y)))).bind k) := ⟨fun h => .bind fun p => .bind fun j => .bind fun x => .bind fun y => .bind fun z => (hu z).no h, fun F H σ A a D q => by
  refine h F H σ A a _ ((Post.of_bind q).imp (fun p k2 v F1 H1 Ai p1 part => hi F1 H1 σ A (a.pu p1) _ ((Post.of_bind k2).imp (fun j k2 jv F2 H2 p2 u2 => ?_) fun e z => z.x.pu p1)) fun e z => z.x)
  obtain ⟨x, e4, k2⟩ := Post.of_chk (Post.of_bind k2)
  unfold getQ at e4
  split at e4
  case isFalse => cases e4
  rename_i c0
  have c1 : j.toNat < p.1.length := (List.getElem?_eq_some_iff.mp e4).1
  have part2 := part.pu p2
  obtain ⟨l, vs, A', e2, hl, e3, okl⟩ := Own.to part2.ok
  obtain ⟨ea, ev⟩ := okL_ints okl
  subst ev
  have hx : p.1[j.toNat] = x := (List.getElem?_eq_some_iff.mp e4).2
  have ej : ((j.toNat : Nat) : Int) = j := Int.toNat_of_nonneg c0
  have hw : (p.1.map V.int)[j.toNat]? = some (.int x) := by rw [List.getElem?_map, e4]; rfl
  have at1 : atI (p.1.map V.int) j = some (.int x) := by
    rw [← ej]
    exact atI_nat hw
  have ix1 : ixN (p.1.map V.int).length j = some j.toNat := by
    unfold ixN
    rw [if_pos c0, if_pos (by rw [List.length_map]; omega)]
  refine ⟨l, p.1.map V.int, j, .int x, e2, dp_int u2, .of hl, c0, at1, ?_⟩
  refine he F2 H2 σ A ((a.pu p1).pu p2) _ ((Post.of_bind k2).imp (fun y k3 yv F3 H3 p3 u3 => ?_) fun e z => (z.x.pu p1).pu p2)
  have part3 := part2.pu p3
  obtain ⟨l3, vs3, A3, e23, hl3, e33, okl3⟩ := Own.to part3.ok
  have el : l3 = l := by
    rw [e2] at e23
    injection e23 with e
    exact e.symm
  subst el
  obtain ⟨ea3, ev3⟩ := okL_ints okl3
  subst ev3
  subst ea3
  subst e33
  have ndA := List.nodup_cons.mp part3.nd
  obtain ⟨A4, a4, q1, q2, q3⟩ := part3.put (.refl (((a.pu p1).pu p2).pu p3).fh) e23 (A2 := []) (ws := (p.1.map V.int).set j.toNat (.int (f x y))) (ys := p.1.set j.toNat (f x y)) (fun z hz => (by cases hz)) List.nodup_nil (fun z hz => (by cases hz)) (okL_of (by
    rw [← List.map_set]
    have : ((p.1.set j.toNat (f x y)).map V.int) = ((p.1.set j.toNat (f x y)).map V.int) := rfl
    exact dp_ints _))
  have p13 := (p1.trans p2).trans p3
  refine ⟨x, y, rfl, dp_int u3, l3, p.1.map V.int, j, j.toNat, e2, dp_int u2, p3.hh l3 _ hl, ix1, (hu _).run F3 _ σ A4 a4 D (Post.from ?_ k3)⟩
  exact ⟨p13.ff, fun z o h hn => q2 z o (p13.hh z o h) hn, fun z h _ => p13.fo z h, fun z hz => (q1 z hz).elim .inl fun h => (by cases h), fun z h => q3 z (ne_none_sub p13.hh h)⟩⟩
end
end TP

set_option Elab.async false
set_option linter.all false
set_option maxRecDepth 100000
set_option maxHeartbeats 4000000
set_option autoImplicit false
/-! TP, part 35: a loop over a dict whose keys are tuples of ints; the dict is locked and no more one's own. -/
namespace TP
open PySem PySem.Spec PyProof.Rows L2
section
variable {X : Cx} {pins : List (Addr × Obj)} {σ : L2.St} {H : Hp} {s : Shared} {d : Addr} {o : Obj} {xs : List (List Int × Addr × V)}
theorem frzX (I : Inv X pins σ H s) (h : H d = some (.frz o (DtO X.prog X.w d xs))) :
    (d == sysModules) = false ∧ s.heap.get? d = some o ∧ o.ExactDict ∧ ∃ (es : Array DictEntry) (ep : Nat), o.data = .dict es ep ∧ es.size = xs.length ∧
      ∀ (i : Nat) (t : List Int × Addr × V), xs[i]? = some t → ∃ en : DictEntry, es[i]? = some en ∧ en.key = .ref t.2.1 := by
  obtain ⟨hd, ⟨z, hs, ys, r, o', es, ep, h1, h2, h3, h4, h5⟩, _⟩ := (show ObjOk X.prog X.w H s.heap d (.frz o (DtO X.prog X.w d xs)) from I.hok d _ h)
  rw [hd] at h1
  cases h1
  have hl : es.size = xs.length := by
    rw [← Array.length_toList, h4, List.length_map, Paired.length r]
  refine ⟨hs, hd, h2, es, ep, h3, hl, fun i t e => ?_⟩
  obtain ⟨hx, et⟩ := List.getElem?_eq_some_iff.mp e
  have hy : i < ys.length := by rw [← Paired.length r]; exact hx
  have gen : ∀ {xs : List (List Int × Addr × V)} {ys : List (List Key × Addr × Value)}, KT3 xs ys → ∀ (i : Nat) (hx : i < xs.length) (hy : i < ys.length), xs[i].2.1 = ys[i].2.1 := by
    intro xs ys r
    induction r with
    | nil => intro i hx; exact absurd hx (Nat.not_lt_zero _)
    | @cons p q ps qs h t ih =>
      intro i hx hy
      cases i with
      | zero => exact h.2.1
      | succ i => exact ih i (by simpa using hx) (by simpa using hy)
  have g := gen r i hx hy
  have e1 : es[i]? = (ys.map (entryOfKey (kT X.prog X.w)))[i]? := by rw [← h4, Array.getElem?_toList]
  rw [List.getElem?_map, List.getElem?_eq_getElem hy] at e1
  refine ⟨_, e1, ?_⟩
  rw [← et, g]
  rfl
end
/-- the keys of the locked dict at d -/
def ItX (P : Program) (w : World) (d : Addr) (o : Obj) (xs : List (List Int × Addr × V)) : It :=
  ⟨fun i H => H d = some (.frz o (DtO P w d xs)) ∧ i < xs.length, fun i H x H' => H' = H ∧ ∃ t, xs[i]? = some t ∧ x = .ref t.2.1, fun i H => H d = some (.frz o (DtO P w d xs)) ∧ xs.length ≤ i⟩
section
variable {P : Program} {w : World} {K : PySem.W.Frag} {tg : Expr} {d : Addr} {o : Obj} {es : Array DictEntry} {ep : Nat}
theorem dict_epX {o : Obj} {es es' : Array DictEntry} {ep ep' : Nat} (h : o.data = .dict es ep) (h' : o.data = .dict es' ep') : es' = es ∧ ep' = ep := by
  rw [h] at h'
  cases h'
  exact ⟨rfl, rfl⟩
theorem turn_dtX {xs : List (List Int × Addr × V)} (it : Addr) (hod : o.data = .dict es ep) : Turn P w K tg (ItX P w d o xs) [it] it (fun i h => h.IsKeyIter it d i xs.length ep) where
  mem := by simp
  obj := fun i h st b hb => by
    have e : b = it := by simpa using hb
    subst e
    obtain ⟨oi, e, c, dd⟩ := st
    exact ⟨oi, e, fun v z => by rw [dd] at z; cases z⟩
  keep := fun i h h' st k => st.at fun oi e => k it (by simp) oi e
  item := by
    intro X hP hw hK hc i pins s σ H E I hf st hg
    subst hP hw hK
    obtain ⟨hd, hi⟩ := hg
    obtain ⟨f0, f1, f2, f3, f4, f5⟩ := hf it (by simp)
    obtain ⟨hs, hgd, hx, es', ep', hdt, hsz, ent⟩ := frzX I hd
    obtain ⟨rfl, rfl⟩ := dict_epX hod hdt
    have hkv : xs[i]? = some xs[i] := List.getElem?_eq_getElem hi
    obtain ⟨en, hen, hkey⟩ := ent i _ hkv
    refine next_key_item st hgd hdt hsz hen fun h' st' sb => ?_
    have I1 : Inv X pins σ H { s with heap := h' } := I.turned (t' := s.toks) (fun b ob hb e => (sb.2 b hb).trans e) f0 f1 f3 f4 f5
    obtain ⟨oi, e, c, dd⟩ := id st'
    exact ⟨en.key, rfl, go_of (s := { s with heap := h' }) e c dd (by decide) ⟨.ref xs[i].2.1, H, I1, hkey, ⟨rfl, xs[i], hkv, rfl⟩, st', fun b hb => (hf b hb).1⟩⟩
  done := by
    intro X hP hw hK hc i pins s σ H E I hf st hg
    subst hP hw hK
    obtain ⟨hd, hi⟩ := hg
    obtain ⟨f0, f1, f2, f3, f4, f5⟩ := hf it (by simp)
    obtain ⟨hs, hgd, hx, es', ep', hdt, hsz, ent⟩ := frzX I hd
    obtain ⟨rfl, rfl⟩ := dict_epX hod hdt
    exact next_key_end (I.ok.hd hc) st hgd hdt hsz hi fun h' eb => ⟨rfl, I.turned (t' := s.toks) (fun b ob hb e => eb b ob hb e) f0 f1 f3 f4 f5⟩
  self := fun A i s Q E st h => by
    refine wpAny_pyIter_slot st.typeIs F.slot_dict_keyiterator_iter (wpAny_call_entry F.slot_dict_keyiterator_iter st.typeIs F.entry_dict_keyiterator_iter ?_ (F.args_dict_keyiterator_iter_1 _))
    show wpAny _ _ (ret (.ref it)) _ _ s
    exact wpAny_pure ⟨_, rfl, "dict_keyiterator", _, st.typeIs, F.slot_dict_keyiterator_next.lookup, h⟩
end
/-- for k in d: d is locked from here on -/
def iDtX (P : Program) (w : World) (td : TE) : TI := fun σ H R => td σ H fun x H1 => ∃ d xs, x = .ref d ∧ H1 d = some (DtO P w d xs) ∧ ∀ od, R (ItX P w d od xs) (upd H1 d (.frz od (DtO P w d xs)))
theorem pi_dtX {X : Cx} {tg e : Expr} {td : TE} (he : PE X e td) : PI X tg e (iDtX X.prog X.w td) := by
  refine ⟨fun pins s σ H R I h => ?_⟩
  refine thn (he.run pins s σ H _ I h) fun u s1 ⟨x, H1, I1, rx, d, xs, ex, hd, q⟩ => ?_
  subst ex
  obtain rfl : u = Value.ref d := rx
  obtain ⟨od, I2⟩ := I1.lock hd trivial
  obtain ⟨hs, hgd, hx, es, ep, hdt, hsz, ent⟩ := frzX I2 upd_same
  refine iter_keys hs hgd hx hdt (pi_one (tk := s1.toks) I2 _ (turn_dtX _ hdt) ⟨_, Heap.get?_push_size _ rfl, rfl, ?_⟩ (q od))
  rw [hsz] <;> rfl
section
variable {K : Fg} {mg : Str → Option Value} {W : WX} {S : List Sl} {P : Program} {w : World} {κ α : Type} [DecidableEq κ]
theorem XIE.dtX {i : Nat} {e : Enc κ} [TKey e] {f : Enc α} {d : List (κ × α)} (hs : S[i]? = some (.val (dt P w e f) d)) :
    XIE K mg W S (iDtX P w (tVar i)) e (fun _ : Unit => S.set i .nil) (.ok (d.map (·.1), ())) := fun F H σ A a Q q => by
  obtain ⟨o, A1, Aj, A2, e1, e2, e3, e4⟩ := a.sl.at hs
  cases o with
  | none => exact e3.elim
  | some v =>
    obtain ⟨b, rs, rfl, g1, g2, g3⟩ := e3
    refine ⟨_, e1, b, rs, rfl, g1, fun od => ?_⟩
    subst g2 e2
    have nd := a.nd
    have fb : F b = none := a.fo b (by simp)
    have n1 := List.nodup_append.mp nd
    have n2 := List.nodup_append.mp n1.2.1
    have b1 : ∀ z ∈ A1, z ≠ b := fun z hz => n1.2.2 z hz b (by simp)
    have b2 : ∀ z ∈ A2, z ≠ b := fun z hz c => n2.2.2 b (by simp) z hz c.symm
    have sF : Sub F (upd F b (.frz od (DtO P w b rs))) := fun z u h => by
      rw [upd_ne (fun c => by rw [c, fb] at h; cases h)]
      exact h
    have sFH : Sub (upd F b (.frz od (DtO P w b rs))) (upd H b (.frz od (DtO P w b rs))) := fun z u h => by
      by_cases c : z = b
      · subst c
        rw [upd_same] at h ⊢
        exact h
      · rw [upd_ne c] at h ⊢
        exact a.fh z u h
    have d0 := e4 (upd F b (.frz od (DtO P w b rs))) (upd H b (.frz od (DtO P w b rs))) (some (.ref b)) .nil [] sF (fun z hz => upd_ne (hz.elim (b1 z) (b2 z))) rfl
    have es : σ.set i (some (.ref b)) = σ := by
      refine List.ext_getElem? fun m => ?_
      by_cases z : i = m
      · subst z
        rw [e1, List.getElem?_set_self (by
          obtain ⟨hl, _⟩ := List.getElem?_eq_some_iff.mp e1
          exact hl)]
      · rw [List.getElem?_set_ne z]
    rw [es] at d0
    refine q _ (upd F b (.frz od (DtO P w b rs))) (upd H b (.frz od (DtO P w b rs))) _ ⟨sF, fun z u h hn => ?_, fun z h hn => ?_, fun z hz => ?_, fun z h => ?_⟩ ⟨sFH, ?_, fun z hz => ?_, d0⟩ ?_
    · rw [upd_ne (fun c => hn (by rw [c]; simp))]
      exact h
    · rw [upd_ne (fun c => hn (by rw [c]; simp))]
    · left
      rcases List.mem_append.mp hz with c | c
      · simp [c]
      · rw [List.nil_append] at c
        simp [c]
    · by_cases c : z = b
      · rw [c, upd_same]
        exact fun z => nomatch z
      · rw [upd_ne c]
        exact h
    · exact nd.sublist (List.Sublist.append_left (List.sublist_append_right _ _) _)
    · have zb : z ≠ b := by
        rcases List.mem_append.mp hz with c | c
        · exact b1 z c
        · rw [List.nil_append] at c
          exact b2 z c
      rw [upd_ne zb]
      refine a.fo z ?_
      rcases List.mem_append.mp hz with c | c
      · simp [c]
      · rw [List.nil_append] at c
        simp [c]
    · have hr := dtr_refs (g3.sub sF)
      have hl := g3.len
      intro F2 H2 s1 s2 j
      have at2 : H2 b = some (.frz od (DtO P w b rs)) := s2 b _ (s1 b _ upd_same)
      refine ⟨fun hj => ⟨at2, by rw [hl]; simpa using hj⟩, fun x hx => ?_⟩
      have jl : j < rs.length := by
        obtain ⟨h, _⟩ := List.getElem?_eq_some_iff.mp hx
        rw [hl]
        simpa using h
      refine ⟨⟨at2, jl⟩, fun v H' y => ?_⟩
      obtain ⟨rfl, t, ht, rfl⟩ := y
      refine ⟨F2, .refl s2, ?_⟩
      obtain ⟨v, h3, h4⟩ := dpAll_get (d := e x) hr (by rw [List.getElem?_map, hx]; rfl)
      rw [List.getElem?_map, ht] at h3
      cases h3
      exact dp_sub s1 h4
end
end TP

set_option Elab.async false
set_option linter.all false
set_option maxRecDepth 100000
set_option maxHeartbeats 4000000
set_option autoImplicit false
/-! TP, part 36: a loop over zip(a list of one's own, data); the list stays as it is while it is walked. -/
namespace TP
open PySem PySem.Spec L2
section
variable {K : Fg} {mg : Str → Option Value} {W : WX} {S T : List Sl} {te ta tb tc : TE} {α β γ ι κ τ τ1 : Type} {R : Rp α} {B : β → List Sl}
theorem set_selfO {σ : L2.St} {i : Nat} {o : Option V} (e : σ[i]? = some o) : σ.set i o = σ := by
  refine List.ext_getElem? fun m => ?_
  by_cases z : i = m
  · subst z
    rw [e, List.getElem?_set_self (List.getElem?_eq_some_iff.mp e).1]
  · rw [List.getElem?_set_ne z]
theorem At.unpin {F H : Hp} {σ : L2.St} {A : List Addr} {i : Nat} {v : V} {r : Rp κ} {x : κ} (a : At K F H σ T A) (h : T[i]? = some (.val (pin v r) x)) : At K F H σ (T.set i (.val r x)) A := by
  obtain ⟨o, A1, Ai, A2, e1, e2, e3, e4⟩ := a.sl.at h
  cases o with
  | none => exact e3.elim
  | some u =>
    have e3' : u = v ∧ r.ok K F H u x Ai := e3
    have k := e4 F H (some u) (.val r x) Ai (.refl _) (fun _ _ => rfl) e3'.2
    rw [set_selfO e1, ← e2] at k
    exact ⟨a.fh, a.nd, a.fo, k⟩
theorem At.dopin {F H : Hp} {σ : L2.St} {A : List Addr} {i : Nat} {r : Rp κ} {x : κ} (a : At K F H σ T A) (h : T[i]? = some (.val r x)) : ∃ v Ai, σ[i]? = some (some v) ∧ r.ok K F H v x Ai ∧ At K F H σ (T.set i (.val (pin v r) x)) A := by
  obtain ⟨o, A1, Ai, A2, e1, e2, e3, e4⟩ := a.sl.at h
  cases o with
  | none => exact e3.elim
  | some u =>
    have e3' : r.ok K F H u x Ai := e3
    have k := e4 F H (some u) (.val (pin u r) x) Ai (.refl _) (fun _ _ => rfl) ⟨rfl, e3'⟩
    rw [set_selfO e1, ← e2] at k
    exact ⟨u, Ai, e1, e3', a.fh, a.nd, a.fo, k⟩
/-- what is walked while the slots are N s -/
def WalkA (K : Fg) (e : Enc ι) (J : It) (F : Hp) (N : τ → List Sl) (xs : List ι) : Prop := ∀ s F2 H2 σ2 A2, Sub F F2 → At K F2 H2 σ2 (N s) A2 → ∀ i : Nat, (xs.length ≤ i → J.stop i H2) ∧
  ∀ x, xs[i]? = some x → J.go i H2 ∧ ∀ v H', J.yld i H2 v H' → ∃ F', Pu F2 H2 F' H' ∧ Dp K F' v (e x)
theorem Y.forA {i : Nat} {r : Rp κ} {x0 : κ} {wi : TI} {g : TG} {tb : TS} {e : Enc ι} {ml : Res (List ι)} {N1 : V → τ1 → List Sl} {N2 : τ1 → List Sl} {S' : V → τ1 → ι → List Sl} {f : ι → τ1 → Res (Fl α τ1 τ1)} {s0 : τ1}
    (hs : S[i]? = some (.val r x0)) (hN : ∀ v s, (N1 v s)[i]? = some (.val (pin v r) x0)) (hN2 : ∀ v s, (N1 v s).set i (.val r x0) = N2 s)
    (hi : ∀ F H σ A v, At K F H σ S A → (∃ Ai, r.ok K F H v x0 Ai) → σ[i]? = some (some v) → ∀ Q : It → Hp → Prop, Post ml (fun xs => ∀ J F' H', Pu F H F' H' → WalkA K e J F' (N1 v) xs → Q J H') (YEr K mg W F H A) → wi σ H Q)
    (hw : ∀ v, Wk (S.set i (.val (pin v r) x0)) (N1 v s0)) {ts : List Nat} (hg : ∀ v s, XTg K (N1 v s) g ts e (S' v s)) (hb : ∀ v x s, Y K mg W (S' v s x) tb R (N1 v) (some (N1 v)) (f x s)) :
    Y K mg W S (tFor wi g tb) R B (some N2) (ml.bind fun xs => forR f xs s0) := ⟨fun h => (nomatch h), fun F H σ A a D q => by
  obtain ⟨v0, Ai, ev, okv, _⟩ := a.dopin hs
  have un : ∀ {F' H' : Hp} {σ' : L2.St} {A' : List Addr} {s : τ1}, At K F' H' σ' (N1 v0 s) A' → At K F' H' σ' (N2 s) A' := fun {F' H' σ' A' s} a' => by
    have := a'.unpin (hN v0 s)
    rw [hN2] at this
    exact this
  refine hi F H σ A v0 a ⟨Ai, okv⟩ ev _ ((Post.of_bind q).imp (fun xs k J F1 H1 p1 wk => ?_) fun e z => z)
  have a1 := a.pu p1
  obtain ⟨v1, Ai1, ev1, okv1, ap⟩ := a1.dopin hs
  rw [ev] at ev1
  cases ev1
  have n1 : Nx F H A F1 H1 A := p1.nx fun z hz => .inl hz
  refine ⟨fun i m σ2 H2 => m = xs.length - i ∧ i ≤ xs.length ∧ ∃ F2 A2 s, Sub F1 F2 ∧ Nx F H A F2 H2 A2 ∧ At K F2 H2 σ2 (N1 v0 s) A2 ∧ Post (forR (β := β) f (xs.drop i) s) (YOk K F H A R B (some N2) D) (YEr K mg W F H A), ?_, ?_⟩
  · obtain ⟨A', h1, sub⟩ := hw v0 K F1 H1 σ A ap.sl
    exact ⟨xs.length, by simp, Nat.zero_le _, F1, A', s0, .refl _, n1.less fun z hz => sub.mem hz, ⟨a1.fh, a1.nd.sublist sub, fun z hz => a1.fo z (sub.mem hz), h1⟩, k⟩
  · rintro i m σ2 H2 ⟨rfl, hle, F2, A2, s, sf, n, a2, k2⟩
    obtain ⟨stop, go⟩ := wk s F2 H2 σ2 A2 sf a2 i
    by_cases hlt : i < xs.length
    · obtain ⟨g1, g2⟩ := go xs[i] (by simp [hlt])
      refine .inr ⟨g1, fun σ' H' => ∃ F3 A3 s3, Sub F1 F3 ∧ Nx F H A F3 H' A3 ∧ At K F3 H' σ' (N1 v0 s3) A3 ∧ Post (forR (β := β) f (xs.drop (i + 1)) s3) (YOk K F H A R B (some N2) D) (YEr K mg W F H A), fun σ' H' ⟨F3, A3, s3, h1, h2, h3, h4⟩ => ⟨xs.length - (i + 1), by omega, rfl, hlt, F3, A3, s3, h1, h2, h3, h4⟩, fun v H3 y => ?_⟩
      obtain ⟨F3, p3, d⟩ := g2 v H3 y
      refine hg v0 s F3 H3 σ2 A2 v _ (a2.pu p3) d _ fun σ4 A4 a4 sub _ => ?_
      have n4 : Nx F H A F3 H3 A4 := n.trans (p3.nx fun z hz => .inl (sub z hz))
      rw [List.drop_eq_getElem_cons hlt] at k2
      refine (hb v0 xs[i] s).run F3 H3 σ4 A4 a4 _ ((Post.of_bind k2).imp (fun fl k3 => match fl, k3 with
        | .nx s', k3 => fun F' H' σ' A' x a' => ⟨F', A', s', (sf.trans p3.ff).trans x.ff, n4.trans x, a', k3⟩
        | .ct s', k3 => fun F' H' σ' A' x a' => ⟨F', A', s', (sf.trans p3.ff).trans x.ff, n4.trans x, a', k3⟩
        | .bk s', k3 => fun F' H' σ' A' x a' => k3 F' H' σ' A' (n4.trans x) (un a')
        | .rt r, k3 => fun F' H' v Av y s r nd fo => k3 F' H' v Av (n4.trans y) s r nd fo) fun e z => YEr.from n4 z)
    · have e : i = xs.length := by omega
      subst e
      rw [List.drop_length] at k2
      exact .inl ⟨stop (Nat.le_refl _), k2 F2 H2 σ2 A2 n (un a2)⟩⟩
/-- for .. in zip(one's own list, data) -/
theorem Y.forZ {i : Nat} {e : Enc ι} {f' : Enc γ} {xs : List ι} {mb : Res (List γ)} {g : TG} {tt : TS} {N1 : V → τ1 → List Sl} {N2 : τ1 → List Sl} {S' : V → τ1 → (ι × γ) → List Sl} {f : (ι × γ) → τ1 → Res (Fl α τ1 τ1)} {s0 : τ1}
    (hs : S[i]? = some (.val (ow (fz e)) xs)) (h2 : XB K mg W S tb (vD (eL f')) mb) (hN : ∀ v s, (N1 v s)[i]? = some (.val (pin v (ow (fz e))) xs)) (hN2 : ∀ v s, (N1 v s).set i (.val (ow (fz e)) xs) = N2 s)
    (hw : ∀ v, Wk (S.set i (.val (pin v (ow (fz e))) xs)) (N1 v s0)) {ts : List Nat} (hg : ∀ v s, XTg K (N1 v s) g ts (e2 e f') (S' v s)) (hb : ∀ v x s, Y K mg W (S' v s x) tt R (N1 v) (some (N1 v)) (f x s)) :
    Y K mg W S (tFor (iZip K (tCons (tVar i) (tCons tb tNil))) g tt) R B (some N2) (mb.bind fun ys => forR f (xs.zip ys) s0) := by
  have := Y.forA (K := K) (mg := mg) (W := W) (S := S) (R := R) (B := B) (i := i) (r := ow (fz e)) (x0 := xs) (wi := iZip K (tCons (tVar i) (tCons tb tNil))) (g := g) (tb := tt) (e := e2 e f') (ml := mb.bind fun ys => .ok (xs.zip ys)) (N1 := N1) (N2 := N2) (S' := S') (f := f) (s0 := s0) hs hN hN2 ?_ hw hg hb
  · have e : ((mb.bind fun ys => .ok (xs.zip ys)).bind fun xs => (forR f xs s0 : Res (Fl α β τ1))) = mb.bind fun ys => forR f (xs.zip ys) s0 := by
      cases mb <;> rfl
    rw [e] at this
    exact this
  · rintro F H σ A v a ⟨Ai, ok⟩ ev Q q
    refine ⟨v, ev, h2 F H σ A a _ ((Post.of_bind q).imp (fun ys k w F1 H1 p1 u1 => ?_) fun e z => z.x)⟩
    obtain ⟨l, vs, A', rfl, hl, e3, okl⟩ := ok
    obtain ⟨b, ws, rfl, g1, g2⟩ := dp_lst u1
    refine ⟨l, b, vs, ws, rfl, .of (p1.hh _ _ hl), sqL_sub p1.fh g1, k _ F1 H1 p1 fun s F2 H2 σ2 A2 s1 a2 j => ?_⟩
    obtain ⟨o, C1, Ci, C2, f1, f2, f3, f4⟩ := a2.sl.at (hN (.ref l) s)
    cases o with
    | none => exact f3.elim
    | some u =>
      obtain ⟨rfl, l2, vs2, A2', hu, hl2, _, okl2⟩ := f3
      cases hu
      have dz := (okL_fz okl2).2
      have l1 : vs2.length = xs.length := by rw [dpAll_len dz, List.length_map]
      have lw : ws.length = ys.length := by rw [dpAll_len g2, List.length_map]
      have sq2 : SqL K H2 b ws := sqL_sub a2.fh (sqL_sub s1 g1)
      refine ⟨fun hi => ⟨vs2, ws, .of hl2, sq2, ?_⟩, fun x hx => ?_⟩
      · rw [List.length_zip] at hi
        rw [l1, lw]
        omega
      · have hi := (List.getElem?_eq_some_iff.mp hx).1
        rw [List.length_zip] at hi
        have i1 : j < xs.length := by omega
        have i2 : j < ys.length := by omega
        have hx' : x = (xs[j], ys[j]) := by
          rw [List.getElem?_eq_getElem (by rw [List.length_zip]; omega), List.getElem_zip] at hx
          exact (Option.some.inj hx).symm
        obtain ⟨v, h3, h4⟩ := dpAll_get (i := j) (d := e xs[j]) dz (by simp [i1])
        obtain ⟨w, g3, g4⟩ := dpAll_get (i := j) (d := f' ys[j]) g2 (by simp [i2])
        refine ⟨⟨vs2, ws, v, w, .of hl2, sq2, h3, g3⟩, fun z H' y => ?_⟩
        obtain ⟨T, z1, z2, rfl, hT, rfl, q1, q2⟩ := y
        have e1 := q1 vs2 (.of hl2)
        have e2 := q2 ws sq2
        rw [h3] at e1
        rw [g3] at e2
        cases e1
        cases e2
        have hn := Pu.new (o := .tup [v, w]) a2.fh hT
        refine ⟨_, hn, ?_⟩
        rw [hx']
        exact .tup (.of upd_same) (.cons (dp_sub hn.ff h4) (.cons (dp_sub (s1.trans hn.ff) g4) .nil))
end
end TP

set_option Elab.async false
set_option linter.all false
set_option maxRecDepth 100000
set_option maxHeartbeats 4000000
set_option autoImplicit false
/-! TP, part 37: f(..)[c] of a call that changes something. -/
namespace TP
open PySem PySem.Spec L2
section
variable {K : Fg} {mg : Str → Option Value} {W : WX} {S : List Sl} {ta : TE} {α β τ : Type} {N : τ → List Sl}
theorem XE.proj {e : Enc α} {f : Enc β} {m : Res (α × τ)} {D : α → List PyData} {g : α → β} (j : Nat) (h : XE K mg W S ta (vD e) N m) (he : ∀ x, e x = .tuple (D x)) (hi : ∀ x, (D x)[j]? = some (f (g x))) :
    XE K mg W S (tOp (rIxT K) ta (tC (.int (j : Int)))) (vD f) N (m.bind fun x => .ok (g x.1, x.2)) := fun F H σ A a Q q =>
  h F H σ A a _ ((Post.of_bind q).imp (fun p k v F1 H1 A1 n1 a1 u1 => by
    have u1' : Dp K F1 v (e p.1) := u1
    rw [he] at u1'
    obtain ⟨b, vs, rfl, g1, g2⟩ := dp_tup u1'
    obtain ⟨w, g3, g4⟩ := dpAll_get g2 (hi p.1)
    exact ⟨b, vs, _, w, rfl, rfl, sqT_sub a1.fh g1, atI_nat g3, k w F1 H1 A1 n1 a1 g4⟩) fun _ z => z)
end
end TP

set_option Elab.async false
set_option linter.all false
set_option maxRecDepth 100000
set_option maxHeartbeats 4000000
set_option autoImplicit false
/-! TP, part 38: data of any kind: len, and taken apart. -/
namespace TP
open PySem PySem.Spec L2
def lenA : PyData → Option Int
  | .list xs => some xs.length
  | .tuple xs => some xs.length
  | _ => none
theorem o_lenA {K : Fg} : Cl1 K (fun xs H Q => ∃ p ys, xs = [.ref p] ∧ (SqL K H p ys ∨ SqT K H p ys) ∧ Q (.int ys.length) H) (vD eA) vI lenA := fun F H v x z s h1 ez Q q => by
  have h1' : Dp K F v x := h1
  cases x with
  | list xs =>
    cases ez
    obtain ⟨a, vs, rfl, g1, g2⟩ := dp_lst h1'
    refine ⟨a, vs, rfl, .inl (sqL_sub s g1), ?_⟩
    rw [dpAll_len g2]
    exact q _ F H (.refl s) (.int _)
  | tuple xs =>
    cases ez
    obtain ⟨a, vs, rfl, g1, g2⟩ := dp_tup h1'
    refine ⟨a, vs, rfl, .inr (sqT_sub s g1), ?_⟩
    rw [dpAll_len g2]
    exact q _ F H (.refl s) (.int _)
  | _ => cases ez
def decT2 : PyData → Option (PyData × PyData)
  | .tuple [a, b] => some (a, b)
  | _ => none
theorem decT2_ok (y : PyData) (x : PyData × PyData) (h : decT2 y = some x) : (e2 eA eA) x = y := by
  unfold decT2 at h
  split at h
  · cases h
    rfl
  · cases h
def decT3 : PyData → Option (PyData × PyData × PyData)
  | .tuple [a, b, c] => some (a, b, c)
  | _ => none
theorem decT3_ok (y : PyData) (x : PyData × PyData × PyData) (h : decT3 y = some x) : (e3 eA eA eA) x = y := by
  unfold decT3 at h
  split at h
  · cases h
    rfl
  · cases h
end TP

set_option Elab.async false
set_option linter.all false
set_option maxRecDepth 100000
set_option maxHeartbeats 4000000
set_option autoImplicit false
/-! TP, part 39: n in range(m), the machine's rules. -/
namespace TP
open PySem PySem.Spec PyProof.Rows L2
def RgO (a : Addr) (m : Int) : HO := .ext fun h => ∃ t u v, IsRange h a 0 m 1 t u v
theorem rgO_ok {P : Program} {w : World} {H : Hp} {h : Heap} {a : Addr} {m : Int} {t u v : Tok} (x : IsRange h a 0 m 1 t u v) : ObjOk P w H h a (RgO a m) :=
  ⟨⟨t, u, v, x⟩, ⟨_, x⟩, fun h1 h2 p k => by
    obtain ⟨t, u, v, x⟩ := p
    exact ⟨t, u, v, k _ x⟩⟩
/-- range(m), as a thing -/
def tRg (ta : TA) : TE := fun σ H Q => ta σ H fun vs H1 => ∃ m, vs = [.int m] ∧ ∀ p, H1 p = none → Q (.ref p) (upd H1 p (RgO p m))
theorem pe_rg {X : Cx} {a : Expr} {ta : TA} {p pos : Pos} (hg : Gl X "range") (hm : X.mg "range" = none) (ha : PA X [a] ta) (hs : starEach [a] X.env = [(false, eval a X.env)] := by rfl) : PE X (.Call (.Name "range" p) [a] [] pos) (tRg ta) := by
  refine ⟨fun pins s σ H Q I h => ?_⟩
  refine Call_ (ld_blt I hg hm boot_range (PyProof.Rows.callWith_type1 (thn (ha.run pos pins s σ H _ I h) fun us s1 ⟨vs, H1, I1, r1, q1⟩ => ?_) hs rfl))
  obtain ⟨m, e, q⟩ := q1
  subst e
  cases r1 with
  | cons r rr =>
    cases rr
    obtain ⟨t, rfl⟩ := r
    exact call_range_1 ⟨.ref s1.heap.objs.size, _, I1.laid (a := s1.heap.objs.size) (o := RgO s1.heap.objs.size m) (t' := s1.toks + 1 + 1) (fun _ _ q => Heap.get?_push_of_some _ q) (Nat.le_refl _) (rgO_ok (Heap.get?_push_size _ rfl)), rfl, q _ (I1.hok.fresh (Nat.le_refl _))⟩
theorem place_in (m i : Int) : (Builtin.Range.rangePlace? 0 m 1 i).isSome = decide (0 ≤ i ∧ i < m) := by
  unfold Builtin.Range.rangePlace?
  by_cases c : 0 ≤ i ∧ i < m
  · have e : (i - 0) % 1 = 0 := by omega
    simp [c.1, c.2]
  · have : ¬(0 ≤ i ∧ i < m) := c
    by_cases h1 : 0 ≤ i
    · have h2 : ¬i < m := fun z => c ⟨h1, z⟩
      simp [h1, h2]
    · simp [h1]
def rRgIn (neg : Bool) : R2 := fun y x H Q => ∃ i a m, y = .int i ∧ x = .ref a ∧ H a = some (RgO a m) ∧ Q (.bl (neg != decide (0 ≤ i ∧ i < m))) H
theorem rg_contains {X : Cx} {pins : List (Addr × Obj)} {σ : L2.St} {H : Hp} {s : Shared} {a : Addr} {m i : Int} {t : Tok} {Q : Bool → Shared → Prop} {E : Value → Shared → Prop} (I : Inv X pins σ H s) (e : H a = some (RgO a m)) (h : Q (decide (0 ≤ i ∧ i < m)) s) : wpAny (model X.prog X.w) X.A (contains (.ref a) (.int i t)) Q E s := by
  obtain ⟨⟨t0, u0, v0, hr⟩, _⟩ := (show ObjOk X.prog X.w H s.heap a (RgO a m) from I.hok a _ e)
  have hT : s.TypeIs (.ref a) "range" := ⟨_, hr, rfl⟩
  refine wpAny_contains_slot hT F.slot_range_contains (wpAny_call_entry F.slot_range_contains hT F.entry_range_contains ?_ (F.args_range_contains_2 _ _))
  unfold Builtin.«range.__contains__»
  refine wpAny_bind ?_
  show wpAny _ _ (pure (Value.ref a, [Value.int i t])) _ _ s
  refine wpAny_pure ?_
  show wpAny _ _ (rule "range.contains.reckoned" >>= _) _ _ s
  refine wpAny_bind (wpAny_rule ?_)
  refine wpAny_bind (wpAny_rangeFields hr ?_)
  show wpAny _ _ (ret (.bool (Builtin.Range.rangePlace? 0 m 1 i).isSome)) _ _ s
  refine wpAny_pure ?_
  rw [place_in]
  exact ⟨_, rfl, wpAny_truthy_bool h⟩
theorem op_inRg {X : Cx} : OpR X (compareOp .In) (rRgIn false) := by
  intro pins s σ H y x u v Q I ry rx h
  obtain ⟨i, a, m, rfl, rfl, e, q⟩ := h
  obtain ⟨t, rfl⟩ := ry
  cases rx
  show wpAny _ _ (do return Value.bool (← contains (Value.ref a) (Value.int i t))) _ _ s
  refine wpAny_bind (rg_contains I e ?_)
  refine wpAny_pure ⟨.bl _, H, I, ?_, q⟩
  show Value.bool _ = Value.bool _
  cases decide (0 ≤ i ∧ i < m) <;> rfl
theorem op_niRg {X : Cx} : OpR X (compareOp .NotIn) (rRgIn true) := by
  intro pins s σ H y x u v Q I ry rx h
  obtain ⟨i, a, m, rfl, rfl, e, q⟩ := h
  obtain ⟨t, rfl⟩ := ry
  cases rx
  show wpAny _ _ (do return Value.bool !(← contains (Value.ref a) (Value.int i t))) _ _ s
  refine wpAny_bind (rg_contains I e ?_)
  refine wpAny_pure ⟨.bl _, H, I, ?_, q⟩
  show Value.bool _ = Value.bool _
  cases decide (0 ≤ i ∧ i < m) <;> rfl
def vRg : View Int := ⟨fun _ F _ v m => ∃ a, v = .ref a ∧ F a = some (RgO a m), fun ⟨a, h1, h2⟩ s _ => ⟨a, h1, s _ _ h2⟩⟩
theorem XB.rng {K : Fg} {mg : Str → Option Value} {W : WX} {S : List Sl} {ta : TE} {mi : Res Int} (h : XB K mg W S ta (vD eI) mi) : XB K mg W S (tRg (tCons ta tNil)) vRg mi := fun F H σ A a Q q =>
  h F H σ A a _ (q.imp (fun n k v F1 H1 p1 u1 => ⟨n, by rw [dp_int u1], fun p hp => k (.ref p) _ _ (p1.trans (Pu.new (o := RgO p n) p1.fh hp)) ⟨p, rfl, upd_same⟩⟩) fun _ z => z)
theorem o_inRg {K : Fg} : Op K (rRgIn false) (vD eI) vRg vB (fun i m => some (decide (0 ≤ i ∧ i < m))) := fun F H v u x y z s h1 h2 ez Q q => by
  cases ez
  obtain ⟨a, rfl, e⟩ := h2
  refine ⟨x, a, y, dp_int h1, rfl, s _ _ e, ?_⟩
  have : (false != decide (0 ≤ x ∧ x < y)) = decide (0 ≤ x ∧ x < y) := by cases decide (0 ≤ x ∧ x < y) <;> rfl
  rw [this]
  exact q _ F H (.refl s) (.bl _)
theorem o_niRg {K : Fg} : Op K (rRgIn true) (vD eI) vRg vB (fun i m => some (!decide (0 ≤ i ∧ i < m))) := fun F H v u x y z s h1 h2 ez Q q => by
  cases ez
  obtain ⟨a, rfl, e⟩ := h2
  refine ⟨x, a, y, dp_int h1, rfl, s _ _ e, ?_⟩
  have : (true != decide (0 ≤ x ∧ x < y)) = !decide (0 ≤ x ∧ x < y) := by cases decide (0 ≤ x ∧ x < y) <;> rfl
  rw [this]
  exact q _ F H (.refl s) (.bl _)
/-- a tuple of any things -/
def decVA : PyData → Option (List PyData)
  | .tuple xs => some xs
  | _ => none
theorem decVA_ok (y : PyData) (x : List PyData) (h : decVA y = some x) : (eV eA) x = y := by
  unfold decVA at h
  split at h
  · cases h
    show PyData.tuple (List.map (fun d => d) _) = _
    rw [List.map_id']
  · cases h
def decE3 {α β γ : Type} (da : PyData → Option α) (db : PyData → Option β) (dc : PyData → Option γ) : PyData → Option (α × β × γ)
  | .tuple [x, y, z] => (da x).bind fun a => (db y).bind fun b => (dc z).map fun c => (a, b, c)
  | _ => none
theorem decE3_ok {α β γ : Type} {e : Enc α} {f : Enc β} {g : Enc γ} {da : PyData → Option α} {db : PyData → Option β} {dc : PyData → Option γ} (ha : ∀ y x, da y = some x → e x = y) (hb : ∀ y x, db y = some x → f x = y) (hc : ∀ y x, dc y = some x → g x = y) : ∀ y x, decE3 da db dc y = some x → (e3 e f g) x = y := fun y x h => by
  unfold decE3 at h
  split at h
  · obtain ⟨a, h1, h⟩ := Option.bind_eq_some_iff.mp h
    obtain ⟨b, h2, h⟩ := Option.bind_eq_some_iff.mp h
    obtain ⟨c, h3, h⟩ := Option.map_eq_some_iff.mp h
    subst h
    show PyData.tuple [e a, f b, g c] = _
    rw [ha _ _ h1, hb _ _ h2, hc _ _ h3]
  · cases h
/-- a list told as one of another kind, item by item -/
theorem castL_eq {α β : Type} {e : Enc α} {f : Enc β} {g : α → β} (h : ∀ x, f (g x) = e x) : ∀ xs : List α, (eL f) (xs.map g) = (eL e) xs := fun xs => by
  show PyData.list ((xs.map g).map f) = PyData.list (xs.map e)
  rw [List.map_map]
  congr 1
  exact List.map_congr_left fun x _ => h x
end TP

set_option Elab.async false
set_option linter.all false
set_option maxRecDepth 100000
set_option maxHeartbeats 4000000
/-! TP, part 40: the exception that a clause holds is handed to a function. -/
namespace TP
open PySem PySem.Spec PyProof.Rows L2

theorem hu100H {A : Around} {k : Nat} (hr : L2H.RoomH k A) : A.units + 100 < cLine := by
  have := hr.un
  omega
theorem hu1H {A : Around} {k : Nat} (hr : L2H.RoomH k A) : A.units + 1 < cLine := by
  have := hr.un
  omega
section
variable {K : Fg} {mg : Str → Option Value} {W : WX} {S S0 S' : List Sl} {te ta tb tc : TE} {tt : TT} {t t1 t2 u : TS}
variable {α β τ τ1 ι γ : Type} {R : Rp α} {B : β → List Sl} {N : Option (τ → List Sl)}
theorem YE.never {m : Res (Fl α β τ)} (h : m = .bad := by rfl) : YE K mg W S (tSeq tNever u) R B N S0 m := by
  subst h
  exact ⟨fun _ s e => (by cases e), fun F H σ A a D q => q.elim⟩
end

/-! ### fields, isinstance: the object is pinned -/
theorem pe_xfP {X : Cx} {a : Addr} {oe : Obj} {cls : Value} {d : Option Addr} {e : Expr} {te : TE} {pos : Pos} {n : Str} (hp : (a, oe) ∈ X.pn) (hz : Zc cls d oe) (hf : ∃ vs, oe.data = .fields vs) (he : PE X e te) (hb : attributeBase e n X.env (eval e X.env) = eval e X.env := by rfl) :
    PE X (.Attribute e n pos) (tXfA X.K a cls d n te) := by
  refine ⟨fun pins s σ H Q I h => attr_of hb (thn (he.run pins s σ H _ I h) fun u s1 hh => ?_)⟩
  obtain ⟨x, H1, I1, rx, ex, C, dd, fs, v, ec, T, hno, ed, ea, l, q⟩ := hh
  subst ex ec ed
  obtain rfl : u = Value.ref a := rx
  have ha := (I1.pin (a, oe) (List.mem_append_left _ hp)).1
  obtain ⟨vs, hd⟩ := hf
  obtain ⟨mA, hns, hr⟩ := (I1.hok dd _ ea : ObjOk X.prog X.w H1 s1.heap dd (.xd fs))
  obtain ⟨od, ho, hl⟩ := lookIn_ns hns
  obtain ⟨u, hu, ru⟩ := RelO.some_of (v := v) (o := mA n) (by rw [← l]; exact hr n)
  have J : PySem.W.InstAt s1.heap a oe C (some od) := ⟨ha, hz.1, by unfold PySem.W.notCls; rw [hd] <;> rfl, by rw [hz.2]; exact ho⟩
  exact HandSPX.exc_get I1.kIn J T.ga T.gg T.exC (PySem.W.findObj_own T.hdC hno rfl (by rw [hl, hu])) (handed_of ru) ⟨v, H1, I1.tok _, ru, q⟩
theorem call_isP {X : Cx} {a : Addr} {oe : Obj} {cls : Value} {d : Option Addr} (hp : (a, oe) ∈ X.pn) (hz : Zc cls d oe) (hf : ∃ vs, oe.data = .fields vs) : CallR X (.builtin "isinstance") (rIsX X.K a cls d) := by
  intro pins s σ H xs us Q I r h
  obtain ⟨D, cs, b, rfl, C, hd, hc, e, q, sh⟩ := h
  obtain ⟨hget, _⟩ := I.pin (a, oe) (List.mem_append.mpr (.inl hp))
  obtain ⟨vs, hv⟩ := hf
  have J : ∃ od, PySem.W.InstAt s.heap a oe D od := by
    rcases hd with rfl | ⟨dd, fs, rfl, hdd⟩
    · refine ⟨none, hget, hz.1, ?_, ?_⟩
      · unfold PySem.W.notCls
        rw [hv] <;> rfl
      · rw [hz.2]
        trivial
    · obtain ⟨mA, hns, hr⟩ := (I.hok dd _ hdd : ObjOk X.prog X.w H s.heap dd (.xd fs))
      obtain ⟨od, ho, hl⟩ := lookIn_ns hns
      refine ⟨some od, hget, hz.1, ?_, ?_⟩
      · unfold PySem.W.notCls
        rw [hv] <;> rfl
      · rw [hz.2]
        exact ho
  obtain ⟨od, J⟩ := J
  have Z := PySem.W.kitx_exc (od := od) (ox := oe) (x := a) (by
    obtain ⟨cd, hcd, _⟩ := PySem.W.any_some C.hd
    rw [hcd]
    rfl) C.hg C.hk C.hs C.ha C.hn C.ht C.hm
  rcases sh with ⟨c, rfl, rfl⟩ | ⟨t, rfl, ht⟩
  · cases r with
    | cons rx rr =>
      cases rr with
      | cons rt rr =>
        cases rr
        cases rx
        rw [List.all_cons, Bool.and_eq_true] at hc
        have ec := vval_ok hc.1 rt
        subst ec
        exact PySem.W.kia_one Z I.kIn J (kitAny_one e) (fun z => nomatch z) fun tk => ⟨.bl b, H, I.kept (t' := tk) fun _ _ z => z, rfl, q⟩
  · cases r with
    | cons rx rr =>
      cases rr with
      | cons rt rr =>
        cases rr
        cases rx
        cases rt
        obtain ⟨_, its, rv, ⟨oc, od2, oda, osl⟩, e1, e2, n, e3⟩ := (I.hok t _ ht : ObjOk X.prog X.w H s.heap t (.tup cs))
        dsimp only at e2 e3
        subst e2 e3
        have ei := vvals_ok hc rv
        subst ei
        exact PySem.W.kia_tup Z I.kIn J e1 e (fun z => nomatch z) fun tk => ⟨.bl b, H, I.kept (t' := tk) fun _ _ z => z, rfl, q⟩

/-! ### a def that is handed the exception -/
abbrev SpE := Addr → Value → Option Addr → Sp
structure FnX (P : Program) (w : World) (K : Fg) (mg : Str → Option Value) (base : Heap) (CX : CXT) (k : Nat) (f : Addr) (fd : FuncData) (ps : List Str) (sp : SpE) : Prop where
  len : ∀ a c d vs H Q E, sp a c d vs H Q E → vs.length = ps.length
  run : ∀ (A : Around) (outer : List Env) (s : Shared) (H : Hp) (args : Args) (us : List Value) (vs : List V) (Q : VK) (E : XK) (a : Addr) (oe : Obj) (c : Value) (d : Option Addr), L2H.RoomH k A → Zc c d oe → (∃ vs, oe.data = .fields vs) → L2H.PinOk outer H s (a, oe) → Env0 P w K mg base A outer s H → BindsTo s fd args (ps.zip us) → Vals vs us → sp a c d vs H Q E →
    codeAny (model P w) A (.call (.ref f) args) (CR CX outer P w H s Q E) s
theorem fn_ofE {CX : CXT} {P : Program} {w : World} {K : Fg} {mg : Str → Option Value} {base : Heap} {k : Nat} {f : Addr} {name qual : Str} {params : Arguments} {body : List Stmt} {scope : Scope} {dV kV doc pm cdv ct oc : Value} {an od : Option Addr}
    {osl : Array (Option Value)} {N ps : List Str} {sp : SpE} (lk : K.lookup f = some ⟨oc, od, .func (PySem.W.fnOf name qual params body scope dV kV doc pm an cdv ct), osl⟩) (hcd : PySem.W.codeIn K cdv qual = true) (S : FnScope N ps scope)
    (len : ∀ a c d vs H Q E, sp a c d vs H Q E → vs.length = ps.length)
    (hbody : ∀ (A : Around) (outer : List Env) (s : Shared) (H : Hp) (vs : List V) (Q : VK) (E : XK) (a : Addr) (oe : Obj) (c : Value) (d : Option Addr), L2H.RoomH k (A.deeper (envOfC qual scope s.heap.objs.size f cdv)) → Zc c d oe → (∃ vs, oe.data = .fields vs) → sp a c d vs H Q E →
      ∃ t, PSs (L2H.cxH CX P w K mg base N qual scope f cdv A outer s H E (a, oe)) body t ∧ t { nx := fun _ H' => Q .non H', rt := Q } (L2.start N vs) H) :
    FnX P w K mg base CX (k + 1) f (PySem.W.fnOf name qual params body scope dV kV doc pm an cdv ct) ps sp := by
  refine ⟨len, fun A outer s H args us vs Q E a oe c d hr hz hf hpin e0 hb r hsp => ?_⟩
  have hl := len _ _ _ _ _ _ _ hsp
  have KX : K.In s.heap := e0.mod.kin.keeps fun b o e => (e0.bs b o e).1
  have lim : s.heap.NoLimit := e0.mod.nolimit.keeps fun b o e => (e0.bs b o e).1
  have hkind : ∀ y ∈ ps.zip us, scope.names.lookup y.1 = some .local ∨ (scope.names.lookup y.1 = some .cell ∧ ((cellsFrom (s.heap.objs.size + 1) scope.names []).lookup y.1).isSome = true) := fun ⟨n, v⟩ hy => by
    rcases S.par n (List.of_mem_zip hy).1 with q | q
    · exact .inl q
    · exact .inr ⟨q, PySem.W.cellsFrom_some _ _ _ (.inl q)⟩
  refine codeAny_call_function hr.depth (KX _ _ lk) rfl S.co S.gen rfl (PySem.W.codeRec_of KX hcd) (hb _ _ _ _ ?_)
  refine wpAny_newFunctionEnv_cells S.kind hkind fun env he s1 x => ?_
  subst he
  refine ⟨lim.keeps x.toInCall.keep, codeAny_func ?_⟩
  obtain ⟨t, ht, hq⟩ := hbody A outer s H vs Q E a oe c d (hr.deeper _) hz hf hsp
  have I : Inv (L2H.cxH CX P w K mg base N qual scope f cdv A outer s H E (a, oe)) [] (L2.start N vs) H s1 := L2H.inv_startH S hpin e0 hl r x
  refine wpAny_mono (ht.run [] s1 (L2.start N vs) H _ I hq) (fun fl s' hs => ?_) fun e s' hs => hs
  have fin : ∀ {σ' : L2.St} {H' : Hp} {v : V} {u : Value}, Inv (L2H.cxH CX P w K mg base N qual scope f cdv A outer s H E (a, oe)) [] σ' H' s' → RelV v u → Q v H' → CE outer P w H s Q u s' :=
    fun {σ' H' v u} J rv q => ⟨v, H', J.os, J.bare, J.base, J.hok, rv, q⟩
  cases fl with
  | ret u =>
    obtain ⟨v, σ', H', J, rv, q⟩ := hs
    exact fin J rv q
  | next =>
    obtain ⟨σ', H', J, q⟩ := hs
    exact fin (v := V.non) (u := Value.none) J rfl q
  | brk =>
    obtain ⟨_, _, _, q⟩ := hs
    exact False.elim q
  | cont =>
    obtain ⟨_, _, _, q⟩ := hs
    exact False.elim q

/-! ### its call in an except suite -/
section
variable {X : Cx} {CX : CXT} {k : Nat} {f C : Addr} {fd : FuncData} {ps : List Str} {sp : SpE} {x m : Str} {q pos apos : Pos} {e o : Expr} {es : List Expr} {ta : TE} {t : TA} {a : Addr} {oe : Obj} {cls : Value} {d : Option Addr} {pn : List (Addr × Obj)}
def tCallE (a : Addr) (cls : Value) (d : Option Addr) (sp : SpE) (t : TA) : TE := fun σ H Q => t σ H fun vs H1 => sp a cls d vs H1 Q fun _ _ _ => False
theorem pe_callE (F : FnX X.prog X.w X.K X.mg X.base (L2.CX X.prog X.w) k f fd ps sp) (hr : Room k X.A) (hg : Gl X x) (hm : X.mg x = some (.ref f)) (hk : PySem.W.keepIn X.K (.ref f) = true) (hb : Binds X.K fd ps []) (hz : Zc cls d oe) (hf : ∃ vs, oe.data = .fields vs)
    (ha : PA (X.suite a ((a, oe) :: pn)) (e :: es) t) (hdb : (x == ("__debug__" : Str)) = false := by decide) (he : starEach (e :: es) X.env = (false, eval e X.env) :: starEach es X.env := by rfl) (hpl : (backTo pos (starEach es X.env)).any (·.1) = false := by rfl) :
    PE (X.suite a ((a, oe) :: pn)) (.Call (.Name x q) (e :: es) [] pos) (tCallE a cls d sp t) := by
  refine ⟨fun pins s σ H Q I h => ?_⟩
  refine wpAny_Call_Name_kw (ld_glob I hg hm ?_ hdb)
  refine PySem.W.callWith_K (h₀ := X.base) I.ok.mod.kin hk (thn (ha.run pos pins s σ H _ I h) fun us s1 ⟨vs, H1, I1, r, q⟩ => ⟨I1.kIn, ?_⟩) he hpl
  have hl : us.length = ps.length := by rw [← r.length]; exact F.len _ _ _ _ _ _ _ q
  have b := hb s1 us I1.kIn (by rw [List.append_nil]; exact hl)
  rw [List.append_nil] at b
  have P1 := I1.pin (a, oe) (List.mem_append_left _ List.mem_cons_self)
  have hpin : L2H.PinOk X.stack H1 s1 (a, oe) := ⟨P1.1, P1.2.1, fun hm => (List.mem_cons.mp (I1.stkSub a hm)).elim P1.2.2.1 P1.2.2.2.1, P1.2.2.2.2⟩
  have hr' : L2H.RoomH k (X.A.mark (some (.ref a))) := ⟨hr.dp, hr.un⟩
  refine wpAny_call (codeAny_mono (F.run _ X.stack s1 H1 ⟨us, []⟩ us vs Q _ a oe cls d hr' hz hf hpin I1.env0 b r q) fun r s' hq => ?_)
  cases r with
  | error e => exact passAt (X := X.suite a ((a, oe) :: pn)) (W := WF) L2.takes_none5 σ pins H1 s1 e s' I1 hq
  | ok fl =>
    cases fl with
    | ret u => exact I1.after hq
    | next => exact False.elim hq
    | brk => exact False.elim hq
    | cont => exact False.elim hq
end

/-! ### the promise over mirrors -/
def spE (K : Fg) (mg : Str → Option Value) {α : Type} (r : Rp α) (m : Exn → Res α) : SpE := fun a c d vs H Q _ =>
  ∃ e F A, At K F H (vs.map some) [.val (rEx a d) e] A ∧ mg e.c = some c ∧ Post (m e) (fun x => ∀ v F' H' Av, Nx F H A F' H' Av → Sub F' H' → r.ok K F' H' v x Av → Av.Nodup → (∀ a ∈ Av, F' a = none) → Q v H') (fun _ => False)
section
variable {K : Fg} {mg : Str → Option Value} {W : WX} {S : List Sl} {α : Type}
theorem XO.callE {r : Rp α} {m : Exn → Res α} {i : Nat} {a : Addr} {cls : Value} {d : Option Addr} {e : Exn} (h : S[i]? = some (.val (rEx a d) e)) (hc : mg e.c = some cls) : XO K mg W S (tCallE a cls d (spE K mg r m) (tCons (tVar i) tNil)) r (m e).noer := fun F H σ A at_ Q q => by
  obtain ⟨o, A1, Ai, A2, e1, e2, e3, e4⟩ := at_.sl.at h
  cases o with
  | none => exact e3.elim
  | some v =>
    have e3' : (rEx a d).ok K F H v e Ai := e3
    have z : Ai = [] := e3'.1
    subst z
    refine ⟨v, e1, e, F, [], ⟨at_.fh, List.nodup_nil, fun _ z => (by cases z), [], [], rfl, e3', rfl⟩, hc, ?_⟩
    cases em : m e with
    | ok x =>
      rw [em] at q
      refine fun v F' H' Av n s hr nd fo => q v F' H' Av ?_ hr ⟨nd, fun b hb => ?_, fo⟩
      · exact ⟨n.ff, fun b o hb => n.hh b o hb (fun z => (by cases z)), s, fun b hb => n.fo b hb (fun z => (by cases z))⟩
      · rcases n.aa b hb with z | z
        · cases z
        · exact z
    | er x =>
      rw [em] at q
      exact q.elim
    | bad =>
      rw [em] at q
      exact q.elim
theorem fn_okE {P : Program} {w : World} {base : Heap} {x qual : Str} {st : Stmt} {f : Addr} {fd : FuncData} {nm ps : List Str} {k n : Nat} {m : Exn → Res α} (r : Rp α) (mm : Exn → Res (Fl α Empty Unit))
    (F : Fun K x qual st f fd) (Sc : FnScope nm ps (defScope st)) (hm : ∀ t, m t = Res.fin (mm t)) (hp : ps.length = 1) (hn : 1 + n = nm.length)
    (body : ∀ (e : Exn) (a : Addr) (oe : Obj) (c : Value) (d : Option Addr) (cdv : Value) (A : Around) (outer : List Env) (s : Shared) (H : Hp) (E : XK), L2H.RoomH k (A.deeper (envOfC qual (defScope st) s.heap.objs.size f cdv)) → Zc c d oe → (∃ vs, oe.data = .fields vs) → mg e.c = some c →
      ∃ tt, PSs (L2H.cxH (L2.CX P w) P w K mg base nm qual (defScope st) f cdv A outer s H E (a, oe)) (defBody st) tt ∧ Y K mg WF ([.val (rEx a d) e] ++ List.replicate n .nil) tt r (fun z : Empty => nomatch z) none (mm e)) :
    FnX P w K mg base (L2.CX P w) (k + 1) f fd ps (spE K mg r m) := by
  obtain ⟨oc, od, kV, doc, pm, an, cdv, ct, osl, rfl, lk, hcd⟩ := F.ex
  refine fn_ofE lk hcd Sc (fun a c d vs H Q E h => ?_) fun A outer s H vs Q E a oe c d hr hz hf h => ?_
  · obtain ⟨t, F0, A0, a, _⟩ := h
    have := a.sl.len
    rw [List.length_map] at this
    rw [hp]
    exact this
  · obtain ⟨e, F0, A0, a', hc, hq⟩ := h
    obtain ⟨tt, h1, h2⟩ := body e a oe c d cdv A outer s H E hr hz hf hc
    refine ⟨tt, h1, ?_⟩
    rw [hm] at hq
    refine h2.run F0 H _ A0 (a'.start hn) _ ((Post.of_bind hq).imp (fun fl k => ?_) fun e k F' H' σ' c d n s x => k)
    cases fl with
    | rt x => exact fun F' H' v Av n s r nd fo => k v F' H' Av n s r nd fo
    | nx s => exact k.elim
    | bk s => exact nomatch s
    | ct s => exact nomatch s
end
end TP

set_option Elab.async false
set_option linter.all false
set_option maxRecDepth 100000
set_option maxHeartbeats 4000000
/-! TP, part 41: texts. -/
namespace TP
open PySem PySem.Spec PyProof.Rows L2

section
variable {K : Fg} {mg : Str → Option Value} {W : WX} {S : List Sl} {te ta tb : TE}
abbrev vS : View Str := vD eS
/-- x + y -/
@[irreducible] def catSQ (x y : Str) : Option Str := if x.length + y.length ≤ sizeLine then some (x ++ y) else none
abbrev rAddS : R2 := fun x y H Q => ∃ i j, x = .str i ∧ y = .str j ∧ i.length + j.length ≤ sizeLine ∧ Q (.str (i ++ j)) H
theorem o_addS : Op K rAddS vS vS vS catSQ := fun F H v u x y z s h1 h2 ez Q q => by
  unfold catSQ at ez
  split at ez
  · rename_i c
    cases ez
    exact ⟨x, y, dp_str h1, dp_str h2, c, q _ F H (.refl s) (.str _)⟩
  · cases ez
/-- x * n, n a small number -/
@[irreducible] def mulSQ (x : Str) (n : Int) : Option Str := if 0 ≤ n ∧ n ≤ 4000 ∧ x.length ≤ 1000 then some (Txt.mul x n) else none
abbrev rMulS : R2 := fun x y H Q => ∃ i n, x = .str i ∧ y = .int n ∧ MulOk i n ∧ Q (.str (Txt.mul i n)) H
theorem op_mulS {X : Cx} : OpR X (binaryOp .Mult) rMulS := by
  intro pins s σ H x y v u Q I rx ry h
  obtain ⟨i, n, rfl, rfl, hok, q⟩ := h
  obtain ⟨t, rfl⟩ := rx
  obtain ⟨t', rfl⟩ := ry
  exact SB.mul hok fun t k => ⟨.str (Txt.mul i n), H, I.tok _, ⟨_, rfl⟩, q⟩
theorem mulOk_small {x : Str} {n : Int} (h : 0 ≤ n ∧ n ≤ 4000 ∧ x.length ≤ 1000) : MulOk x n := by
  obtain ⟨h0, h1, h2⟩ := h
  refine ⟨?_, fun _ _ => ?_, fun _ _ => ?_⟩
  · rw [decide_eq_false (by omega), decide_eq_false (by omega)] <;> rfl
  · rename_i hn _
    have hm : (x.length : Int) * n ≤ 1000 * 4000 := Int.mul_le_mul (by omega) h1 h0 (by decide)
    have := (Int.le_ediv_iff_mul_le (a := (x.length : Int)) (b := 2 ^ 63 - 1) (c := n) (by omega)).mpr (by omega)
    omega
  · have hm : x.length * n.toNat ≤ 1000 * 4000 := Nat.mul_le_mul h2 (by omega)
    have hz := sizeLine_eq
    exact decide_eq_false (by omega)
theorem o_repS : Op K rMulS vS vI vS mulSQ := fun F H v u x y z s h1 h2 ez Q q => by
  unfold mulSQ at ez
  split at ez
  · rename_i c
    cases ez
    exact ⟨x, y, dp_str h1, dp_int h2, mulOk_small c, q _ F H (.refl s) (.str _)⟩
  · cases ez
/-- x[i] -/
@[irreducible] def ixSQ (x : Str) (i : Int) : Option Str := if x.length ≤ sizeLine then (atI x.cps.toList i).map fun c => ⟨#[c]⟩ else none
theorem o_ixS : Op K rIxS vS vI vS ixSQ := fun F H v u x y z s h1 h2 ez Q q => by
  unfold ixSQ at ez
  split at ez
  · rename_i c
    cases e : atI x.cps.toList y with
    | none =>
      rw [e] at ez
      cases ez
    | some k =>
      rw [e] at ez
      cases ez
      exact ⟨x, y, k, dp_str h1, dp_int h2, c, e, q _ F H (.refl s) (.str _)⟩
  · cases ez
/-- x in y, x one sign -/
def inSQ (x y : Str) : Option Bool := match x with
  | ⟨⟨[c]⟩⟩ => some (decide (c ∈ y.cps.toList))
  | _ => none
theorem o_inS : Op K rInS vS vS vB inSQ := fun F H v u x y z s h1 h2 ez Q q => by
  unfold inSQ at ez
  split at ez
  · rename_i c
    cases ez
    exact ⟨c, y, dp_str h1, dp_str h2, q _ F H (.refl s) (.bl _)⟩
  · cases ez
theorem o_niS : Op K rNotInS vS vS vB (fun x y => (inSQ x y).map (!·)) := fun F H v u x y z s h1 h2 ez Q q => by
  cases e : inSQ x y with
  | none =>
    simp only [e] at ez
    cases ez
  | some b =>
    simp only [e] at ez
    cases ez
    unfold inSQ at e
    split at e
    · rename_i c
      cases e
      exact ⟨c, y, dp_str h1, dp_str h2, q _ F H (.refl s) (.bl _)⟩
    · cases e
/-- len(x) -/
@[irreducible] def lenSQ (x : Str) : Option Int := if x.length ≤ sizeLine then some (x.length : Int) else none
abbrev rLenS : List V → Hp → VK → Prop := fun xs H Q => ∃ z, xs = [.str z] ∧ z.length ≤ sizeLine ∧ Q (.int z.length) H
theorem o_lenS : Cl1 K rLenS vS vI lenSQ := fun F H v x z s h1 ez Q q => by
  unfold lenSQ at ez
  split at ez
  · rename_i c
    cases ez
    exact ⟨x, by rw [dp_str h1], c, q _ F H (.refl s) (.int _)⟩
  · cases ez
/-- str(i) -/
def txtI (i : Int) : Str := toString i
@[irreducible] def strIQ (i : Int) : Option Str := if i.natAbs.log2 < 1920 then some (txtI i) else none
abbrev rStrI : List V → Hp → VK → Prop := fun xs H Q => ∃ i : Int, xs = [.int i] ∧ i.natAbs.log2 < 1920 ∧ Q (.str (toString i)) H
theorem o_strI : Cl1 K rStrI vI vS strIQ := fun F H v x z s h1 ez Q q => by
  unfold strIQ at ez
  split at ez
  · rename_i c
    cases ez
    exact ⟨x, by rw [dp_int h1], c, q _ F H (.refl s) (.str _)⟩
  · cases ez
/-- int(x) -/
@[irreducible] def intSQ (x : Str) : Option Int := if x.length ≤ 640 then PySem.intText? x else none
abbrev rIntS : List V → Hp → VK → Prop := fun xs H Q => ∃ a n, xs = [.str a] ∧ PySem.intText? a = some n ∧ a.length ≤ 640 ∧ Q (.int n) H
theorem o_intS : Cl1 K rIntS vS vI intSQ := fun F H v x z s h1 ez Q q => by
  unfold intSQ at ez
  split at ez
  · rename_i c
    exact ⟨x, z, by rw [dp_str h1], ez, c, q _ F H (.refl s) (.int _)⟩
  · cases ez
/-- x[lo:hi] -/
@[irreducible] def cutSQ (x : Str) (lo hi : Option Int) : Option Str := if x.length ≤ sizeLine then some (cutS x lo hi) else none
theorem XB.slS {tl th : TO} {m : Res Str} {ml mh : Res (Option Int)} (h : XB K mg W S te vS m) (hl : XPo K mg W S tl ml) (hh : XPo K mg W S th mh) :
    XB K mg W S (tSl rSlS te tl th) vS (m.bind fun xs => ml.bind fun lo => mh.bind fun hi => chk (cutSQ xs lo hi)) := fun F H σ A a Q q =>
  h F H σ A a _ ((Post.of_bind q).imp (fun xs k v F1 H1 p1 u1 => hl F1 H1 σ A (a.pu p1) _ ((Post.of_bind k).imp (fun lo k F2 H2 p2 => hh F2 H2 σ A ((a.pu p1).pu p2) _ ((Post.of_bind k).imp (fun hi k F3 H3 p3 => by
    obtain ⟨z, ez, k⟩ := Post.of_chk k
    unfold cutSQ at ez
    split at ez
    · rename_i c
      cases ez
      exact ⟨xs, dp_str u1, c, k _ F3 H3 ((p1.trans p2).trans p3) (.str _)⟩
    · cases ez) fun e z => (z.pu p1).pu p2)) fun e z => z.pu p1)) fun e z => z)
/-- for c in x -/
def sgns (x : Str) : List Str := x.cps.toList.map fun c => (⟨#[c]⟩ : Str)
theorem XI.str {m : Res Str} (h : XB K mg W S te vS m) : XI K mg W S (iStr te) eS (m.bind fun x => .ok (sgns x)) := fun F H σ A a Q q =>
  h F H σ A a _ ((Post.of_bind q).imp (fun x k v F' H' p u => by
    refine ⟨x, dp_str u, k _ F' H' p fun F2 H2 s1 s2 i => ⟨fun hi => ?_, fun z hz => ?_⟩⟩
    · have hi' : x.cps.toList.length ≤ i := by
        have := hi
        unfold sgns at this
        rw [List.length_map] at this
        exact this
      show x.cps.size ≤ i
      rw [Array.length_toList] at hi'
      exact hi'
    · unfold sgns at hz
      rw [List.getElem?_map] at hz
      cases e : x.cps.toList[i]? with
      | none =>
        rw [e] at hz
        cases hz
      | some c =>
        rw [e] at hz
        cases hz
        have hi : i < x.cps.size := by
          have := (List.getElem?_eq_some_iff.mp e).1
          rw [Array.length_toList] at this
          exact this
        refine ⟨hi, fun v H' y => ?_⟩
        obtain ⟨rfl, c', e2, rfl⟩ := y
        have : c' = c := by
          rw [Array.getElem?_toList] at e
          rw [e] at e2
          exact (Option.some.inj e2).symm
        subst this
        exact ⟨F2, .refl s2, .str _⟩) fun _ z => z)
/-- sep.join(xs) -/
@[irreducible] def joinQ (x : Str) (ys : List Str) : Option Str := if (ys.map (·.length)).sum + ys.length * x.length ≤ 16777216 then some (Txt.join x ys) else none
theorem dpAll_strs {F : Hp} : ∀ {vs : List V} {ys : List Str}, DpAll K F vs (ys.map eS) → vs = ys.map V.str
  | [], [], _ => rfl
  | v :: vs, y :: ys, .cons h t => by
    rw [dp_str h, dpAll_strs t] <;> rfl
  | [], _ :: _, h => nomatch h
  | _ :: _, [], h => nomatch h
abbrev rJoin (K : Fg) : V → List V → Hp → VK → Prop := fun x xs H Q => ∃ a p, ∃ ys : List Str, x = .str a ∧ xs = [.ref p] ∧ (SqL K H p (ys.map V.str) ∨ SqT K H p (ys.map V.str)) ∧ (ys.map (·.length)).sum + ys.length * a.length ≤ 16777216 ∧ Q (.str (Txt.join a ys)) H
theorem XB.join {ma : Res Str} {mb : Res (List Str)} (ha : XB K mg W S ta vS ma) (hb : XB K mg W S tb (TP.vL eS) mb) : XB K mg W S (tM1 (rJoin K) ta tb) vS (ma.bind fun x => mb.bind fun y => chk (joinQ x y)) := fun F H σ A a Q q =>
  ha F H σ A a _ ((Post.of_bind q).imp (fun x k v F1 H1 p1 u1 => ⟨⟨x, dp_str u1⟩, hb F1 H1 σ A (a.pu p1) _ ((Post.of_bind k).imp (fun y k w F2 H2 p2 u2 => by
    obtain ⟨z, ez, k⟩ := Post.of_chk k
    unfold joinQ at ez
    split at ez
    · rename_i c
      cases ez
      obtain ⟨b, vs, rfl, g1, g2⟩ := u2
      rw [dpAll_strs g2] at g1
      exact ⟨x, b, y, dp_str u1, rfl, .inl g1, c, k _ F2 H2 (p1.trans p2) (.str _)⟩
    · cases ez) fun e z => z.pu p1)⟩) fun e z => z)
/-- x.split(sep) -/
@[irreducible] def splitQ (x y : Str) : Option (List Str) := if (y.length == 0) = false ∧ x.length + 2 ≤ sizeLine then some (Txt.split x y) else none
abbrev rSplit : V → List V → Hp → VK → Prop := fun x xs H Q => ∃ a b, x = .str a ∧ xs = [.str b] ∧ (b.length == 0) = false ∧ a.length + 2 ≤ sizeLine ∧ rNewStrs (Txt.split a b) H Q
theorem dp_strs {F : Hp} : ∀ ys : List Str, DpAll K F (ys.map V.str) (ys.map eS)
  | [] => .nil
  | y :: ys => .cons (.str y) (dp_strs ys)
theorem XO.split {ma mb : Res Str} (ha : XB K mg W S ta vS ma) (hb : XB K mg W S tb vS mb) : XO K mg W S (tM1 rSplit ta tb) (ow (fz eS)) (ma.bind fun x => mb.bind fun y => chk (splitQ x y)) := fun F H σ A a Q q =>
  ha F H σ A a _ ((Post.of_bind q).imp (fun x k v F1 H1 p1 u1 => ⟨⟨x, dp_str u1⟩, hb F1 H1 σ A (a.pu p1) _ ((Post.of_bind k).imp (fun y k w F2 H2 p2 u2 => by
    obtain ⟨z, ez, k⟩ := Post.of_chk k
    unfold splitQ at ez
    split at ez
    · rename_i c
      cases ez
      refine ⟨x, y, dp_str u1, by rw [dp_str u2], c.1, c.2, fun p hp => ?_⟩
      have pp := p1.trans p2
      exact newL (xs := Txt.split x y) p2.fh (dp_strs _) hp fun w F' H' Av p u fr => k w F' H' Av (pp.trans p) u (fr.pu pp)
    · cases ez) fun e z => z.pu p1)⟩) fun e z => z)
end
end TP

set_option Elab.async false
set_option linter.all false
set_option maxRecDepth 100000
set_option maxHeartbeats 4000000
/-! TP, part 42: a list of two taken apart; numbers or None. -/
namespace TP
open PySem PySem.Spec PyProof.Rows L2
def lst2 {α : Type} : List α → Option (α × α)
  | [a, b] => some (a, b)
  | _ => none
def lst3 {α : Type} : List α → Option (α × α × α)
  | [a, b, c] => some (a, b, c)
  | _ => none
section
variable {K : Fg} {mg : Str → Option Value} {W : WX} {S : List Sl} {te : TE} {α : Type} {e : Enc α}
theorem XB.lst2 {m : Res (List α)} (h : XB K mg W S te (vD (eL e)) m) : XB K mg W S te (vD (h2 e e)) (m.bind fun xs => chk (TP.lst2 xs)) := h.castM (fun xs => chk (TP.lst2 xs)) fun xs => by
  match xs with
  | [] => trivial
  | [a] => trivial
  | [a, b] => rfl
  | a :: b :: c :: r => trivial
theorem XB.lst3 {m : Res (List α)} (h : XB K mg W S te (vD (eL e)) m) : XB K mg W S te (vD (h3 e e e)) (m.bind fun xs => chk (TP.lst3 xs)) := h.castM (fun xs => chk (TP.lst3 xs)) fun xs => by
  match xs with
  | [] => trivial
  | [a] => trivial
  | [a, b] => trivial
  | [a, b, c] => rfl
  | a :: b :: c :: d :: r => trivial
end
def allO {α : Type} : List (Option α) → Option (List α)
  | [] => some []
  | none :: _ => none
  | some x :: r => (allO r).map (x :: ·)
theorem allO_ok {α : Type} : ∀ {xs : List (Option α)} {ys : List α}, allO xs = some ys → xs = ys.map some
  | [], ys, h => by
    cases h
    rfl
  | none :: r, ys, h => by cases h
  | some x :: r, ys, h => by
    unfold allO at h
    cases e : allO r with
    | none =>
      rw [e] at h
      cases h
    | some zs =>
      rw [e] at h
      cases h
      rw [allO_ok e] <;> rfl
theorem allO_map {α : Type} : ∀ ys : List α, allO (ys.map some) = some ys
  | [] => rfl
  | y :: ys => by
    rw [List.map_cons]
    show (allO (ys.map some)).map (y :: ·) = _
    rw [allO_map ys] <;> rfl
theorem XB.allO {K : Fg} {mg : Str → Option Value} {W : WX} {S : List Sl} {te : TE} {α : Type} {e : Enc α} {m : Res (List (Option α))} (h : XB K mg W S te (vD (eL (eO e))) m) : XB K mg W S te (vD (eL e)) (m.bind fun xs => chk (TP.allO xs)) := h.castM (fun xs => chk (TP.allO xs)) fun xs => by
  cases q : TP.allO xs with
  | none => trivial
  | some ys =>
    show eL e ys = eL (eO e) xs
    rw [allO_ok q]
    show PyData.list _ = PyData.list _
    rw [List.map_map]
    rfl
instance lawOI : Law (eO eI) where
  plain a := by cases a <;> rfl
  eqv a b := by
    cases a with
    | none => cases b with
      | none => simp [eO, PyData.eqv]
      | some y => simp [eO, PyData.eqv]
    | some x => cases b with
      | none => simp [eO, PyData.eqv]
      | some y =>
        show PyData.eqv (eI x) (eI y) = _
        rw [Law.eqv (e := eI) x y]
        simp
  dep := 0
  dep_le a := by cases a <;> exact Nat.le_refl _
instance lawOL {α : Type} [DecidableEq α] {e : Enc α} [Law e] : Law (eO (eL e)) where
  plain a := by
    cases a with
    | none => rfl
    | some x => exact Law.plain (e := eL e) x
  eqv a b := by
    cases a with
    | none => cases b with
      | none => simp [eO, PyData.eqv]
      | some y => simp [eO, eL, PyData.eqv]
    | some x => cases b with
      | none => simp [eO, eL, PyData.eqv]
      | some y =>
        show PyData.eqv (eL e x) (eL e y) = _
        rw [Law.eqv (e := eL e) x y]
        simp
  dep := Law.dep (eL e)
  dep_le a := by
    cases a with
    | none => exact Nat.zero_le _
    | some x => exact Law.dep_le (e := eL e) x
end TP

set_option Elab.async false
set_option linter.all false
set_option maxRecDepth 100000
set_option maxHeartbeats 4000000
/-! TP, part 43: an owned list told as one of data of any kind. -/
namespace TP
open PySem PySem.Spec PyProof.Rows L2
section
variable {K : Fg} {mg : Str → Option Value} {W : WX} {S : List Sl} {t : TS} {α β τ ι ι' : Type} {R : Rp α} {B : β → List Sl} {N : Option (τ → List Sl)}
/-- a slot told otherwise -/
theorem Y.ro {i : Nat} {r : Rp ι} {r' : Rp ι'} {x : ι} {x' : ι'} {m : Res (Fl α β τ)} (hs : S[i]? = some (.val r x)) (l : ∀ F H v A, r.ok K F H v x A → r'.ok K F H v x' A) (h : Y K mg W (S.set i (.val r' x')) t R B N m) : Y K mg W S t R B N m := ⟨h.no, fun F H σ A a D q => by
  obtain ⟨o, A1, Ai, A2, e1, e2, e3, e4⟩ := a.sl.at hs
  cases o with
  | none => exact e3.elim
  | some v =>
    subst e2
    have key := e4 F H (some v) (.val r' x') Ai (fun _ _ h => h) (fun _ _ => rfl) (l _ _ _ _ e3)
    have es : σ.set i (some v) = σ := by
      refine List.ext_getElem? fun j => ?_
      by_cases z : i = j
      · subst z
        rw [e1, List.getElem?_set_self (by
          obtain ⟨hl, _⟩ := List.getElem?_eq_some_iff.mp e1
          exact hl)]
      · rw [List.getElem?_set_ne z]
    rw [es] at key
    exact h.run F H σ (A1 ++ (Ai ++ A2)) ⟨a.fh, a.nd, a.fo, key⟩ D q⟩
theorem okL_any {e : Enc ι} {F H : Hp} : ∀ {vs : List V} {xs : List ι} {A : List Addr}, OkL (fz e) K F H vs xs A → OkL (fz eA) K F H vs (xs.map e) A
  | [], [], _, h => h
  | [], _ :: _, _, h => h.elim
  | _ :: _, [], _, h => h.elim
  | v :: vs, x :: xs, _, ⟨A1, A2, h1, h2, h3⟩ => ⟨A1, A2, h1, h2, okL_any h3⟩
theorem Y.castO {i : Nat} {e : Enc ι} {x : List ι} {m : Res (Fl α β τ)} (hs : S[i]? = some (.val (ow (fz e)) x)) (h : Y K mg W (S.set i (.val (ow (fz eA)) (x.map e))) t R B N m) : Y K mg W S t R B N m :=
  Y.ro hs (r := ow (fz e)) (r' := ow (fz eA)) (fun _ _ _ _ ⟨a, vs, A', h1, h2, h3, h4⟩ => ⟨a, vs, A', h1, h2, h3, okL_any h4⟩) h
end
end TP

set_option Elab.async false
set_option linter.all false
set_option maxRecDepth 100000
set_option maxHeartbeats 4000000
/-! TP, part 44: a list comprehension whose element (or test) lets an exception out. -/
namespace TP
open PySem PySem.Spec PyProof.Rows L2
/-- the frame notes it, whatever other frame it flew from -/
theorem looks_onF {M : Model} {A : Around} {E : Value → Shared → Prop} {s : Shared} {Z : Obj → Prop} {base : Heap} {env : Env} {outer : List Env} {L e : Addr} {fl : Value} {Q : Unit → Shared → Prop} (hZ : HandSPX.Steady Z) (hfr : A.frames = some (env :: outer)) (hf : env.frame = some L)
    (hkb : base.StaysIn s.heap) (hen : base.get? e = none) (hl : s.heap.FunFrames base (env :: outer)) (ht : HandSPX.TracedZ s.heap base e Z fl) (hfl : ¬ (fl == rawInt L) = true)
    (hQ : ∀ h', HandSPX.HeldZ base (env :: outer) e Z L h' → s.heap.UpToSlots h' → Q () { s with heap := h' }) : wpAny M A (noteFrame (.ref e) env) Q E s := by
  obtain ⟨oe, vs, T, oT, ts, he, hz, hd, h1, hnT, hTe, hT, hdT, h3⟩ := ht
  unfold noteFrame
  simp only [hf]
  refine wpAny_bind (wpAny_field he hd h1 ?_)
  rw [if_pos (show (Value.ref T != Value.none) = true from by simp)]
  refine wpAny_bind (wpAny_field hT hdT h3 ?_)
  rw [if_neg hfl]
  refine wpAny_bind (wpAny_setField hT hdT (Array.getElem?_eq_some_iff.mp h3).1 ?_)
  have other : ∀ b, b ≠ T → (s.heap.update T (Obj.mapFields (·.setIfInBounds 3 Value.none))).get? b = s.heap.get? b := fun b hb => Heap.get?_update_other _ _ (Ne.symm hb)
  have noRecord : ∀ b o, s.heap.get? b = some o → (∀ vs, o.data ≠ .fields vs) → b ≠ T := fun b o hb hnf q => by
    rw [q, hT] at hb; injection hb with hb; subst hb; exact hnf ts hdT
  refine HandSPX.wpAny_entryZ hZ hfr (hl.of_keeps fun b o hb hnf => ⟨o, (other b (noRecord b o hb hnf)).trans hb, rfl⟩) hf ((other e (Ne.symm hTe)).trans he)
    (fun b o hbo => (other b fun q => by rw [q, hnT] at hbo; cases hbo).trans (hkb b o hbo)) hen hd (Array.getElem?_eq_some_iff.mp h1).1 hz fun h' hN => ?_
  obtain ⟨x1, x2, x3, x4⟩ := hN
  exact hQ h' ⟨x1, hen, x2, x3⟩ fun b o hb hnf => x4 b o ((other b (noRecord b o hb hnf)).trans hb) hnf
theorem funFrames_base {h B B2 : Heap} (k : ∀ b, B.get? b = none → B2.get? b = none) : ∀ {l : List Env}, h.FunFrames B l → h.FunFrames B2 l
  | [], _ => trivial
  | _ :: _, ⟨hk, ⟨L, o, hf, hb, ho, hd⟩, hr⟩ => ⟨hk, ⟨L, o, hf, k L hb, ho, hd⟩, funFrames_base k hr⟩
section
variable {X : Cx} {W : WX} {pins : List (Addr × Obj)} {σ : L2.St} {H3 : Hp} {s3 s' : Shared} {scope : Scope} {fp : List Addr} {ce : Env} {xe : Value → Shared → Prop} {u : Value}
theorem lcx_fail (hs : X.stack = X.env :: X.outer) (hf : X.env.frame = some X.env.locals) (tk : Takes X W) (hW : ∀ c d σ σ' H, W c d σ H → W c d σ' H) (I3 : Inv X pins σ H3 s3) (f3 : ∀ b ∈ fp, FpOk X pins H3 b ∧ b < s3.heap.objs.size)
    (cF : ce.frame = X.env.frame) (cL : ce.locals = s3.heap.objs.size) (x : L2.XE ((X.blk s3 H3 scope ce fp).tr [] xe) W u s') : notedBy (model X.prog X.w) X.A ce (CompFails (model X.prog X.w) X.A X.xe ce) u s' := by
  obtain ⟨a, B, sI, pins', σ', H', cls, d, rfl, I', nb, up, sky, na, os, ag, w⟩ := x
  have J : Inv X pins σ H' sI := I3.call' (ch := fp) I'.os I'.base I'.hok I'.bare fun b hb => ⟨(f3 b hb).1.2.2.2.1, (f3 b hb).1.2.1, (f3 b hb).1.2.2.2.2.1, (f3 b hb).1.2.2.2.2.2⟩
  have nC : H' ce.locals = none := I'.free
  obtain ⟨m, hn, _⟩ := I'.loc
  have hn : sI.heap.Ns ce.locals m := hn
  have fC : FpOk X pins H' ce.locals := I3.fpOk (Nat.le_of_eq cL.symm) nC
  obtain ⟨f0, f1, f2, f3', f4, f5⟩ := fC
  have hfr : X.A.frames = some (X.env :: X.outer) := by rw [I3.ok.frames, hs]
  have nCs : ce.locals ∉ frs X.stack := fun z => by
    rcases List.mem_cons.mp (I3.stkSub _ z) with q | q
    · exact f1 q
    · exact f2 q
  obtain ⟨oC, es, ep, hoC, hdC, rC⟩ := id hn
  have hBC : B.get? ce.locals = some oC := nb _ oC hoC nCs
  have hn' : s'.heap.Ns ce.locals m := hn.upToSlots up
  have LC : ¬ (rawInt ce.locals == rawInt X.env.locals) = true := fun z => by
    have := eq_of_beq z
    simp only [rawInt] at this
    injection this with q
    exact f1 (Int.ofNat_inj.mp (by simpa using q))
  -- held, behind the note
  have fin : ∀ h1, HandSPX.HeldZ B (X.env :: X.outer) a (Zc cls d) X.env.locals h1 → s'.heap.UpToSlots h1 → CompFails (model X.prog X.w) X.A X.xe ce (.ref a) { s' with heap := h1 } := fun h1 hh up1 => by
    refine ⟨m, hn'.upToSlots up1, fun h2 m2 hn2 hs2 => ?_⟩
    have nBC : ∀ b, B.get? b = none → (PySem.W.hideAll B [ce.locals]).get? b = none := fun b e => by
      cases q : (PySem.W.hideAll B [ce.locals]).get? b with
      | none => rfl
      | some o =>
        rw [PySem.W.of_hideAll _ q] at e
        cases e
    have hid : ∀ {h : Heap} {b : Addr} {o : Obj}, (PySem.W.hideAll h [ce.locals]).get? b = some o → b ≠ ce.locals ∧ h.get? b = some o := fun {h b o} e => ⟨fun z => (by
      rw [z, PySem.W.hideAll_none _ (by simp)] at e
      cases e), PySem.W.of_hideAll _ e⟩
    obtain ⟨q1, q2, q3, oe, vs, T, oT, ts, he, hz, hd, h1', hnT, hTe, hT, hdT, ht3⟩ := hh
    have aC : a ≠ ce.locals := fun z => by
      rw [z, hBC] at q2
      cases q2
    have TC : T ≠ ce.locals := fun z => by
      rw [z, hBC] at hnT
      cases hnT
    have he2 : h2.get? a = some oe := (hs2.2 a aC).trans he
    have hT2 : h2.get? T = some oT := (hs2.2 T TC).trans hT
    have held2 : HandSPX.HeldZ (PySem.W.hideAll B [ce.locals]) (X.env :: X.outer) a (Zc cls d) X.env.locals h2 := by
      refine ⟨fun b o e => ?_, nBC a q2, funFrames_base nBC (Heap.FunFrames.sameBut hs2 hn2 q3), oe, vs, T, oT, ts, he2, hz, hd, h1', nBC T hnT, hTe, hT2, hdT, ht3⟩
      obtain ⟨ne, e2⟩ := hid e
      exact (hs2.2 b ne).trans (q1 b o e2)
    unfold PySem.passOn
    refine wpAny_bind (wpAny_field he2 hd h1' ?_)
    rw [if_neg (show ¬ ((Value.ref T == Value.none) = true) from by simp)]
    rw [cF, hf]
    refine wpAny_bind (HandSPX.setFlight_onZ (s := { s' with heap := h2 }) held2 fun h3 held3 up3 => wpAny_throw (tk _ _ ?_))
    refine ⟨a, PySem.W.hideAll B [ce.locals], { sI with heap := PySem.W.hideAll sI.heap [ce.locals] }, pins, σ, H', cls, d, rfl, ?_, fun b o e hb => ?_, fun b o e hnf => ?_, .inr (.inr (by rw [hs]; exact held3)), na, os, ag, hW _ _ _ _ _ w⟩
    · exact J.turned (t' := sI.toks) (it := ce.locals) (fun b o hb e => PySem.W.hideAll_get _ e (by simpa using hb)) f0 f1 f3' f4 f5
    · obtain ⟨ne, e2⟩ := hid e
      exact PySem.W.hideAll_get _ (nb b o e2 hb) (by simpa using ne)
    · obtain ⟨ne, e2⟩ := hid e
      obtain ⟨sl, e3⟩ := up b o e2 hnf
      obtain ⟨sl2, e4⟩ := up1 b _ e3 hnf
      obtain ⟨sl3, e5⟩ := up3 b _ ((hs2.2 b ne).trans e4) hnf
      exact ⟨sl3, e5⟩
  show wpAny (model X.prog X.w) X.A (noteFrame (.ref a) ce) _ _ s'
  rw [noteFrame_env _ cF]
  have sky : Sky B (X.env :: X.outer) a (Zc cls d) ce.locals s'.heap := by
    rw [← hs]
    exact sky
  rcases sky with ⟨k1, k2, k3, oe, vs, he, hz, hd, h1⟩ | fl | ⟨k1, k2, k3, k4⟩
  · exact HandSPX.look_newZ Zc.steady hfr k3 hf he k1 k2 hd h1 hz fin
  · exact HandSPX.looks_onZ Zc.steady hfr hf fl fin
  · exact looks_onF Zc.steady hfr hf k1 k2 k3 k4 LC fin
end
section
variable {X : Cx} {W : WX}
theorem lc_coreX {pins : List (Addr × Obj)} {s : Shared} {σ : L2.St} {H : Hp} {Q : VK} {elt tg iter : Expr} {ifs : List Expr} {scope : Scope} {own : List (Str × Nat)} {pos pos' : Pos} {wi : TI} {g : TG} {tt : TT} {te : TE} {use : Option (Value → Sem Unit)} {Qf : Value → Shared → Prop}
    (hst : X.stack = X.env :: X.outer) (hf : X.env.frame = some X.env.locals) (tk : Takes X W) (hW : ∀ c d σ σ' H, W c d σ H → W c d σ' H)
    (hc : X.calm = true) (hN : X.N.Nodup) (I : Inv X pins σ H s) (hi : PI X tg iter wi) (ok : BlkOk X.N X.env.scope scope own)
    (hg : ∀ (s : Shared) (H : Hp) (C : Addr) (cl : List (Str × Addr)) (fp : List Addr) (xe : Value → Shared → Prop), Takes ((X.blk s H scope (compEnvC scope cl C X.env) fp).tr [] xe) W → PG ((X.blk s H scope (compEnvC scope cl C X.env) fp).tr [] xe) tg g)
    (ht : ∀ (s : Shared) (H : Hp) (C : Addr) (cl : List (Str × Addr)) (fp : List Addr) (xe : Value → Shared → Prop), Takes ((X.blk s H scope (compEnvC scope cl C X.env) fp).tr [] xe) W → PTs ((X.blk s H scope (compEnvC scope cl C X.env) fp).tr [] xe) ifs tt)
    (he : ∀ (s : Shared) (H : Hp) (C : Addr) (cl : List (Str × Addr)) (fp : List Addr) (xe : Value → Shared → Prop), Takes ((X.blk s H scope (compEnvC scope cl C X.env) fp).tr [] xe) W → PE ((X.blk s H scope (compEnvC scope cl C X.env) fp).tr [] xe) elt te)
    (hs : ∀ x, foldedSetIterable iter X.env x = pure x)
    (h : tLc wi g tt te (own.map (·.2)) σ H Q)
    (hRR : ∀ D ce s' m H', Inv X pins σ H' s' → Q (.ref D) H' → s'.heap.Ns ce.locals m → FpOk X pins H' ce.locals → compEnds (model X.prog X.w) X.A X.xe use Qf (.ref D) ce (.ok .next) s') :
    wpAny (model X.prog X.w) X.A (comprehension (.ListComp elt [⟨tg, iter, ifs, 0⟩] scope pos) scope X.env pos' (newList []) false (eval iter X.env) use) Qf X.xe s := by
  have hfree : ∀ y ∈ scope.names, y.2 = .free → ∃ c, X.env.cells.lookup y.1 = some c := fun y hy e => by
    rcases ok.free y hy e with k | k
    · exact I.ok.has _ (.inl k)
    · exact I.ok.has _ (.inr k)
  refine comprehension_at (use := use) rfl hs (closure_ok hfree) ok.kind (fun y hy e => by rw [ok.uniq y hy, e])
    (thn (hi.run pins s σ H _ I h) fun xv s1 hx => thn hx fun itv s2 h2 => ?_)
  obtain ⟨it, fp, tn, J, H2, e, I2, T, st2, f2, q⟩ := h2
  subst e
  refine wpAny_newObj_type (newEnv_comp ?_) (by show 0 ≤ sizeLine; decide)
  generalize hD : s2.heap.objs.size = D
  have hDn : H2 D = none := I2.hok.fresh (Nat.le_of_eq hD)
  obtain ⟨Wf, ⟨m0, w0⟩, turn⟩ := q D hDn
  generalize hs3 : ({ s2 with heap := s2.heap.push { cls := .type "list", data := .seq ([] : List Value).toArray } } : Shared) = s3
  have I3 : Inv X pins σ (upd H2 D (.lst [])) s3 := by
    rw [← hs3]
    refine I2.laid (t' := s2.toks) (fun b o e => Heap.get?_push_of_some _ e) (Nat.le_of_eq hD) ⟨Nat.zero_le _, [], 0, .nil, ?_⟩
    rw [← hD]
    exact Heap.get?_push_size _ rfl
  have h3 : s3.heap = s2.heap.push { cls := .type "list", data := .seq ([] : List Value).toArray } := by rw [← hs3]
  have sz : ∀ b ∈ fp, b < s2.heap.objs.size := fun b hb => by
    obtain ⟨o, e, _⟩ := T.obj _ _ st2 b hb
    exact Heap.lt_size e
  have f3 : ∀ b ∈ fp, FpOk X pins (upd H2 D (.lst [])) b ∧ b < s3.heap.objs.size := fun b hb => by
    have hlt := sz b hb
    refine ⟨⟨?_, (f2 b hb).2⟩, by rw [h3, Heap.size_push]; exact Nat.lt_succ_of_lt hlt⟩
    rw [upd_ne (by rw [← hD]; exact Nat.ne_of_lt hlt)]
    exact (f2 b hb).1
  have st3 : tn 0 s3.heap := T.keep _ _ _ st2 fun b _ o e => by rw [h3]; exact Heap.get?_push_of_some _ e
  have I4 := block_start I3 ok hN f3
  have pg := hg s3 (upd H2 D (.lst [])) s3.heap.objs.size (cellsFrom (s3.heap.objs.size + 1) scope.names (cloFrom X.env.cells scope.names [])) fp
  have pt := ht s3 (upd H2 D (.lst [])) s3.heap.objs.size (cellsFrom (s3.heap.objs.size + 1) scope.names (cloFrom X.env.cells scope.names [])) fp
  have pe := he s3 (upd H2 D (.lst [])) s3.heap.objs.size (cellsFrom (s3.heap.objs.size + 1) scope.names (cloFrom X.env.cells scope.names [])) fp
  show codeAny _ _ (.compStart (.ListComp elt [⟨tg, iter, ifs, 0⟩] scope pos) 0 (.ref it) (.ref D) (compEnvC scope (cellsFrom (s3.heap.objs.size + 1) scope.names (cloFrom X.env.cells scope.names [])) s3.heap.objs.size X.env)) (compEnds (model X.prog X.w) X.A X.xe use Qf (.ref D) (compEnvC scope (cellsFrom (s3.heap.objs.size + 1) scope.names (cloFrom X.env.cells scope.names [])) s3.heap.objs.size X.env)) { s3 with heap := pushCells (s3.heap.push { cls := .type "dict", data := .dict #[] }) scope.names }
  have nfp : ∀ b ∈ fp, (upd H2 D (.lst [])) b = none := fun b hb => (f3 b hb).1.1
  generalize hce : compEnvC scope (cellsFrom (s3.heap.objs.size + 1) scope.names (cloFrom X.env.cells scope.names [])) s3.heap.objs.size X.env = ce at I4 pg pt pe ⊢
  have cL : ce.locals = s3.heap.objs.size := by subst hce; rfl
  have cF : ce.frame = X.env.frame := by subst hce; rfl
  generalize hH3 : upd H2 D (.lst []) = H3 at I3 I4 pg pt pe w0 nfp f3
  generalize hs4 : ({ s3 with heap := pushCells (s3.heap.push { cls := .type "dict", data := .dict #[] }) scope.names } : Shared) = s4 at I4 ⊢
  have eE : ∀ e s', CompFails (model X.prog X.w) X.A X.xe ce e s' → compEnds (model X.prog X.w) X.A X.xe use Qf (.ref D) ce (.error e) s' := fun e s' h => by cases use <;> exact h
  -- what goes out of the block
  let xe : Value → Shared → Prop := notedBy (model X.prog X.w) X.A ce fun e s' => compEnds (model X.prog X.w) X.A X.xe use Qf (.ref D) ce (.error e) s'
  have tkY : Takes ((X.blk s3 H3 scope ce fp).tr [] xe) W := fun u s' x => wpAny_mono (lcx_fail hst hf tk hW I3 f3 cF cL x) (fun _ _ h => eE _ _ h) fun _ _ h => eE _ _ h
  have pg := pg xe tkY
  have pt := pt xe tkY
  have pe := pe xe tkY
  have I4 : Inv ((X.blk s3 H3 scope ce fp).tr [] xe) [] (wipe σ (own.map (·.2))) H3 s4 := I4.toTry xe
  have st4 : tn 0 s4.heap := T.keep _ _ _ st3 fun b _ o e => by rw [← hs4]; exact pushCells_keeps _ _ _ _ (Heap.get?_push_of_some _ e)
  have stat : ∀ {σ' : L2.St} {H' : Hp} {s' : Shared}, Inv ((X.blk s3 H3 scope ce fp).tr [] xe) [] σ' H' s' → (∀ b ∈ fp, H' b = none) → ∀ b ∈ fp, FpOk ((X.blk s3 H3 scope ce fp).tr [] xe) [] H' b := fun {σ' H' s'} I' hn b hb =>
    ⟨hn b hb, (I'.ok.exf b hb).1, I'.ok.exfs b hb, .inl hb, fun x c e => (I'.ok.exf b hb).2 x c e, fun p hp => absurd (show p ∈ ([] : List (Addr × Obj)) ++ [] from hp) (by simp)⟩
  have loop : codeAny (model X.prog X.w) X.A (.compLoop (.ListComp elt [⟨tg, iter, ifs, 0⟩] scope pos) 0 (.ref it) (.ref D) ce) (compEnds (model X.prog X.w) X.A X.xe use Qf (.ref D) ce) s4 := by
    refine compLoop_any (fun n s' => ∃ i H', Inv ((X.blk s3 H3 scope ce fp).tr [] xe) [] (wipe σ (own.map (·.2))) H' s' ∧ tn i s'.heap ∧ (∀ b ∈ fp, H' b = none) ∧ Wf i n H') ?_ m0 ⟨0, H3, I4, st4, nfp, w0⟩
    rintro n s5 ⟨i, H5, I5, st5, n5, w5⟩
    rcases turn i n H5 w5 with ⟨stop, qq⟩ | ⟨go, Nx, hNx, step⟩
    · have td := T.done ((X.blk s3 H3 scope ce fp).tr [] xe) rfl rfl rfl hc i [] s5 _ H5 (fun _ _ => False) I5 (stat I5 n5) st5 stop
      refine thnF td fun r s6 ⟨hr, I6⟩ => ?_
      subst hr
      have I7 : Inv X pins σ H5 s6 := I3.call' (ch := fp) I6.os I6.base I6.hok I6.bare fun b hb => ⟨(f3 b hb).1.2.2.2.1, (f3 b hb).1.2.1, (f3 b hb).1.2.2.2.2.1, (f3 b hb).1.2.2.2.2.2⟩
      have nC : H5 ce.locals = none := I6.free
      obtain ⟨m, hn, _⟩ := I6.loc
      have hn : s6.heap.Ns ce.locals m := hn
      exact hRR D ce s6 m H5 I7 qq hn (I3.fpOk (Nat.le_of_eq cL.symm) nC)
    · have ti := T.item ((X.blk s3 H3 scope ce fp).tr [] xe) rfl rfl rfl hc i [] s5 _ H5 (fun _ _ => False) I5 (stat I5 n5) st5 go
      refine thnF ti fun r s6 ⟨u, hr, h6⟩ => ?_
      subst hr
      refine thnF h6 fun _ s7 ⟨x, H7, I7, r7, y7, st7, n7⟩ => ?_
      have I7' := I7.pinned (stat I7 n7) (T.obj _ _ st7)
      refine thn (pg.run _ s7 _ H7 x u _ I7' r7 (step x H7 y7)) fun _ s8 ⟨σ8, H8, I8, hw8, q8⟩ => ?_
      refine thn (pt.run _ s8 σ8 H8 _ I8 q8) fun b s9 ⟨H9, I9, q9⟩ => ?_
      have fin : ∀ {s' : Shared} {H' : Hp}, Inv ((X.blk s3 H3 scope ce fp).tr [] xe) ([] ++ pinsAt fp s7.heap) σ8 H' s' → Nx H' → ∃ m, m < n ∧ ∃ i H', Inv ((X.blk s3 H3 scope ce fp).tr [] xe) [] (wipe σ (own.map (·.2))) H' s' ∧ tn i s'.heap ∧ (∀ b ∈ fp, H' b = none) ∧ Wf i m H' := fun {s' H'} I' nx => by
        obtain ⟨m', hm, w'⟩ := hNx H' nx
        have pin' : ∀ b ∈ fp, ∀ o, s7.heap.get? b = some o → s'.heap.get? b = some o ∧ H' b = none := fun b hb o e =>
          let z := I'.pin (b, o) (List.mem_append_right _ (List.mem_append_right _ (mem_pinsAt hb e)))
          ⟨z.1, z.2.1⟩
        have hl : (wipe σ (own.map (·.2))).length = σ8.length := by rw [← hw8, wipe_length]
        refine ⟨m', hm, i + 1, H', (I'.unpinned (pins := [])).weak hl (fun j v e => ?_), T.keep _ _ _ st7 fun b hb o e => (pin' b hb o e).1, fun b hb => ?_, w'⟩
        · rw [← hw8] at e
          exact (wipe_some e).1
        · obtain ⟨o, e, _⟩ := T.obj _ _ st7 b hb
          exact (pin' b hb o e).2
      cases b with
      | false =>
        simp only [Bool.false_eq_true, if_false] at q9 ⊢
        exact fin I9 q9
      | true =>
        simp only [if_true] at q9 ⊢
        refine thn (pe.run _ s9 σ8 H9 _ I9 q9) fun z s10 ⟨yv, H10, I10, r10, acc, hD10, hz10, nx⟩ => ?_
        exact app_ok (X := (X.blk s3 H3 scope ce fp).tr [] xe) I10 hD10 hz10 r10 fun s11 I11 => fin I11 nx
  exact codeAny_compStart_list loop (T.self X.A 0 _ _ _ st4 loop)
theorem pe_lcX {elt tg iter : Expr} {ifs : List Expr} {scope : Scope} {own : List (Str × Nat)} {pos : Pos} {wi : TI} {g : TG} {tt : TT} {te : TE} (tk : Takes X W)
    (hst : X.stack = X.env :: X.outer) (hf : X.env.frame = some X.env.locals) (hW : ∀ c d σ σ' H, W c d σ H → W c d σ' H) (hc : X.calm = true) (hN : X.N.Nodup) (hi : PI X tg iter wi) (ok : BlkOk X.N X.env.scope scope own)
    (hg : ∀ (s : Shared) (H : Hp) (C : Addr) (cl : List (Str × Addr)) (fp : List Addr) (xe : Value → Shared → Prop), Takes ((X.blk s H scope (compEnvC scope cl C X.env) fp).tr [] xe) W → PG ((X.blk s H scope (compEnvC scope cl C X.env) fp).tr [] xe) tg g)
    (ht : ∀ (s : Shared) (H : Hp) (C : Addr) (cl : List (Str × Addr)) (fp : List Addr) (xe : Value → Shared → Prop), Takes ((X.blk s H scope (compEnvC scope cl C X.env) fp).tr [] xe) W → PTs ((X.blk s H scope (compEnvC scope cl C X.env) fp).tr [] xe) ifs tt)
    (he : ∀ (s : Shared) (H : Hp) (C : Addr) (cl : List (Str × Addr)) (fp : List Addr) (xe : Value → Shared → Prop), Takes ((X.blk s H scope (compEnvC scope cl C X.env) fp).tr [] xe) W → PE ((X.blk s H scope (compEnvC scope cl C X.env) fp).tr [] xe) elt te)
    (hs : ∀ x, foldedSetIterable iter X.env x = pure x := by intro _; rfl) :
    PE X (.ListComp elt [⟨tg, iter, ifs, 0⟩] scope pos) (tLc wi g tt te (own.map (·.2))) := by
  refine ⟨fun pins s σ H Q I h => ?_⟩
  rw [eval_ListComp]
  refine lc_coreX hst hf tk hW hc hN I hi ok hg ht he hs h fun D ce s' m H' I' q hn f => ⟨m, hn, fun h'' sb => ?_⟩
  obtain ⟨f0, f1, f2, f3, f4, f5⟩ := f
  exact ⟨.ref D, H', I'.turned (t' := s'.toks) (fun b o hb e => (sb.2 b hb).trans e) f0 f1 f3 f4 f5, rfl, q⟩
theorem ps_setLcX {i : Nat} {y : Str} {py : Pos} {elt tg iter : Expr} {ifs : List Expr} {scope : Scope} {own : List (Str × Nat)} {pos spos : Pos} {wi : TI} {g : TG} {tt : TT} {te : TE} (tk : Takes X W)
    (hst : X.stack = X.env :: X.outer) (hf : X.env.frame = some X.env.locals) (hW : ∀ c d σ σ' H, W c d σ H → W c d σ' H) (hc : X.calm = true) (hN : X.N.Nodup) (hy : X.N[i]? = some y) (hyl : X.env.scope.names.lookup y = some .local)
    (hsw : swapsWith (.ListComp elt [⟨tg, iter, ifs, 0⟩] scope pos) (some (.Name y py)) spos.line X.env = pure true) (hi : PI X tg iter wi) (ok : BlkOk X.N X.env.scope scope own)
    (hg : ∀ (s : Shared) (H : Hp) (C : Addr) (cl : List (Str × Addr)) (fp : List Addr) (xe : Value → Shared → Prop), Takes ((X.blk s H scope (compEnvC scope cl C X.env) fp).tr [] xe) W → PG ((X.blk s H scope (compEnvC scope cl C X.env) fp).tr [] xe) tg g)
    (ht : ∀ (s : Shared) (H : Hp) (C : Addr) (cl : List (Str × Addr)) (fp : List Addr) (xe : Value → Shared → Prop), Takes ((X.blk s H scope (compEnvC scope cl C X.env) fp).tr [] xe) W → PTs ((X.blk s H scope (compEnvC scope cl C X.env) fp).tr [] xe) ifs tt)
    (he : ∀ (s : Shared) (H : Hp) (C : Addr) (cl : List (Str × Addr)) (fp : List Addr) (xe : Value → Shared → Prop), Takes ((X.blk s H scope (compEnvC scope cl C X.env) fp).tr [] xe) W → PE ((X.blk s H scope (compEnvC scope cl C X.env) fp).tr [] xe) elt te)
    (hs : ∀ x, foldedSetIterable iter X.env x = pure x := by intro _; rfl) :
    PS X (.Assign [.Name y py] (.ListComp elt [⟨tg, iter, ifs, 0⟩] scope pos) spos) (tAsg (tLc wi g tt te (own.map (·.2))) (gName i)) := by
  refine ⟨fun pins s σ H D I h => ?_⟩
  rw [exec_Assign_Name_used _ _ _ _ hsw]
  refine wpAny_bind (wpAny_standAt (wpAny_bind ?_))
  show wpAny _ X.A (do let _ ← comprehension (.ListComp elt [⟨tg, iter, ifs, 0⟩] scope pos) scope X.env (firstIterPos [⟨tg, iter, ifs, 0⟩] pos) (newList []) false (eval iter X.env) (some (assign (.Name y py) X.env))) _ _ s
  have h : tLc wi g tt te (own.map (·.2)) σ H (fun x H1 => gName i x σ H1 D.nx) := h
  refine wpAny_bind (thn (lc_coreX (Qf := fun _ s' => SP X pins D .next s') hst hf tk hW hc hN I hi ok hg ht he hs h fun L ce s' m H' I' q hn f => ?_) fun _ s' hq => wpAny_pure (wpAny_pure hq))
  show wpAny _ _ (assign (.Name y py) X.env (.ref L)) _ _ _
  refine wpAny_assign_Name (store_ok2 (v := V.ref L) I' hN hy (.inl hyl) rfl (fun s2 I2 ⟨a, sb, ha⟩ => ?_) (.inr hyl))
  obtain ⟨f0, f1, f2, f3, f4, f5⟩ := f
  have haC : ce.locals ≠ a := by
    rcases ha with z | z
    · rw [z]; exact f1
    · exact fun e => f4 y a z e.symm
  refine ⟨m, hn.sameBut sb haC, fun h3 sb3 => ?_⟩
  exact ⟨_, H', I2.turned (t' := s2.toks) (fun b o hb e => (sb3.2 b hb).trans e) f0 f1 f3 f4 f5, q⟩
end
end TP

set_option Elab.async false
set_option linter.all false
set_option maxRecDepth 100000
set_option maxHeartbeats 4000000
/-! TP, part 45: set(list of ints), sorted of it. -/
namespace TP
open PySem PySem.Spec PyProof.Rows L2
section
variable {P : Program} {w : World} {A : Around} {E : Value → Shared → Prop} {s : Shared}
theorem call_set_lstI {l : Addr} {items : Array Value} (ns : List Int) {Q : Value → Shared → Prop} (hh : A.handled = none) (hl : s.heap.IsList l items) (hit : IntsAre items.toList ns) (hb : ns.length + 1 < scanBound)
    (h : ∀ (h' : Heap) (tk c : Nat), SetR w h' s.heap.objs.size (fun j => decide (j ∈ ns)) c → c ≤ ns.length → (∀ b o, s.heap.get? b = some o → h'.get? b = some o) → Q (.ref s.heap.objs.size) { s with heap := h', toks := tk }) :
    wpAny (model P w) A (call (.type "set") [.ref l]) Q E s := by
  have hisz : items.size = ns.length := by
    have q := IntsAre.length hit
    rw [Array.length_toList] at q
    exact q
  obtain ⟨c, tl, hmro⟩ := PySem.F.called_set.mro
  have hmade := PySem.F.called_set.made
  have hsub := PySem.F.called_set.sub
  refine wpAny_call (codeAny_of_tree ?_)
  show wpAny _ _ (callAny (.type "set") _) _ _ _
  refine wpAny_pure ⟨Code.quiet_builtin _ (by decide +kernel), codeAny_builtin PySem.F.entry_type_call ?_⟩
  rw [Around.under_plain (weight_type_call_type "set" [.ref l] []) rfl]
  have h1 := PySem.F.called_set.notType
  have h2 := PySem.F.called_set.canCreate
  have hct := PySem.F.typeCall_set_1 (.ref l)
  repeat (any_goals (first | assumption | wp_step))

  refine codeAny_mono (code_set_led1 (.ref l) (E := E) (Q₁ := fun obj s₁ => obj = .ref s.heap.objs.size ∧ s₁ = { s with heap := s.heap.push { cls := .type "set", dict := none, data := .set #[] 0 (.fresh 0 0 (!w.params.followText "set-order")) } }) ⟨rfl, rfl⟩) fun r s₁ hr => ?_
  cases r with
  | error e => exact hr
  | ok fl =>
    cases fl with
    | ret obj =>
      obtain ⟨rfl, rfl⟩ := hr
      have hS : (s.heap.push { cls := .type "set", dict := none, data := .set #[] 0 (.fresh 0 0 (!w.params.followText "set-order")) }).get? s.heap.objs.size = some { cls := .type "set", dict := none, data := .set #[] 0 (.fresh 0 0 (!w.params.followText "set-order")) } := Heap.get?_push_size _ rfl
      have hT : Shared.TypeIs { s with heap := s.heap.push { cls := .type "set", dict := none, data := .set #[] 0 (.fresh 0 0 (!w.params.followText "set-order")) } } (.ref s.heap.objs.size) "set" := ⟨_, hS, rfl⟩
      have hli := PySem.F.called_set.init.lookup
      have hbi := PySem.F.called_set.init.bind (.ref s.heap.objs.size)
      repeat (any_goals (first | assumption | wp_step))

      refine codeAny_mono (codeAny_call_builtin (R := wants (fun r s₂ => r = .none ∧ ∃ h' tk c, s₂ = { s with heap := h', toks := tk } ∧ SetR w h' s.heap.objs.size (fun j => decide (j ∈ ns)) c ∧ c ≤ ns.length ∧
          (∀ b o, s.heap.get? b = some o → h'.get? b = some o)) E) PySem.F.called_set.init.plain PySem.F.entry_set_init (check_set_init_1 hT ?_)) fun r₂ s₂ hr₂ => ?_
      · obtain ⟨ol, hol, hcl, nl, hdl⟩ := hl
        obtain ⟨ocls, odict, odata, oslots⟩ := ol
        simp only at hcl hdl
        subst hcl; subst hdl
        have hol' : (s.heap.push { cls := .type "set", dict := none, data := .set #[] 0 (.fresh 0 0 (!w.params.followText "set-order")) }).get? l = some { cls := .type "list", dict := odict, data := .seq items nl, slots := oslots } := Heap.get?_push_of_some _ hol
        have hsls := PySem.F.sub_list_set
        have hslf := PySem.F.sub_list_frozenset
        have hne : (Value.type "list" == Value.type "dict") = false := by decide
        have hl1 : (s.heap.push { cls := .type "set", dict := none, data := .set #[] 0 (.fresh 0 0 (!w.params.followText "set-order")) }).IsList l items := ⟨_, hol', rfl, nl, rfl⟩
        unfold Builtin.«set.__init__» noKeywords Builtin.Frozenset.updateFrom
        generalize hPI : pyIter = PI
        wp_walk
        subst hPI

        refine wpAny_pyIter_list hl1 ?_
        refine wpAny_bind (wpAny_runValue ?_)
        have hlS : l < s.heap.objs.size := Heap.lt_size hol
        have hh3 : A.in1.in1.in1.handled = none := by simp [hh]
        have hz1 : (s.heap.push { cls := .type "set", dict := none, data := .set #[] 0 (.fresh 0 0 (!w.params.followText "set-order")) }).objs.size = s.heap.objs.size + 1 := Heap.size_push ..
        have hneI : l ≠ (s.heap.push { cls := .type "set", dict := none, data := .set #[] 0 (.fresh 0 0 (!w.params.followText "set-order")) }).objs.size := by
          rw [Heap.size_push]; exact Nat.ne_of_lt (Nat.lt_succ_of_lt hlS)
        have hSf : s.heap.objs.size ∉ [(s.heap.push { cls := .type "set", dict := none, data := .set #[] 0 (.fresh 0 0 (!w.params.followText "set-order")) }).objs.size, l] := by
          rw [Heap.size_push]; simp only [List.mem_cons, List.mem_singleton, List.not_mem_nil, or_false, not_or]
          exact ⟨Nat.ne_of_lt (Nat.lt_succ_self _), Nat.ne_of_gt hlS⟩
        have hval : ∀ (i : Nat) (v : Value), items[i]? = some v → ∃ k t, ns[i]? = some k ∧ v = .int k t := fun i v hv => by
          have hi : i < ns.length := by rw [← hisz]; exact (Array.getElem?_eq_some_iff.mp hv).1
          obtain ⟨t, e⟩ := PyProof.Rows.IntsAre.int_at hit i v (by rw [Array.getElem?_toList]; exact hv)
          refine ⟨ns[i], t, List.getElem?_eq_getElem hi, ?_⟩
          rw [e, List.getD_eq_getElem?_getD, List.getElem?_eq_getElem hi] <;> rfl
        refine set_update_ints ((Walks.list hh3 _ l hneI items).toS) s.heap.objs.size
          hSf ns hisz hb hval (items.size - 0) 0 _ (by omega) (Nat.zero_le _)
          ⟨⟨_, Heap.get?_push_size _ rfl, rfl, rfl⟩, (hl1.push _)⟩ ?hS0 ?hR
        case hS0 =>
          have hget : ((s.heap.push { cls := .type "set", dict := none, data := .set #[] 0 (.fresh 0 0 (!w.params.followText "set-order")) }).push { cls := .type "list_iterator", data := .fields #[.ref l, .int 0 0] }).get? s.heap.objs.size
              = some { cls := .type "set", dict := none, data := .set #[] 0 (.fresh 0 0 (!w.params.followText "set-order")) } := Heap.get?_push_of_some _ hS
          exact ⟨0, Nat.le_refl 0, setR_new_at hget⟩
        case hR =>
          intro s' c' hm hc' hS'
          obtain ⟨h', g2, d', tk', os'⟩ := s'
          have eg : g2 = s.gens := hm.gens
          have ed : d' = s.drawn := hm.drawn
          have eo : os' = s.os := hm.os
          subst eg; subst ed; subst eo
          show wpAny _ _ _ _ _ _
          refine wpAny_pure ?_
          show wpAny _ _ (ret Value.none) _ _ _
          rw [hisz] at hc'
          refine wpAny_pure ⟨rfl, h', tk', c', rfl, hS', hc', fun b o e => ?_⟩
          have hb0 : b < s.heap.objs.size := Heap.lt_size e
          have hb1 : b ≠ s.heap.objs.size := Nat.ne_of_lt hb0
          have hb2 : b ≠ (s.heap.push { cls := .type "set", dict := none, data := .set #[] 0 (.fresh 0 0 (!w.params.followText "set-order")) }).objs.size := by
            rw [Heap.size_push]; exact Nat.ne_of_lt (Nat.lt_succ_of_lt hb0)
          exact hm.heap b o (by simp only [List.mem_cons, List.mem_singleton, List.not_mem_nil, or_false, not_or]; exact ⟨hb1, hb2⟩) (Heap.get?_push_of_some _ (Heap.get?_push_of_some _ e))

      · cases r₂ with
        | error e => exact hr₂
        | ok fl₂ =>
          cases fl₂ with
          | ret r =>
            obtain ⟨rfl, h', tk, c', rfl, hS', hc', hk'⟩ := hr₂
            repeat (any_goals (first | assumption | wp_step))
            exact h _ _ _ hS' hc' hk'
          | _ => exact hr₂.elim
    | _ => exact hr.elim

end
def rSetOfL (K : Fg) (w : World) : List V → Hp → VK → Prop := fun xs H Q => ∃ (l : Addr) (ns : List Int), xs = [V.ref l] ∧ SqL K H l (ns.map V.int) ∧ ns.length < 63 ∧
  ∀ a c, H a = none → c ≤ ns.length → Q (.ref a) (upd H a (SetO w a (fun j => decide (j ∈ ns)) c))
theorem cr_setOfL {X : Cx} (hc : X.calm = true) : CallR X (.type "set") (rSetOfL X.K X.w) := by
  intro pins s σ H xs us Q I r h
  obtain ⟨l, ns, rfl, hl, hf, q⟩ := h
  rw [Vals.ref1 r]
  obtain ⟨its, rv, pl, hz⟩ := I.list hl
  have hn : H s.heap.objs.size = none := I.hok.fresh (Nat.le_refl _)
  refine call_set_lstI (P := X.prog) (w := X.w) ns (I.ok.hd hc) pl.isList (by simpa using ints_of_vals rv) (by unfold scanBound; omega) fun h' tk c R hc' k => ?_
  refine ⟨.ref s.heap.objs.size, upd H s.heap.objs.size (SetO X.w s.heap.objs.size (fun j => decide (j ∈ ns)) c), I.laid (t' := tk) k (Nat.le_refl _) (setO_new R), rfl, q _ c hn hc'⟩
theorem kSetOfL {X : Cx} {w : World} {K : Fg} (hw : X.w = w) (hK : X.K = K) (hc : X.calm = true) : CallR X (.type "set") (rSetOfL K w) := by
  subst hw
  subst hK
  exact cr_setOfL hc
theorem kSortedI {X : Cx} {w : World} (hw : X.w = w) (hc : X.calm = true) : CallR X (.builtin "sorted") (rSortedSet w) := by
  subst hw
  exact cr_sortedSet hc
@[irreducible] def setI1 (xs : List Int) : Option (List Int) := if xs.length < 63 then some xs else none
def sortNI (xs : List Int) : List Int := sortL (Ordl.lt eI) (nub xs)
theorem setI1_ok {xs : List Int} (h : xs.length < 63) : setI1 xs = some xs := by
  unfold setI1
  rw [if_pos h]
def rSI (w : World) : Rp (List Int) where
  ok := fun K F H v x A => ∃ a c, v = .ref a ∧ H a = some (SetO w a (fun j => decide (j ∈ x)) c) ∧ A = [a] ∧ c < 64
  mono := fun ⟨a, c, h1, h2, h3, h4⟩ s t => by
    subst h3
    exact ⟨a, c, h1, (t a List.mem_cons_self).trans h2, rfl, h4⟩
  dom := fun ⟨a, c, h1, h2, h3, h4⟩ b hb => by
    subst h3
    rw [List.mem_singleton] at hb
    subst hb
    rw [h2]
    exact fun z => nomatch z
def vSI (w : World) : View (List Int) := ⟨fun K F H v x => ∃ a c, v = .ref a ∧ H a = some (SetO w a (fun j => decide (j ∈ x)) c) ∧ c < 64,
  fun ⟨a, c, h1, h2, h3⟩ s t => ⟨a, c, h1, t _ _ h2, h3⟩⟩
theorem vw_SI {w : World} : Vw (rSI w) (vSI w) := fun _ _ _ _ _ _ _ ⟨a, c, h1, h2, _, h4⟩ => ⟨a, c, h1, h2, h4⟩
theorem int_rows {K : Fg} {F : Hp} : ∀ {vs : List V} {xs : List Int}, DpAll K F vs (xs.map eI) → vs = xs.map V.int
  | [], [], _ => rfl
  | v :: vs, x :: xs, .cons h t => by
    rw [dp_int h, int_rows t]
    rfl
theorem o_setOfL {w : World} {K : Fg} : Cl1O K (rSetOfL K w) (vL eI) (rSI w) setI1 := fun F H v x z s h1 ez Q q => by
  obtain ⟨l, vs, rfl, g1, g2⟩ := h1
  have e := int_rows g2
  subst e
  unfold setI1 at ez
  split at ez
  case isFalse => cases ez
  rename_i c
  cases ez
  refine ⟨l, x, rfl, g1, c, fun a n hn hc => ?_⟩
  refine q (.ref a) F _ [a] (.newO s hn) ⟨a, n, rfl, upd_same, rfl, by omega⟩ ⟨by simp, fun z hz => ?_, fun z hz => ?_⟩
  · rw [List.mem_singleton] at hz
    rw [hz]
    exact hn
  · rw [List.mem_singleton] at hz
    rw [hz]
    exact s.back hn
theorem o_sortSI {w : World} {K : Fg} : Cl1O K (rSortedSet w) (vSI w) (ow (fz eI)) (fun x => some (sortNI x)) := fun F H v x z s h1 ez Q q => by
  obtain ⟨a, c, rfl, g1, g2⟩ := h1
  cases ez
  refine ⟨a, _, c, rfl, g1, g2, fun ns p pw hm hl hp => ?_⟩
  have fin : ns = sortNI x := by
    refine asc_unique (lt := Ordl.lt eI) (pw.imp fun {a b} h => ?_) (sort_asc _) ?_
    · show decide (b < a) = false
      exact decide_eq_false (by omega)
    · refine List.Perm.trans ((List.perm_ext_iff_of_nodup (pw.imp fun {a b} h => by omega) (nub_nodup x)).mpr fun y => ?_) (sortL_perm _).symm
      rw [mem_nub, hm, decide_eq_true_iff]
  have d := dp_ints (K := K) (H := F) ns
  rw [fin] at d ⊢
  exact newL s d hp q
instance lawVO : Law (eV (eO eI)) where
  plain xs := by simp only [eV, PyData.plain]; exact plainAll_map xs
  eqv xs ys := by simp only [eV, PyData.eqv]; exact eqvAll_map xs ys
  dep := Law.dep (eO eI) + 1
  dep_le xs := by simp only [eV, PyData.depth]; exact Nat.succ_le_succ (depthAll_map xs)
instance lawO3 {α β γ : Type} [DecidableEq α] [DecidableEq β] [DecidableEq γ] {e : Enc α} {f : Enc β} {g : Enc γ} [Law e] [Law f] [Law g] : Law (eO (e3 e f g)) where
  plain a := by
    cases a with
    | none => rfl
    | some x => exact Law.plain (e := e3 e f g) x
  eqv a b := by
    cases a with
    | none => cases b with
      | none => simp [eO, PyData.eqv]
      | some y => simp [eO, e3, PyData.eqv]
    | some x => cases b with
      | none => simp [eO, e3, PyData.eqv]
      | some y =>
        show PyData.eqv (e3 e f g x) (e3 e f g y) = _
        rw [Law.eqv (e := e3 e f g) x y]
        simp
  dep := Law.dep (e3 e f g)
  dep_le a := by
    cases a with
    | none => exact Nat.zero_le _
    | some x => exact Law.dep_le (e := e3 e f g) x
end TP

set_option Elab.async false
set_option linter.all false
set_option maxRecDepth 100000
set_option maxHeartbeats 4000000
/-! TP, part 46: an item taken out of an owned list of lists, a new list put there; a module's dict of texts. -/
namespace TP
open PySem PySem.Spec PyProof.Rows L2
section
variable {K : Fg} {mg : Str → Option Value} {W : WX} {S : List Sl} {u : TS} {α β τ ι : Type} {R : Rp α} {B : β → List Sl} {N : Option (τ → List Sl)}
theorem OkL.put {r : Rp ι} {F H : Hp} : ∀ {vs : List V} {xs : List ι} {A : List Addr} {k : Nat} {x : ι}, OkL r K F H vs xs A → xs[k]? = some x → ∃ w A1 Ak A2, vs[k]? = some w ∧ A = A1 ++ (Ak ++ A2) ∧ r.ok K F H w x Ak ∧
    ∀ (F' H' : Hp) (x' : ι) (w' : V) (Ak' : List Addr), Sub F F' → (∀ a, a ∈ A1 ∨ a ∈ A2 → H' a = H a) → r.ok K F' H' w' x' Ak' → OkL r K F' H' (vs.set k w') (xs.set k x') (A1 ++ (Ak' ++ A2))
  | [], [], _, _, _, _, e => by simp at e
  | v :: vs, y :: ys, _, 0, x, ⟨A1, A2, e, h1, h2⟩, z => by
    simp at z
    subst z e
    exact ⟨v, [], A1, A2, rfl, rfl, h1, fun F' H' x' w' Ak' sf sh h' => ⟨Ak', A2, rfl, h', h2.mono sf fun a ha => sh a (.inr ha)⟩⟩
  | v :: vs, y :: ys, _, k + 1, x, ⟨A1, A2, e, h1, h2⟩, z => by
    obtain ⟨w, B1, Bk, B2, q1, q2, q3, q4⟩ := OkL.put (k := k) (x := x) h2 (by simpa using z)
    subst e q2
    refine ⟨w, A1 ++ B1, Bk, B2, by simpa using q1, by rw [List.append_assoc], q3, fun F' H' x' w' Ak' sf sh h' => ?_⟩
    rw [List.append_assoc]
    exact ⟨A1, _, rfl, r.mono h1 sf fun a ha => sh a (.inl (List.mem_append_left _ ha)), q4 F' H' x' w' Ak' sf (fun a ha => sh a (ha.imp (fun z => List.mem_append_right _ z) fun z => z)) h'⟩
  | [], _ :: _, _, _, _, h, _ => h.elim
  | _ :: _, [], _, _, _, h, _ => h.elim
/-- made = found[to]; found[to] = [] -/
theorem Y.takeF {i j k : Nat} {e : Enc ι} {xs : List (List ι)} {n : Int} {kk : List ι → List (List ι) → Res (Fl α β τ)} (hs : S[i]? = some (.val (ow (ow (fz e))) xs)) (hn : S[k]? = some (.val (fz eI) n)) (hji : j ≠ i) (hjk : j ≠ k) (hj : S[j]?.isSome = true)
    (hu : ∀ (x : List ι) (ys : List (List ι)), Y K mg W ((S.set i (.val (ow (ow (fz e))) ys)).set j (.val (fz (eL e)) x)) u R B N (kk x ys)) :
    Y K mg W S (tSeq (tAsg (tOp (rIxL K) (tVar i) (tVar k)) (gName j)) (tSeq (tAsg (tLst tNil) (gSub (tVar i) (tVar k) rSetL)) u)) R B N ((chk (itQ xs n)).bind fun q => kk q.1 (xs.set q.2 [])) := ⟨fun h => .bind fun q => (hu _ _).no h, fun F H σ A a D q => by
  obtain ⟨⟨x, m⟩, ei, q⟩ := Post.of_chk (Post.of_bind q)
  obtain ⟨o, A1, Ai, A2, e1, e2, e3, e4⟩ := a.sl.at hs
  obtain ⟨ok_, K1, Ki, K2, f1, f2, f3, _⟩ := a.sl.at hn
  cases o with
  | none => exact e3.elim
  | some v =>
    cases ok_ with
    | none => exact f3.elim
    | some vn =>
      obtain ⟨rfl, f3⟩ := f3
      have evn : vn = V.int n := dp_int f3
      subst evn
      obtain ⟨l, vs, A', rfl, hl, rfl, okl⟩ := e3
      unfold itQ at ei
      cases c : ixN xs.length n with
      | none =>
        rw [c] at ei
        cases ei
      | some m' =>
        rw [c] at ei
        cases c2 : xs[m']? with
        | none =>
          simp [c2] at ei
        | some x' =>
          simp [c2] at ei
          obtain ⟨rfl, rfl⟩ := ei
          obtain ⟨w, B1, Ak, B2, g1, rfl, g3, g4⟩ := OkL.put okl c2
          have el : vs.length = xs.length := okL_len okl
          refine ⟨_, e1, _, f1, l, vs, n, w, rfl, rfl, .inl (.of hl), ?_, ?_⟩
          · unfold atI
            rw [el, c]
            exact g1
          · show tSeq (tAsg (tLst tNil) (gSub (tVar i) (tVar k) rSetL)) u D (σ.set j (some w)) H
            refine ⟨by show 0 ≤ sizeLine; decide, fun p hp => ⟨_, by rw [List.getElem?_set_ne hji]; exact e1, _, by rw [List.getElem?_set_ne hjk]; exact f1, l, vs, n, m', rfl, rfl, ?_, by rw [el]; exact c, ?_⟩⟩
            · rw [upd_ne (fun z => by rw [z, hp] at hl; cases hl)]
              exact hl
            · subst e2
              have dom := a.sl.dom
              have nd := a.nd
              have fo := a.fo
              have n1 := List.nodup_append.mp nd
              have n2 := List.nodup_append.mp n1.2.1
              have n3 := List.nodup_cons.mp n2.1
              have n4 := List.nodup_append.mp n3.2
              have n5 := List.nodup_append.mp n4.2.1
              have inI : ∀ z ∈ l :: (B1 ++ (Ak ++ B2)), z ∈ A1 ++ ((l :: (B1 ++ (Ak ++ B2))) ++ A2) := fun z h => List.mem_append_right _ (List.mem_append_left _ h)
              have inK : ∀ z ∈ Ak, z ∈ l :: (B1 ++ (Ak ++ B2)) := fun z h => List.mem_cons_of_mem _ (List.mem_append_right _ (List.mem_append_left _ h))
              have in1 : ∀ z ∈ A1, z ∈ A1 ++ ((l :: (B1 ++ (Ak ++ B2))) ++ A2) := fun z h => List.mem_append_left _ h
              have in2 : ∀ z ∈ A2, z ∈ A1 ++ ((l :: (B1 ++ (Ak ++ B2))) ++ A2) := fun z h => List.mem_append_right _ (List.mem_append_right _ h)
              have inB1 : ∀ z ∈ B1, z ∈ l :: (B1 ++ (Ak ++ B2)) := fun z h => List.mem_cons_of_mem _ (List.mem_append_left _ h)
              have inB2 : ∀ z ∈ B2, z ∈ l :: (B1 ++ (Ak ++ B2)) := fun z h => List.mem_cons_of_mem _ (List.mem_append_right _ (List.mem_append_right _ h))
              have hf : Sub F (addF F H Ak) := sub_add fun z hz => fo z (inI z (inK z hz))
              have hw : Dp K (addF F H Ak) w (eL e x') := (frz_ow frz_fz : Frz (ow (fz e)) (eL e)) _ _ _ _ _ _ _ g3 hf fun z hz => addF_in hz
              have pd : ∀ z, H z ≠ none → z ≠ p := fun z h k => h (by rw [k]; exact hp)
              have keep : ∀ z, H z ≠ none → z ≠ l → upd (upd H p (.lst [])) l (.lst (vs.set m' (.ref p))) z = H z := fun z h k => by
                rw [upd_ne k, upd_ne (pd z h)]
              have okN : OkL (ow (fz e)) K (addF F H Ak) (upd (upd H p (.lst [])) l (.lst (vs.set m' (.ref p)))) (vs.set m' (.ref p)) (xs.set m' []) (B1 ++ ([p] ++ B2)) := by
                refine g4 _ _ [] (.ref p) [p] hf (fun z hz => ?_) ⟨p, [], [], rfl, ?_, rfl, rfl⟩
                · have zi : z ∈ l :: (B1 ++ (Ak ++ B2)) := hz.elim (inB1 z) (inB2 z)
                  refine keep z (dom z (inI z zi)) fun q => ?_
                  rw [q] at hz
                  exact n3.1 (hz.elim (fun h => List.mem_append_left _ h) fun h => List.mem_append_right _ (List.mem_append_right _ h))
                · rw [upd_ne (fun q => by rw [q, hl] at hp; cases hp), upd_same]
              have key := e4 (addF F H Ak) (upd (upd H p (.lst [])) l (.lst (vs.set m' (.ref p)))) (some (.ref l)) (.val (ow (ow (fz e))) (xs.set m' [])) (l :: (B1 ++ ([p] ++ B2))) hf (fun z hz => keep z (dom z (hz.elim (in1 z) (in2 z))) fun q => by
                  rw [q] at hz
                  rcases hz with h | h
                  · exact n1.2.2 l h l (List.mem_append_left _ List.mem_cons_self) rfl
                  · exact n2.2.2 l List.mem_cons_self l h rfl) ⟨l, _, _, rfl, upd_same, rfl, okN⟩
              have es : σ.set i (some (V.ref l)) = σ := by
                refine List.ext_getElem? fun y => ?_
                by_cases z : i = y
                · subst z
                  rw [e1, List.getElem?_set_self (by
                    obtain ⟨hl, _⟩ := List.getElem?_eq_some_iff.mp e1
                    exact hl)]
                · rw [List.getElem?_set_ne z]
              rw [es] at key
              -- the new addresses
              have mem : ∀ z ∈ A1 ++ ((l :: (B1 ++ ([p] ++ B2))) ++ A2), (z ∈ A1 ++ ((l :: (B1 ++ (Ak ++ B2))) ++ A2) ∧ z ∉ Ak) ∨ z = p := fun z hz => by
                have nk : ∀ y ∈ Ak, y ∉ A1 ∧ y ∉ A2 ∧ y ≠ l ∧ y ∉ B1 ∧ y ∉ B2 := fun y hy => ⟨fun h => n1.2.2 y h y (List.mem_append_left _ (inK y hy)) rfl, fun h => n2.2.2 y (inK y hy) y h rfl, fun h => n3.1 (by rw [← h]; exact List.mem_append_right _ (List.mem_append_left _ hy)), fun h => n4.2.2 y h y (List.mem_append_left _ hy) rfl, fun h => n5.2.2 y hy y h rfl⟩
                rcases List.mem_append.mp hz with h | h
                · exact .inl ⟨in1 z h, fun k => (nk z k).1 h⟩
                · rcases List.mem_append.mp h with h | h
                  · rcases List.mem_cons.mp h with h | h
                    · exact .inl ⟨by rw [h]; exact inI l List.mem_cons_self, fun k => (nk z k).2.2.1 h⟩
                    · rcases List.mem_append.mp h with h | h
                      · exact .inl ⟨inI z (inB1 z h), fun k => (nk z k).2.2.2.1 h⟩
                      · rcases List.mem_append.mp h with h | h
                        · exact .inr (List.mem_singleton.mp h)
                        · exact .inl ⟨inI z (inB2 z h), fun k => (nk z k).2.2.2.2 h⟩
                  · exact .inl ⟨in2 z h, fun k => (nk z k).2.1 h⟩
              have pn : ∀ z, z ∈ A1 ++ ((l :: (B1 ++ (Ak ++ B2))) ++ A2) → z ≠ p := fun z hz => pd z (dom z hz)
              have ndN : (A1 ++ ((l :: (B1 ++ ([p] ++ B2))) ++ A2)).Nodup := by
                have pI : ∀ z ∈ l :: (B1 ++ (Ak ++ B2)), z ≠ p := fun z hz => pn z (inI z hz)
                have m1 : ∀ z ∈ l :: (B1 ++ ([p] ++ B2)), z ∈ l :: (B1 ++ (Ak ++ B2)) ∨ z = p := fun z hz => by
                  rcases List.mem_cons.mp hz with h | h
                  · exact .inl (by rw [h]; exact List.mem_cons_self)
                  · rcases List.mem_append.mp h with h | h
                    · exact .inl (inB1 z h)
                    · rcases List.mem_append.mp h with h | h
                      · exact .inr (List.mem_singleton.mp h)
                      · exact .inl (inB2 z h)
                refine List.nodup_append.mpr ⟨n1.1, List.nodup_append.mpr ⟨List.nodup_cons.mpr ⟨fun h => ?_, List.nodup_append.mpr ⟨n4.1, List.nodup_append.mpr ⟨by simp, n5.2.1, fun y hy z hz q => ?_⟩, fun y hy z hz q => ?_⟩⟩, n2.2.1, fun y hy z hz q => ?_⟩, fun y hy z hz q => ?_⟩
                · rcases List.mem_append.mp h with h | h
                  · exact n3.1 (List.mem_append_left _ h)
                  · rcases List.mem_append.mp h with h | h
                    · exact pI l List.mem_cons_self (List.mem_singleton.mp h)
                    · exact n3.1 (List.mem_append_right _ (List.mem_append_right _ h))
                · rw [List.mem_singleton] at hy
                  exact pI z (inB2 z hz) (by rw [← q, hy])
                · rcases List.mem_append.mp hz with h | h
                  · rw [List.mem_singleton] at h
                    exact pI y (inB1 y hy) (by rw [q, h])
                  · exact n4.2.2 y hy z (List.mem_append_right _ h) q
                · rcases m1 y hy with h | h
                  · exact n2.2.2 y h z hz q
                  · exact pn z (in2 z hz) (by rw [← q, h])
                · rcases List.mem_append.mp hz with h | h
                  · rcases m1 z h with h | h
                    · exact n1.2.2 y hy z (List.mem_append_left _ h) q
                    · exact pn y (in1 y hy) (by rw [q, h])
                  · exact n1.2.2 y hy z (List.mem_append_right _ h) q
              have fp : F p = none := by
                cases z : F p with
                | none => rfl
                | some o =>
                  rw [a.fh _ _ z] at hp
                  cases hp
              have pK : p ∉ Ak := fun h => pn p (inI p (inK p h)) rfl
              have a' : At K (addF F H Ak) (upd (upd H p (.lst [])) l (.lst (vs.set m' (.ref p)))) σ (S.set i (.val (ow (ow (fz e))) (xs.set m' []))) (A1 ++ ((l :: (B1 ++ ([p] ++ B2))) ++ A2)) := by
                refine ⟨fun z o hz => ?_, ndN, fun z hz => ?_, key⟩
                · by_cases hk : z ∈ Ak
                  · rw [addF_in hk] at hz
                    rw [keep z (by rw [hz]; exact fun y => nomatch y) fun q => n3.1 (by rw [← q]; exact List.mem_append_right _ (List.mem_append_left _ hk))]
                    exact hz
                  · rw [addF_out hk] at hz
                    have h1 := a.fh z o hz
                    rw [keep z (by rw [h1]; exact fun y => nomatch y) fun q => by
                      rw [q, fo l (inI l List.mem_cons_self)] at hz
                      cases hz]
                    exact h1
                · rcases mem z hz with ⟨h1, h2⟩ | h
                  · rw [addF_out h2]
                    exact fo z h1
                  · rw [h, addF_out pK]
                    exact fp
              obtain ⟨A3, a3, n3'⟩ := a'.setF (i := j) (Pu.refl a'.fh) hw (by rw [List.length_set]; exact lt_some hj)
              refine (hu x' (xs.set m' [])).run _ _ _ A3 a3 D (Post.from (Nx.trans ⟨hf, fun z o h hn => ?_, fun z h hn => addF_out fun hk => hn (inI z (inK z hk)), fun z hz => (mem z hz).elim (fun h => .inl h.1) fun h => .inr (by rw [h]; exact hp), fun z h => ?_⟩ n3') q)
              · rw [keep z (by rw [h]; exact fun y => nomatch y) fun k => hn (by rw [k]; exact inI l List.mem_cons_self)]
                exact h
              · by_cases k : z = l
                · rw [k, upd_same]
                  exact fun y => nomatch y
                · rw [keep z h k]
                  exact h⟩
end
/-! ### a module's dict, texts to texts -/
def KTab (K : Fg) (w : World) (a : Addr) (tab : List (Str × Str)) : Prop :=
  ∃ es n, K.lookup a = some ⟨.type "dict", none, .dict es n, #[]⟩ ∧ PySem.W.KeysLit w.params es.toList ∧ ∀ p ∈ tab, ∃ t, PySem.W.nsIn K a p.1 = some (some (.str p.2 t))
def vKD (a : Addr) : View Unit := ⟨fun _ _ _ v _ => v = .ref a, fun h _ _ => h⟩
def tabQ (tab : List (Str × Str)) (x : Str) : Option Str := tab.lookup x
theorem kIxD {X : Cx} {K : Fg} {w : World} (hK : X.K = K) (hw : X.w = w) : IxR X (rIxD K w) := by
  subst hK
  subst hw
  exact ix_kdict
section
variable {K : Fg} {mg : Str → Option Value} {W : WX} {S : List Sl}
theorem XB.kd {a : Addr} : XB K mg W S (tC (.ref a)) (vKD a) (.ok ()) := fun F H σ A a Q q => q _ F H (.refl a.fh) rfl
theorem o_ixKD {w : World} {a : Addr} {tab : List (Str × Str)} (h : KTab K w a tab) : Op K (rIxD K w) (vKD a) vS vS (fun _ z => tabQ tab z) := fun F H v u x y z s h1 h2 ez Q q => by
  obtain ⟨es, n, k1, k2, k3⟩ := h
  have mem : ∀ {tab : List (Str × Str)}, tab.lookup y = some z → (y, z) ∈ tab := fun {tab} => by
    induction tab with
    | nil => exact fun e => nomatch e
    | cons p tab ih =>
      intro e
      rw [List.lookup_cons] at e
      by_cases c : (y == p.1) = true
      · rw [c] at e
        have e1 : y = p.1 := by simpa using c
        have e2 : p.2 = z := Option.some.inj e
        rw [e1, ← e2]
        exact List.mem_cons_self
      · have c2 : (y == p.1) = false := by simpa using c
        rw [c2] at e
        exact List.mem_cons_of_mem _ (ih e)
  obtain ⟨t, k4⟩ := k3 _ (mem ez)
  exact ⟨a, y, .str z, h1, dp_str h2, ⟨es, n, _, k1, k2, k4, ⟨t, rfl⟩⟩, q _ F H (.refl s) (.str z)⟩
end
/-! ### xs.count(k) -/
theorem kCount {X : Cx} {K : Fg} (hK : X.K = K) : MtR X "list.count" (rCntI K) := by
  subst hK
  exact mt_lcount
def cntQ (xs : List Int) (i : Int) : Int := ((xs.count i : Nat) : Int)
section
variable {K : Fg} {mg : Str → Option Value} {W : WX} {S : List Sl} {te ta : TE}
theorem XB.lcount {m : Res (List Int)} {mi : Res Int} (h : XB K mg W S te (TP.vL eI) m) (hi : XB K mg W S ta (vD eI) mi) :
    XB K mg W S (tBM K "list" (rCntI K) te (tCons ta tNil)) (vD eI) (m.bind fun xs => mi.bind fun i => .ok (cntQ xs i)) := fun F H σ A a Q q =>
  h F H σ A a _ ((Post.of_bind q).imp (fun xs k v F1 H1 p1 u1 => by
    obtain ⟨l, vs, rfl, g1, g2⟩ := u1
    have ev := dpAll_ints g2
    subst ev
    refine ⟨.inl ⟨rfl, _, g1⟩, hi F1 H1 σ A (a.pu p1) _ ((Post.of_bind k).imp (fun i k2 w F2 H2 p2 u2 => ?_) fun e z => z.pu p1)⟩
    rw [dp_int u2]
    exact ⟨l, xs, i, rfl, rfl, sqL_sub p2.hh g1, k2 _ F2 H2 (p1.trans p2) (.int _)⟩) fun e z => z)
end
/-! ### what stands behind a try's first statement and lets nothing out -/
theorem YE.calmT {K : Fg} {mg : Str → Option Value} {W : WX} {S S0 : List Sl} {t : TS} {α β τ : Type} {R : Rp α} {B : β → List Sl} {N : Option (τ → List Sl)} {m : Res (Fl α β τ)} (h : Y K mg (fun _ _ _ _ => True) S t R B N m) : YE K mg W S t R B N S0 m.noer where
  no := fun z => noer_nn (h.no z)
  run := fun F H σ A a D q => h.run F H σ A a D (Post.of_noer q)
end TP

set_option Elab.async false
set_option linter.all false
set_option maxRecDepth 100000
set_option maxHeartbeats 4000000
set_option autoImplicit true
/-! TP, part 47: a dict display, texts to texts, asked for a text -/
namespace TP
open PySem PySem.Spec PyProof.Rows L2
section
variable {K : Fg} {mg : Str → Option Value} {W : WX} {S : List Sl} {td tk : TE}
theorem XB.dispIx {ι : Type} {D : ι → List (Key × PyData)} {md : Res ι} (hd : XO K mg W S td (rDk D) md) (tab : ι → List (Str × Str)) (hD : ∀ x, D x = (tab x).map fun p => ((.inr p.1 : Key), eS p.2)) (nd : ∀ x, ((D x).map (·.1)).Nodup) {mk : Res Str} (hk : XB K mg W S tk (vD eS) mk) :
    XB K mg W S (tDGet td tk) (vD eS) (md.bind fun x => mk.bind fun y => chk (tabQ (tab x) y)) := fun F H σ A a Q q =>
  hd F H σ A a _ ((Post.of_bind q).imp (fun x k1 v F1 H1 Av p1 u1 fr => by
    obtain ⟨b, kvs, rfl, hb, rfl, h4⟩ := u1
    refine hk F1 H1 σ A (a.pu p1) _ ((Post.of_bind k1).imp (fun y k2 u F2 H2 p2 u2 => ?_) fun e z => z.pu p1)
    obtain ⟨z, ez, k3⟩ := Post.of_chk k2
    have mem : ∀ {tab : List (Str × Str)}, tab.lookup y = some z → ∃ n : Nat, tab[n]? = some (y, z) := fun {tab} => by
      induction tab with
      | nil => exact fun e => nomatch e
      | cons p tab ih =>
        intro e
        rw [List.lookup_cons] at e
        by_cases c : (y == p.1) = true
        · rw [c] at e
          have e1 : y = p.1 := by simpa using c
          have e2 : p.2 = z := Option.some.inj e
          exact ⟨0, by rw [e1, ← e2]; rfl⟩
        · have c2 : (y == p.1) = false := by simpa using c
          rw [c2] at e
          obtain ⟨n, hn⟩ := ih e
          exact ⟨n + 1, hn⟩
    obtain ⟨n, hn⟩ := mem ez
    have hn2 : (D x)[n]? = some ((.inr y : Key), eS z) := by rw [hD, List.getElem?_map, hn]; rfl
    obtain ⟨w, g1, g2⟩ := (h4.sub p2.ff).get (nd x) hn2
    have ey : u = kV (.inr y) := dp_str u2
    subst ey
    exact ⟨b, w, rfl, by rw [← g1]; exact DGet.k (p2.hh _ _ hb), k3 w F2 H2 (p1.trans p2) g2⟩) fun e z => z)
end
/-! ### i << j -/
@[irreducible] def shlQ (a b : Int) : Option Int := if 0 ≤ b ∧ b ≤ 1000000 ∧ a.natAbs < 2 ^ 64 then some (a * 2 ^ b.toNat) else none
theorem shlQ_ok {a b : Int} (h : 0 ≤ b ∧ b ≤ 1000000 ∧ a.natAbs < 2 ^ 64) : shlQ a b = some (a * 2 ^ b.toNat) := by
  unfold shlQ
  rw [if_pos h]
theorem o_shl {K : Fg} : Op K (rI CPow fun i j => .int (i * 2 ^ j.toNat)) vI vI vI shlQ := o_IC fun a b z h => by
  unfold shlQ at h
  split at h
  · rename_i k
    cases h
    exact ⟨k, rfl⟩
  · cases h
/-! ### a comprehension in a try: what it goes through may raise, its elements may not -/
section
variable {K : Fg} {mg : Str → Option Value} {W : WX} {S : List Sl} {tt : TT} {te : TE} {γ : Type}
theorem XO.lcN {ι : Type} {wi : TI} {g : TG} {vs : List Nat} {e : Enc ι} {r : Rp γ} {ml : Res (List ι)} {S1 : ι → List Sl} {c : ι → Res Bool} {f : ι → Res γ}
    (hi : XI K mg W S wi e ml) (hg : XTg K (wipeS S vs) g vs e S1) (hc : ∀ x, XT K mg (fun _ _ _ _ => True) (S1 x) tt (c x)) (he : ∀ x, XO K mg (fun _ _ _ _ => True) (S1 x) te r (f x)) :
    XO K mg W S (tLc wi g tt te vs) (ow r) (ml.bind fun xs => (lcR c f xs).noer) := by
  cases ml with
  | ok xs =>
    have hi' : XI K mg (fun _ _ _ _ => True) S wi e (.ok xs) := fun F H σ A a Q q => hi F H σ A a Q q
    have h := XO.lc (W := fun _ _ _ _ => True) hi' hg hc he (fun _ _ _ _ _ h => h)
    exact fun F H σ A a Q q => h F H σ A a Q (Post.of_noer q)
  | er x => exact fun F H σ A a Q q => hi F H σ A a _ q
  | bad => exact fun F H σ A a Q q => q.elim
end
end TP

set_option Elab.async false
set_option linter.all false
set_option maxRecDepth 100000
set_option maxHeartbeats 4000000
set_option autoImplicit false
/-! TP, part 48: a loop over a list of one's own whose items are told apart; the list stays as it is while it is walked. -/
namespace TP
open PySem PySem.Spec L2
section
variable {K : Fg} {mg : Str → Option Value} {W : WX} {S T : List Sl} {te ta tb tc : TE} {α β γ ι κ τ τ1 : Type} {R : Rp α} {B : β → List Sl}
theorem Y.forL {i : Nat} {e : Enc ι} {xs : List ι} {g : TG} {tt : TS} {N1 : V → τ1 → List Sl} {N2 : τ1 → List Sl} {S' : V → τ1 → ι → List Sl} {f : ι → τ1 → Res (Fl α τ1 τ1)} {s0 : τ1}
    (hs : S[i]? = some (.val (ow (fz e)) xs)) (hN : ∀ v s, (N1 v s)[i]? = some (.val (pin v (ow (fz e))) xs)) (hN2 : ∀ v s, (N1 v s).set i (.val (ow (fz e)) xs) = N2 s)
    (hw : ∀ v, Wk (S.set i (.val (pin v (ow (fz e))) xs)) (N1 v s0)) {ts : List Nat} (hg : ∀ v s, XTg K (N1 v s) g ts e (S' v s)) (hb : ∀ v x s, Y K mg W (S' v s x) tt R (N1 v) (some (N1 v)) (f x s)) :
    Y K mg W S (tFor (iList K (tVar i)) g tt) R B (some N2) (forR f xs s0) := by
  have := Y.forA (K := K) (mg := mg) (W := W) (S := S) (R := R) (B := B) (i := i) (r := ow (fz e)) (x0 := xs) (wi := iList K (tVar i)) (g := g) (tb := tt) (e := e) (ml := .ok xs) (N1 := N1) (N2 := N2) (S' := S') (f := f) (s0 := s0) hs hN hN2 ?_ hw hg hb
  · exact this
  · rintro F H σ A v a ⟨Ai, ok⟩ ev Q q
    obtain ⟨l, vs, A', rfl, hl, e3, okl⟩ := ok
    refine ⟨_, ev, l, rfl, ⟨vs, .of hl⟩, q _ F H (.refl a.fh) fun s F2 H2 σ2 A2 s1 a2 j => ?_⟩
    obtain ⟨o, C1, Ci, C2, f1, f2, f3, f4⟩ := a2.sl.at (hN (.ref l) s)
    cases o with
    | none => exact f3.elim
    | some u =>
      obtain ⟨rfl, l2, vs2, A2', hu, hl2, _, okl2⟩ := f3
      cases hu
      have dz := (okL_fz okl2).2
      have l1 : vs2.length = xs.length := by rw [dpAll_len dz, List.length_map]
      refine ⟨fun hi => ⟨vs2, .of hl2, by rw [l1]; exact hi⟩, fun x hx => ?_⟩
      obtain ⟨v, h3, h4⟩ := dpAll_get (i := j) (d := e x) dz (by rw [List.getElem?_map, hx]; rfl)
      refine ⟨⟨vs2, v, .of hl2, h3⟩, fun z H' y => ?_⟩
      obtain ⟨rfl, hy⟩ := y
      refine ⟨F2, .refl a2.fh, ?_⟩
      have := hy vs2 (.of hl2)
      rw [h3] at this
      cases this
      exact h4
/-- for x in e: the items of what e hands back are changed, and then it is gone -/
theorem Y.forMX {j : Nat} {r : Rp ι} {me : Res (List ι)} {tb : TS} {N1 : τ1 → List Sl} {f : ι → τ1 → Res (Fl α (τ1 × ι) (τ1 × ι))} {s0 : τ1}
    (he : XO K mg W S te (ow r) me) (hw : Wk S (N1 s0)) (hj : ∀ s, (N1 s)[j]? = some .nil)
    (hb : ∀ w x s, Y K mg W ((N1 s).set j (.val (pin w r) x)) tb R (fun p : τ1 × ι => (N1 p.1).set j (.val (pin w r) p.2)) (some fun p : τ1 × ι => (N1 p.1).set j (.val (pin w r) p.2)) (f x s)) :
    Y K mg W S (tFor (iList K te) (gName j) tb) R B (some fun p : τ1 × List ι => N1 p.1) (me.bind fun xs => TP.forM f [] xs s0) := ⟨fun h => (nomatch h), fun F H σ A a D q => by
  refine he F H σ A a _ ((Post.of_bind q).imp (fun xs k v F1 H1 Av p hr fr => ?_) fun e z => z.x)
  obtain ⟨l, vs, A', rfl, hl, rfl, okl⟩ := hr
  have a1 := a.pu p
  obtain ⟨A0, k0, sub0⟩ := hw K F1 H1 σ A a1.sl
  have ndv := fr.nd
  have apart0 : ∀ z ∈ l :: A', z ∉ A := fun z hz hk => a.sl.dom z hk (fr.fr z hz)
  refine ⟨l, rfl, ⟨vs, .of hl⟩, fun n m σ2 H2 => m = xs.length - n ∧ n ≤ xs.length ∧ ∃ F2 A7 s d A3, d.length = n ∧ H2 l = some (.lst vs) ∧ OkL r K F2 H2 vs (d ++ xs.drop n) A3 ∧ (l :: (A3 ++ A7)).Nodup ∧ (∀ z ∈ l :: A3, F2 z = none) ∧ Nx F H A F2 H2 (l :: (A3 ++ A7)) ∧ At K F2 H2 σ2 (N1 s) A7 ∧
      Post (TP.forM (β := β) f d (xs.drop n) s) (YOk K F H A R B (some fun p : τ1 × List ι => N1 p.1) D) (YEr K mg W F H A), ?_, ?_⟩
  · refine ⟨xs.length, by simp, Nat.zero_le _, F1, A0, s0, [], A', rfl, hl, okl, ?_, fr.fo, p.nx fun z hz => ?_, ⟨a1.fh, a1.nd.sublist sub0, fun z hz => a1.fo z (sub0.mem hz), k0⟩, k⟩
    · have h : ((l :: A') ++ A0).Nodup := List.nodup_append.mpr ⟨ndv, a1.nd.sublist sub0, fun x hx y hy e => apart0 x hx (by rw [e]; exact sub0.mem hy)⟩
      exact h
    · rcases List.mem_cons.mp hz with h | h
      · rw [h]
        exact .inr (fr.fr l List.mem_cons_self)
      · rcases List.mem_append.mp h with h | h
        · exact .inr (fr.fr z (List.mem_cons_of_mem _ h))
        · exact .inl (sub0.mem h)
  · rintro n m σ2 H2 ⟨rfl, hle, F2, A2', s, d, A3, hd, hl2, ok2, nd2, fo2, nx2, a2, k2⟩
    by_cases hlt : n < xs.length
    · rw [List.drop_eq_getElem_cons hlt] at ok2 k2
      obtain ⟨v1, v2, B1, B2, ev, eA, okd, okx, len1⟩ := okL_split ok2
      cases v2 with
      | nil => exact okx.elim
      | cons w v3 =>
        obtain ⟨Bx, B3, eB, hx, okr⟩ := okx
        subst ev eA eB
        have hvn : (v1 ++ w :: v3)[n]? = some w := by
          rw [← hd, ← len1]
          simp
        obtain ⟨o, C1, Cj, C2, g1, g2, g3, g4⟩ := a2.sl.at (hj s)
        have g3' : Cj = [] := g3
        subst g2 g3'
        have a3 := g4 F2 H2 (some w) (.val (pin w r) xs[n]) Bx (.refl _) (fun _ _ => rfl) ⟨rfl, hx⟩
        have cnt : ∀ z, (l :: ((B1 ++ (Bx ++ B3)) ++ (C1 ++ ([] ++ C2)))).count z = ((l :: (B1 ++ B3)) ++ (C1 ++ (Bx ++ C2))).count z := fun z => by
          simp only [List.count_append, List.count_cons, List.nil_append, List.cons_append]
          omega
        have ndS : ((l :: (B1 ++ B3)) ++ (C1 ++ (Bx ++ C2))).Nodup := (List.Perm.nodup_iff (List.perm_iff_count.mpr cnt)).mp nd2
        obtain ⟨ndE, ndB, apart⟩ := List.nodup_append.mp ndS
        have inB1 : ∀ z ∈ B1, z ∈ l :: (B1 ++ B3) := fun z h => List.mem_cons_of_mem _ (List.mem_append_left _ h)
        have inB3 : ∀ z ∈ B3, z ∈ l :: (B1 ++ B3) := fun z h => List.mem_cons_of_mem _ (List.mem_append_right _ h)
        have domE : ∀ z ∈ l :: (B1 ++ B3), H2 z ≠ none := fun z hz => by
          rcases List.mem_cons.mp hz with h | h
          · rw [h, hl2]
            exact fun z => nomatch z
          · rcases List.mem_append.mp h with h | h
            · exact okd.dom z h
            · exact okr.dom z h
        have foE : ∀ z ∈ l :: (B1 ++ B3), F2 z = none := fun z hz => fo2 z (by
          simp only [List.mem_cons, List.mem_append] at hz ⊢
          rcases hz with h | h | h
          · exact .inl h
          · exact .inr (.inl h)
          · exact .inr (.inr (.inr h)))
        have atB : At K F2 H2 (σ2.set j (some w)) ((N1 s).set j (.val (pin w r) xs[n])) (C1 ++ (Bx ++ C2)) := ⟨a2.fh, ndB, fun z hz => by
          simp only [List.mem_append] at hz
          rcases hz with h | h | h
          · exact a2.fo z (by simp [h])
          · exact fo2 z (by simp [h])
          · exact a2.fo z (by simp [h]), a3⟩
        have noE : ∀ z ∈ l :: (B1 ++ B3), z ∉ C1 ++ (Bx ++ C2) := fun z h k => apart z h z k rfl
        -- what holds behind a turn
        have behind : ∀ {F' H' : Hp} {σ' : L2.St} {s' : τ1 × ι} {A'' : List Addr}, Nx F2 H2 (C1 ++ (Bx ++ C2)) F' H' A'' → At K F' H' σ' ((N1 s'.1).set j (.val (pin w r) s'.2)) A'' → ∃ A4 A5, H' l = some (.lst (v1 ++ w :: v3)) ∧ OkL r K F' H' (v1 ++ w :: v3) (d ++ s'.2 :: xs.drop (n + 1)) A5 ∧ (l :: (A5 ++ A4)).Nodup ∧ (∀ z ∈ l :: A5, F' z = none) ∧
            Nx F H A F' H' (l :: (A5 ++ A4)) ∧ At K F' H' σ' (N1 s'.1) A4 := fun {F' H' σ' s' A''} x a' => by
          have hjS : j < (N1 s'.1).length := (List.getElem?_eq_some_iff.mp (hj s'.1)).1
          obtain ⟨o', D1, Dj, D2, f1, f2, f3, f4⟩ := a'.sl.at (i := j) (s := .val (pin w r) s'.2) (by rw [List.getElem?_set_self hjS])
          cases o' with
          | none => exact f3.elim
          | some v' =>
            have f3' : v' = w ∧ r.ok K F' H' v' s'.2 Dj := f3
            obtain ⟨z1, hx'⟩ := f3'
            subst f2 z1
            have h5 := f4 F' H' (some v') .nil [] (.refl _) (fun _ _ => rfl) rfl
            have eS : ((N1 s'.1).set j (.val (pin v' r) s'.2)).set j .nil = N1 s'.1 := by
              rw [List.set_set]
              refine List.ext_getElem? fun k => ?_
              by_cases q : j = k
              · subst q
                rw [List.getElem?_set_self hjS, hj]
              · rw [List.getElem?_set_ne q]
            rw [set_self f1, eS] at h5
            have sameE : ∀ z ∈ l :: (B1 ++ B3), H' z = H2 z := fun z hz => by
              cases q : H2 z with
              | none => exact absurd q (domE z hz)
              | some o => exact x.hh z o q (noE z hz)
            have apart' : ∀ z ∈ l :: (B1 ++ B3), z ∉ D1 ++ (Dj ++ D2) := fun z hz k => (x.aa z k).elim (noE z hz) fun h => domE z hz h
            have foE' : ∀ z ∈ l :: (B1 ++ B3), F' z = none := fun z hz => (x.fo z (domE z hz) (noE z hz)).trans (foE z hz)
            have nd' := nodup_swap ndE a'.nd apart'
            have okd' : OkL r K F' H' v1 d B1 := okd.mono x.ff fun z h => sameE z (inB1 z h)
            have okr' : OkL r K F' H' v3 (xs.drop (n + 1)) B3 := okr.mono x.ff fun z h => sameE z (inB3 z h)
            refine ⟨D1 ++ D2, B1 ++ (Dj ++ B3), (sameE l List.mem_cons_self).trans hl2, okL_app okd' ⟨Dj, B3, rfl, hx', okr'⟩, nd', fun z hz => ?_, ?_, ?_⟩
            · simp only [List.mem_cons, List.mem_append] at hz
              rcases hz with h | h | h | h
              · rw [h]
                exact foE' l List.mem_cons_self
              · exact foE' z (inB1 z h)
              · exact a'.fo z (by simp [h])
              · exact foE' z (inB3 z h)
            · refine nx2.trans (x.grow (fun z hz => ?_) fun z hz => ?_)
              · simp only [List.mem_cons, List.mem_append] at hz ⊢
                rcases hz with h | h | h <;> simp [h]
              · simp only [List.mem_cons, List.mem_append] at hz ⊢
                rcases hz with h | ((h | h | h) | (h | h)) <;> simp [h]
            · refine ⟨a'.fh, ?_, fun z hz => ?_, h5⟩
              · exact a'.nd.sublist (List.Sublist.append (.refl _) (List.sublist_append_right _ _))
              · refine a'.fo z ?_
                simp only [List.mem_append, List.nil_append] at hz ⊢
                rcases hz with h | h <;> simp [h]
        have nxB : Nx F H A F2 H2 (C1 ++ (Bx ++ C2)) := nx2.less fun z hz => by
          simp only [List.mem_cons, List.mem_append, List.nil_append] at hz ⊢
          rcases hz with h | h | h <;> simp [h]
        refine .inr ⟨⟨_, w, .of hl2, hvn⟩, fun σ' H' => ∃ F3 A4 s3 d3 A5, d3.length = n + 1 ∧ H' l = some (.lst (v1 ++ w :: v3)) ∧ OkL r K F3 H' (v1 ++ w :: v3) (d3 ++ xs.drop (n + 1)) A5 ∧ (l :: (A5 ++ A4)).Nodup ∧ (∀ z ∈ l :: A5, F3 z = none) ∧ Nx F H A F3 H' (l :: (A5 ++ A4)) ∧ At K F3 H' σ' (N1 s3) A4 ∧
          Post (TP.forM (β := β) f d3 (xs.drop (n + 1)) s3) (YOk K F H A R B (some fun p : τ1 × List ι => N1 p.1) D) (YEr K mg W F H A), fun σ' H' h => ?_, fun v H3 y => ?_⟩
        · obtain ⟨F3, A4, s3, d3, A5, q1, q2, q3, q4, q5, q6, q7, q8⟩ := h
          exact ⟨xs.length - (n + 1), by omega, rfl, hlt, F3, A4, s3, d3, A5, q1, q2, q3, q4, q5, q6, q7, q8⟩
        · obtain ⟨rfl, hy⟩ := y
          have ew := hy _ (.of hl2)
          rw [hvn] at ew
          cases ew
          refine (hb w xs[n] s).run F2 H3 _ _ atB _ ((Post.of_bind k2).imp (fun fl k3 => match fl, k3 with
            | .nx s', k3 => fun F' H' σ' A'' x a' => ?_
            | .ct s', k3 => fun F' H' σ' A'' x a' => ?_
            | .bk s', k3 => fun F' H' σ' A'' x a' => ?_
            | .rt r', k3 => fun F' H' v Av y s r nd fo => k3 F' H' v Av (nxB.trans y) s r nd fo) fun e z => YEr.from nxB z)
          · obtain ⟨A4, A5, q1, q2, q3, q4, q5, q6⟩ := behind x a'
            exact ⟨F', A4, s'.1, d ++ [s'.2], A5, by rw [List.length_append, hd]; rfl, q1, by rw [List.append_assoc]; exact q2, q3, q4, q5, q6, k3⟩
          · obtain ⟨A4, A5, q1, q2, q3, q4, q5, q6⟩ := behind x a'
            exact ⟨F', A4, s'.1, d ++ [s'.2], A5, by rw [List.length_append, hd]; rfl, q1, by rw [List.append_assoc]; exact q2, q3, q4, q5, q6, k3⟩
          · obtain ⟨A4, A5, q1, q2, q3, q4, q5, q6⟩ := behind x a'
            exact k3 F' H' σ' A4 (q5.less fun z hz => List.mem_cons_of_mem _ (List.mem_append_right _ hz)) q6
    · have e : n = xs.length := by omega
      subst e
      rw [List.drop_length] at k2 ok2
      rw [List.append_nil] at ok2
      exact .inl ⟨⟨vs, .of hl2, by rw [okL_len okl]; exact Nat.le_refl _⟩, k2 F2 H2 σ2 A2' (nx2.less fun z hz => List.mem_cons_of_mem _ (List.mem_append_right _ hz)) a2⟩⟩
/-- told as of another kind, all through an owned tree -/
def Ro {ι' : Type} (r : Rp ι) (r' : Rp ι') (f : ι → ι') : Prop := ∀ (K : Fg) (F H : Hp) (v : V) (x : ι) (A : List Addr), r.ok K F H v x A → r'.ok K F H v (f x) A
theorem Ro.any {e : Enc ι} : Ro (fz e) (fz eA) e := fun _ _ _ _ _ _ h => h
theorem okL_ro {ι' : Type} {r : Rp ι} {r' : Rp ι'} {f : ι → ι'} (h : Ro r r' f) {F H : Hp} : ∀ {vs : List V} {xs : List ι} {A : List Addr}, OkL r K F H vs xs A → OkL r' K F H vs (xs.map f) A
  | [], [], _, q => q
  | [], _ :: _, _, q => q.elim
  | _ :: _, [], _, q => q.elim
  | v :: vs, x :: xs, _, ⟨A1, A2, h1, h2, h3⟩ => ⟨A1, A2, h1, h _ _ _ _ _ _ h2, okL_ro h h3⟩
theorem Ro.ow {ι' : Type} {r : Rp ι} {r' : Rp ι'} {f : ι → ι'} (h : Ro r r' f) : Ro (ow r) (ow r') (List.map f) := fun _ _ _ _ _ _ ⟨a, vs, A', h1, h2, h3, h4⟩ => ⟨a, vs, A', h1, h2, h3, okL_ro h h4⟩
theorem Y.roM {ι' : Type} {N : Option (τ → List Sl)} {t : TS} {i : Nat} {r : Rp ι} {r' : Rp ι'} {f : ι → ι'} {x : ι} {m : Res (Fl α β τ)} (hs : S[i]? = some (.val r x)) (l : Ro r r' f) (h : Y K mg W (S.set i (.val r' (f x))) t R B N m) : Y K mg W S t R B N m :=
  Y.ro hs (r := r) (r' := r') (fun F H v A q => l _ _ _ _ _ _ q) h
end
end TP

set_option Elab.async false
set_option linter.all false
set_option maxRecDepth 100000
set_option maxHeartbeats 4000000
set_option autoImplicit false
/-! TP, part 49: x = f(x, ..), x given away. -/
namespace TP
open PySem PySem.Spec L2
section
variable {K : Fg} {mg : Str → Option Value} {W : WX} {S : List Sl} {u : TS} {α β γ ι τ τ0 : Type} {R : Rp α} {B : β → List Sl} {N : Option (τ → List Sl)}
theorem Y.asgGive {i : Nat} {r : Rp ι} {r3 : Rp γ} {x : ι} {G : ι × τ0 → List Sl} {Gr : τ0 → List Sl} {m : ι × τ0 → Res γ} {mr : Res τ0} {tr : TA} {k : γ → Res (Fl α β τ)}
    (hs : S[i]? = some (.val r x)) (hr : XG K mg W S tr Gr mr) (hG : ∀ t, G (x, t) = .val r x :: Gr t) (hu : ∀ y, Y K mg W (S.set i (.val r3 y)) u R B N (k y)) :
    Y K mg W S (tSeq (tAsg (tCallS (spP K mg G r3 m) (WE W) (tCons (tVar i) tr)) (gName i)) u) R B N ((mr.bind fun t => m (x, t)).bind k) := ⟨fun h => .bind fun y => (hu y).no h, fun F H σ A a D q => by
  obtain ⟨o, A1, Ai, A2, e1, e2, e3, e4⟩ := a.sl.at hs
  cases o with
  | none => exact e3.elim
  | some v =>
    have e3 : r.ok K F H v x Ai := e3
    have d := a.sl.dom
    have nd := a.nd
    have fo := a.fo
    refine ⟨v, e1, hr F H σ A a _ ((Post.of_bind (Post.of_bind q)).imp (fun t k0 vs F1 H1 Ar p1 u1 fr => ?_) fun e z => z.x)⟩
    subst e2
    have n1 := List.nodup_append.mp nd
    have n2 := List.nodup_append.mp n1.2.1
    have in1 : ∀ z ∈ A1, z ∈ A1 ++ (Ai ++ A2) := fun z h => List.mem_append_left _ h
    have inI : ∀ z ∈ Ai, z ∈ A1 ++ (Ai ++ A2) := fun z h => List.mem_append_right _ (List.mem_append_left _ h)
    have in2 : ∀ z ∈ A2, z ∈ A1 ++ (Ai ++ A2) := fun z h => List.mem_append_right _ (List.mem_append_right _ h)
    have nx1 : Nx F H (A1 ++ (Ai ++ A2)) F1 H1 (Ai ++ Ar) := p1.nx fun z hz => (List.mem_append.mp hz).elim (fun h => .inl (inI z h)) fun h => .inr (fr.fr z h)
    have out : ∀ z, z ∈ A1 ∨ z ∈ A2 → z ∉ Ai ++ Ar := fun z hz k => by
      have hd : H z ≠ none := d z (hz.elim (in1 z) (in2 z))
      rcases List.mem_append.mp k with k | k
      · rcases hz with h | h
        · exact n1.2.2 z h z (List.mem_append_left _ k) rfl
        · exact n2.2.2 z k z h rfl
      · exact hd (fr.fr z k)
    refine ⟨(x, t), F1, Ai ++ Ar, ⟨p1.fh, ?_, fun z hz => ?_, ?_⟩, k0.imp (fun y k2 w F2 H2 Av n s u2 ndv fov => ?_) fun e k2 F2 H2 c dd n s xc => k2 F2 H2 σ c dd (nx1.trans n) s xc⟩
    · refine List.nodup_append.mpr ⟨n2.1, fr.nd, fun y hy w hw e => ?_⟩
      rw [e] at hy
      exact d w (inI w hy) (fr.fr w hw)
    · rcases List.mem_append.mp hz with h | h
      · exact (p1.fo z (d z (inI z h))).trans (fo z (inI z h))
      · exact fr.fo z h
    · rw [hG]
      exact ⟨Ai, Ar, rfl, r.mono e3 p1.ff fun z hz => sub_eq p1.hh (d z (inI z hz)), u1⟩
    · have same : ∀ z, z ∈ A1 ∨ z ∈ A2 → H2 z = H z := fun z hz => by
        cases q2 : H z with
        | none => exact absurd q2 (d z (hz.elim (in1 z) (in2 z)))
        | some o => exact n.hh z o (p1.hh z o q2) (out z hz)
      have key := e4 F2 H2 (some w) (.val r3 y) Av (p1.ff.trans n.ff) same u2
      have apart : ∀ z, z ∈ A1 ∨ z ∈ A2 → z ∉ Av := fun z hz k => by
        have hd : H z ≠ none := d z (hz.elim (in1 z) (in2 z))
        rcases n.aa z k with h | h
        · exact out z hz h
        · exact hd (p1.hh.back h)
      have N2 := nx1.trans n
      refine (hu y).run F2 H2 _ (A1 ++ (Av ++ A2)) ⟨s, ?_, fun z hz => ?_, key⟩ D (k2.from ⟨N2.ff, N2.hh, N2.fo, fun z hz => ?_, N2.hs⟩)
      · refine List.nodup_append.mpr ⟨n1.1, List.nodup_append.mpr ⟨ndv, n2.2.1, fun y hy w hw e => apart w (.inr hw) (e ▸ hy)⟩, fun y hy w hw e => ?_⟩
        rcases List.mem_append.mp hw with h | h
        · exact apart y (.inl hy) (e ▸ h)
        · exact n1.2.2 y hy w (List.mem_append_right _ h) e
      · have old : z ∈ A1 ∨ z ∈ A2 → F2 z = none := fun hz => by
          have hd : H z ≠ none := d z (hz.elim (in1 z) (in2 z))
          exact (n.fo z (ne_none_sub p1.hh hd) (out z hz)).trans ((p1.fo z hd).trans (fo z (hz.elim (in1 z) (in2 z))))
        rcases List.mem_append.mp hz with h | h
        · exact old (.inl h)
        · rcases List.mem_append.mp h with h | h
          · exact fov z h
          · exact old (.inr h)
      · rcases List.mem_append.mp hz with h | h
        · exact .inl (in1 z h)
        · rcases List.mem_append.mp h with h | h
          · exact N2.aa z h
          · exact .inl (in2 z h)⟩
end
end TP

set_option Elab.async false
set_option linter.all false
set_option maxRecDepth 100000
set_option maxHeartbeats 4000000
set_option autoImplicit false
/-! TP, part 50: functions called in an except suite. -/
namespace TP
open PySem PySem.Spec PyProof.Rows L2
section
variable {X : Cx} {k : Nat} {f : Addr} {fd : FuncData} {ps : List Str} {sp : Sp} {x : Str} {q pos : Pos} {e : Expr} {es : List Expr} {t : TA} {a : Addr} {oe : Obj} {cls : Value} {d : Option Addr}
def tCallO (sp : Sp) (t : TA) : TE := fun σ H Q => t σ H fun vs H1 => sp vs H1 Q fun _ _ _ => False
theorem pe_callO (F : FnX X.prog X.w X.K X.mg X.base (L2.CX X.prog X.w) k f fd ps (fun _ _ _ => sp)) (hr : L2H.RoomH k X.A) (hg : Gl X x) (hm : X.mg x = some (.ref f)) (hk : PySem.W.keepIn X.K (.ref f) = true) (hb : Binds X.K fd ps []) (hp : (a, oe) ∈ X.pn) (hz : Zc cls d oe) (hf : ∃ vs, oe.data = .fields vs)
    (ha : PA X (e :: es) t) (hdb : (x == ("__debug__" : Str)) = false := by decide) (he : starEach (e :: es) X.env = (false, eval e X.env) :: starEach es X.env := by rfl) (hpl : (backTo pos (starEach es X.env)).any (·.1) = false := by rfl) :
    PE X (.Call (.Name x q) (e :: es) [] pos) (tCallO sp t) := by
  refine ⟨fun pins s σ H Q I h => ?_⟩
  refine wpAny_Call_Name_kw (ld_glob I hg hm ?_ hdb)
  refine PySem.W.callWith_K (h₀ := X.base) I.ok.mod.kin hk (thn (ha.run pos pins s σ H _ I h) fun us s1 ⟨vs, H1, I1, r, q⟩ => ⟨I1.kIn, ?_⟩) he hpl
  have hl : us.length = ps.length := by rw [← r.length]; exact F.len a cls d _ _ _ _ q
  have b := hb s1 us I1.kIn (by rw [List.append_nil]; exact hl)
  rw [List.append_nil] at b
  have P1 := I1.pin (a, oe) (List.mem_append_left _ hp)
  have hpin : L2H.PinOk X.stack H1 s1 (a, oe) := ⟨P1.1, P1.2.1, fun hm => (List.mem_cons.mp (I1.stkSub a hm)).elim P1.2.2.1 P1.2.2.2.1, P1.2.2.2.2⟩
  refine wpAny_call (codeAny_mono (F.run _ X.stack s1 H1 ⟨us, []⟩ us vs Q _ a oe cls d hr hz hf hpin I1.env0 b r q) fun r s' hq => ?_)
  cases r with
  | error e =>
    obtain ⟨_, _, _, _, _, _, _, _, _, _, _, _, h⟩ := hq
    exact h.elim
  | ok fl =>
    cases fl with
    | ret u => exact I1.after hq
    | next => exact False.elim hq
    | brk => exact False.elim hq
    | cont => exact False.elim hq
end
theorem roomM {k : Nat} {A : Around} {h : Option Value} (r : Room k A) : L2H.RoomH k (A.mark h) := ⟨r.dp, r.un⟩
section
variable {K : Fg} {mg : Str → Option Value} {W : WX} {S : List Sl} {α τ : Type}
theorem XO.callO {G : τ → List Sl} {r : Rp α} {m : τ → Res α} {ma : Res τ} {tr : TA} (h : XG K mg W S tr G ma) : XO K mg W S (tCallO (spP K mg G r m) tr) r (ma.bind fun t => (m t).noer) := fun F H σ A a Q q =>
  h F H σ A a _ ((Post.of_bind q).imp (fun t k vs F1 H1 A1 p1 u1 fr => by
    refine ⟨t, F1, A1, ⟨p1.fh, fr.nd, fr.fo, u1⟩, ?_⟩
    cases e : m t with
    | ok x =>
      rw [e] at k
      exact fun v F2 H2 Av n s u2 nd fo => k v F2 H2 Av (p1.nxt fr.fr n s).1 u2 ⟨nd, (p1.nxt fr.fr n s).2, fo⟩
    | er x =>
      rw [e] at k
      exact False.elim k
    | bad =>
      rw [e] at k
      exact False.elim k) fun e z => z)
theorem fn_okO {P : Program} {w : World} {base : Heap} {x qual : Str} {st : Stmt} {f : Addr} {fd : FuncData} {nm ps : List Str} {k n : Nat} {G : τ → List Sl} {m : τ → Res α} (r : Rp α) (mm : τ → Res (Fl α Empty Unit))
    (F : Fun K x qual st f fd) (Sc : FnScope nm ps (defScope st)) (hm : ∀ t, m t = Res.fin (mm t)) (hp : ∀ t, (G t).length = ps.length) (hn : ∀ t, (G t).length + n = nm.length)
    (body : ∀ (t : τ) (a : Addr) (oe : Obj) (c : Value) (d : Option Addr) (cdv : Value) (A : Around) (outer : List Env) (s : Shared) (H : Hp) (E : XK), L2H.RoomH k (A.deeper (envOfC qual (defScope st) s.heap.objs.size f cdv)) → Zc c d oe → (∃ vs, oe.data = .fields vs) →
      ∃ tt, PSs (L2H.cxH (L2.CX P w) P w K mg base nm qual (defScope st) f cdv A outer s H E (a, oe)) (defBody st) tt ∧ Y K mg (fun c d _ H => E c d H) (G t ++ List.replicate n .nil) tt r (fun z : Empty => nomatch z) none (mm t)) :
    FnX P w K mg base (L2.CX P w) (k + 1) f fd ps (fun _ _ _ => spP K mg G r m) := by
  obtain ⟨oc, od, kV, doc, pm, an, cdv, ct, osl, rfl, lk, hcd⟩ := F.ex
  refine fn_ofE lk hcd Sc (fun a c d vs H Q E h => ?_) fun A outer s H vs Q E a oe c d hr hz hf h => ?_
  · obtain ⟨t, F0, A0, a, _⟩ := h
    have := a.sl.len
    rw [List.length_map, hp] at this
    exact this
  · obtain ⟨t, F0, A0, a', hq⟩ := h
    obtain ⟨tt, h1, h2⟩ := body t a oe c d cdv A outer s H E hr hz hf
    refine ⟨tt, h1, ?_⟩
    rw [hm] at hq
    refine h2.run F0 H _ A0 (a'.start (hn t)) _ ((Post.of_bind hq).imp (fun fl k => ?_) fun e k F' H' σ' c d n s x => k F' H' c d n s x)
    cases fl with
    | rt x => exact fun F' H' v Av n s r nd fo => k v F' H' Av n s r nd fo
    | nx s => exact k.elim
    | bk s => exact nomatch s
    | ct s => exact nomatch s
end
end TP

set_option Elab.async false
set_option linter.all false
set_option maxRecDepth 100000
set_option maxHeartbeats 4000000
set_option autoImplicit false
/-! TP, part 51: objects with fields. -/
namespace TP
open PySem PySem.Spec PyProof.Rows L2

/-! ### fields -/
structure Fr (τ : Type) where
  names : List Str
  ok : Fg → Hp → Hp → List (Str × V) → τ → List Addr → Prop
  mono : ∀ {K : Fg} {F F' H H' : Hp} {fs fs' : List (Str × V)} {x : τ} {A : List Addr}, ok K F H fs x A → Sub F F' → (∀ a ∈ A, H' a = H a) → (∀ g ∈ names, fs'.lookup g = fs.lookup g) → ok K F' H' fs' x A
  dom : ∀ {K : Fg} {F H : Hp} {fs : List (Str × V)} {x : τ} {A : List Addr}, ok K F H fs x A → ∀ a ∈ A, H a ≠ none
def frN : Fr Unit where
  names := []
  ok := fun _ _ _ _ _ A => A = []
  mono := fun h _ _ _ => h
  dom := fun {K F H fs x A} h a ha => by
    have h' : A = [] := h
    rw [h'] at ha
    cases ha
def frC {α τ : Type} (f : Str) (r : Rp α) (P : Fr τ) : Fr (α × τ) where
  names := f :: P.names
  ok := fun K F H fs x A => ∃ v A1 A2, fs.lookup f = some v ∧ A = A1 ++ A2 ∧ r.ok K F H v x.1 A1 ∧ P.ok K F H fs x.2 A2
  mono := fun ⟨v, A1, A2, e1, e2, h1, h2⟩ s t g => by
    subst e2
    exact ⟨v, A1, A2, (g f List.mem_cons_self).trans e1, rfl, r.mono h1 s fun a ha => t a (List.mem_append_left _ ha), P.mono h2 s (fun a ha => t a (List.mem_append_right _ ha)) fun k hk => g k (List.mem_cons_of_mem _ hk)⟩
  dom := fun ⟨v, A1, A2, e1, e2, h1, h2⟩ a ha => by
    subst e2
    rcases List.mem_append.mp ha with h | h
    · exact r.dom h1 a h
    · exact P.dom h2 a h
/-- the field f of them -/
structure FAt {α τ : Type} (P : Fr τ) (f : Str) (r : Rp α) (get : τ → α) (put : τ → α → τ) : Prop where
  mem : f ∈ P.names
  at_ : ∀ {K : Fg} {F H : Hp} {fs : List (Str × V)} {x : τ} {A : List Addr}, P.ok K F H fs x A → ∃ v A1 Ai A2, fs.lookup f = some v ∧ A = A1 ++ (Ai ++ A2) ∧ r.ok K F H v (get x) Ai ∧
    ∀ (F' H' : Hp) (fs' : List (Str × V)) (v' : V) (y : α) (Ai' : List Addr), Sub F F' → (∀ a, a ∈ A1 ∨ a ∈ A2 → H' a = H a) → fs'.lookup f = some v' → (∀ g, g ≠ f → fs'.lookup g = fs.lookup g) → r.ok K F' H' v' y Ai' → P.ok K F' H' fs' (put x y) (A1 ++ (Ai' ++ A2))
theorem FAt.here {α τ : Type} {P : Fr τ} {f : Str} {r : Rp α} (h : f ∉ P.names) : FAt (frC f r P) f r (fun x => x.1) (fun x y => (y, x.2)) where
  mem := List.mem_cons_self
  at_ := fun {K F H fs x A} ⟨v, A1, A2, e1, e2, h1, h2⟩ => ⟨v, [], A1, A2, e1, e2, h1, fun F' H' fs' v' y Ai' sf sh l g hr => ⟨v', Ai', A2, l, rfl, hr, P.mono h2 sf (fun a ha => sh a (.inr ha)) fun k hk => g k fun z => h (z ▸ hk)⟩⟩
theorem FAt.there {α β τ : Type} {P : Fr τ} {f g : Str} {r : Rp α} {s : Rp β} {get : τ → α} {put : τ → α → τ} (hn : g ≠ f) (h : FAt P f r get put) : FAt (frC g s P) f r (fun x => get x.2) (fun x y => (x.1, put x.2 y)) where
  mem := List.mem_cons_of_mem _ h.mem
  at_ := fun {K F H fs x A} ⟨v, A1, A2, e1, e2, h1, h2⟩ => by
    obtain ⟨w, B1, Bi, B2, g1, g2, g3, g4⟩ := h.at_ h2
    subst e2 g2
    refine ⟨w, A1 ++ B1, Bi, B2, g1, by rw [List.append_assoc], g3, fun F' H' fs' v' y Ai' sf sh l k hr => ?_⟩
    rw [List.append_assoc]
    exact ⟨v, A1, _, (k g hn).trans e1, rfl, s.mono h1 sf fun a ha => sh a (.inl (List.mem_append_left _ ha)), g4 F' H' fs' v' y Ai' sf (fun a ha => sh a (ha.imp (fun z => List.mem_append_right _ z) fun z => z)) l k hr⟩

/-! ### objects -/
def obR {τ : Type} (C : Addr) (P : Fr τ) : Rp τ where
  ok := fun K F H v x A => ∃ a dx fs A', v = .ref a ∧ H a = some (.ins C dx fs) ∧ H dx = some (.own a) ∧ A = a :: dx :: A' ∧ (∀ g, g ∉ P.names → fs.lookup g = none) ∧ fs.length ≤ P.names.length ∧ P.ok K F H fs x A'
  mono := fun ⟨a, dx, fs, A', e, h1, h2, h3, h4, h5, h6⟩ s t => by
    subst h3
    exact ⟨a, dx, fs, A', e, (t a List.mem_cons_self).trans h1, (t dx (List.mem_cons_of_mem _ List.mem_cons_self)).trans h2, rfl, h4, h5, P.mono h6 s (fun b hb => t b (List.mem_cons_of_mem _ (List.mem_cons_of_mem _ hb))) fun _ _ => rfl⟩
  dom := fun ⟨a, dx, fs, A', e, h1, h2, h3, h4, h5, h6⟩ b hb => by
    subst h3
    rcases List.mem_cons.mp hb with z | z
    · rw [z, h1]
      exact fun z => nomatch z
    · rcases List.mem_cons.mp z with z | z
      · rw [z, h2]
        exact fun z => nomatch z
      · exact P.dom h6 b z
class Ob {τ : Type} (ρ : Rp τ) (C : outParam Addr) (P : outParam (Fr τ)) : Prop where
  to : ∀ {K : Fg} {F H : Hp} {v : V} {x : τ} {A : List Addr}, ρ.ok K F H v x A → (obR C P).ok K F H v x A
  back : ∀ {K : Fg} {F H F' H' : Hp} {v : V} {x y : τ} {A A' : List Addr}, ρ.ok K F H v x A → (obR C P).ok K F' H' v y A' → ρ.ok K F' H' v y A'
instance {τ : Type} {C : Addr} {P : Fr τ} : Ob (obR C P) C P := ⟨fun h => h, fun _ h => h⟩
instance {τ : Type} {C : Addr} {P : Fr τ} {w : V} {ρ : Rp τ} [Ob ρ C P] : Ob (pin w ρ) C P := ⟨fun h => Ob.to h.2, fun h k => ⟨h.1, Ob.back h.2 k⟩⟩
theorem putF_len {f : Str} {y v : V} : ∀ {fs : List (Str × V)}, fs.lookup f = some v → (putF f y fs).length = fs.length
  | [], h => by cases h
  | (g, x) :: r, h => by
    rw [show putF f y ((g, x) :: r) = (if g = f then (g, y) :: r else (g, x) :: putF f y r) from rfl]
    by_cases e : g = f
    · rw [if_pos e, List.length_cons, List.length_cons]
    · rw [if_neg e, List.length_cons, List.length_cons]
      have hb : (f == g) = false := beq_eq_false_iff_ne.mpr fun z => e z.symm
      have h' : r.lookup f = some v := by
        rw [← h]
        simp only [List.lookup, hb]
      rw [putF_len h']

section
variable {K : Fg} {mg : Str → Option Value} {W : WX} {S S' : List Sl} {te ta tb tc tv tk : TE} {tr : TA} {tt : TT} {t t1 t2 u : TS}
variable {α β γ δ τ τ0 τ1 κ κ1 ι ζ ω : Type} {R : Rp α} {B : β → List Sl} {N : Option (τ → List Sl)}
/-- a field read -/
theorem XB.fld {i : Nat} {ρ : Rp τ0} {C : Addr} {P : Fr τ0} [Ob ρ C P] {x : τ0} {f : Str} {r : Rp ι} {get : τ0 → ι} {put : τ0 → ι → τ0} {U : View ι} (hs : S[i]? = some (.val ρ x)) (hf : FAt P f r get put) (l : Vw r U) (c : Cls K C) (n : NoAttr K C f) :
    XB K mg W S (tFld K (tVar i) f) U (.ok (get x)) := fun F H σ A a Q q => by
  obtain ⟨o, A1, Ai, A2, e1, e2, e3, _⟩ := a.sl.at hs
  cases o with
  | none => exact e3.elim
  | some v =>
    obtain ⟨b, dx, fs, A', rfl, h1, h2, h3, h4, h5, h6⟩ := Ob.to (ρ := ρ) e3
    obtain ⟨w, B1, Bi, B2, g1, g2, g3, g4⟩ := hf.at_ h6
    exact ⟨.ref b, e1, b, C, dx, fs, w, rfl, h1, c, n, g1, q w F H (.refl a.fh) (l _ _ _ _ _ _ a.fh g3)⟩
/-- a part of a part -/
theorem Part.sub {F H : Hp} {σ : L2.St} {A : List Addr} {ρ : Rp τ0} {r : Rp ι} {x : τ0} {v w : V} {Ai B1 Ak B2 : List Addr} {Sf : τ0 → List Sl} {y : ι} {Sg : ι → List Sl} (up : ι → τ0) (p : Part K F H σ A ρ x v Ai Sf) (e : Ai = B1 ++ (Ak ++ B2)) (hr : r.ok K F H w y Ak) (hS : ∀ y', Sg y' = Sf (up y'))
    (hm : ∀ (F' H' : Hp) (y' : ι) (Ak' : List Addr), Sub F F' → (∀ z, z ∈ B1 ∨ z ∈ B2 → H' z = H z) → r.ok K F' H' w y' Ak' → ρ.ok K F' H' v (up y') (B1 ++ (Ak' ++ B2))) : Part K F H σ A r y w Ak Sg := by
  subst e
  have nd := p.nd
  have n1 := List.nodup_append.mp nd
  have n2 := List.nodup_append.mp n1.2.1
  have in1 : ∀ z ∈ B1, z ∈ B1 ++ (Ak ++ B2) := fun z h => List.mem_append_left _ h
  have inK : ∀ z ∈ Ak, z ∈ B1 ++ (Ak ++ B2) := fun z h => List.mem_append_right _ (List.mem_append_left _ h)
  have in2 : ∀ z ∈ B2, z ∈ B1 ++ (Ak ++ B2) := fun z h => List.mem_append_right _ (List.mem_append_right _ h)
  have noK1 : ∀ z ∈ B1, z ∉ Ak := fun z h k => n1.2.2 z h z (List.mem_append_left _ k) rfl
  have noK2 : ∀ z ∈ B2, z ∉ Ak := fun z h k => n2.2.2 z k z h rfl
  have dA : ∀ z, z ∈ B1 ∨ z ∈ B2 → H z ≠ none := fun z hz => p.dom z (p.inA z (hz.elim (in1 z) (in2 z)))
  refine ⟨p.dom, fun z hz => p.inA z (inK z hz), n2.1, fun z hz => p.fo z (inK z hz), hr, fun F' H' x' Ak' sf sh hh hf aa nd' fo' hs' hr' => ?_⟩
  have stay : ∀ z, z ∈ B1 ∨ z ∈ B2 → H' z = H z := fun z hz => by
    cases q : H z with
    | none => exact absurd q (dA z hz)
    | some o => exact hh z o q (hz.elim (noK1 z) (noK2 z))
  have apart : ∀ z, z ∈ B1 ∨ z ∈ B2 → z ∉ Ak' := fun z hz k => by
    rcases aa z k with h | h
    · exact hz.elim (fun q => noK1 z q h) (fun q => noK2 z q h)
    · exact h (hz.elim (fun q => p.inA z (in1 z q)) fun q => p.inA z (in2 z q))
  obtain ⟨A', g1, g3⟩ := p.mod F' H' (up x') (B1 ++ (Ak' ++ B2)) sf sh (fun z o h hn => hh z o h fun k => hn (inK z k)) (fun z h hn => hf z h fun k => hn (inK z k)) (fun z hz => by
      rcases List.mem_append.mp hz with h | h
      · exact .inl (in1 z h)
      · rcases List.mem_append.mp h with h | h
        · exact (aa z h).imp (inK z) fun q => q
        · exact .inl (in2 z h)) (List.nodup_append.mpr ⟨n1.1, List.nodup_append.mpr ⟨nd', n2.2.1, fun y hy w hw q => apart y (.inr (q ▸ hw)) hy⟩, fun y hy w hw q => by
      subst q
      rcases List.mem_append.mp hw with h | h
      · exact apart y (.inl hy) h
      · exact n1.2.2 y hy y (List.mem_append_right _ h) rfl⟩) (fun z hz => by
      rcases List.mem_append.mp hz with h | h
      · rw [hf z (dA z (.inl h)) (noK1 z h)]
        exact p.fo z (in1 z h)
      · rcases List.mem_append.mp h with h | h
        · exact fo' z h
        · rw [hf z (dA z (.inr h)) (noK2 z h)]
          exact p.fo z (in2 z h)) hs' (hm F' H' x' Ak' sf stay hr')
  refine ⟨A', by rw [hS]; exact g1, fun z hz => ?_⟩
  rcases g3 z hz with h | h
  · exact .inl h
  · rcases List.mem_append.mp h with h | h
    · exact .inl (p.inA z (in1 z h))
    · rcases List.mem_append.mp h with h | h
      · exact .inr h
      · exact .inl (p.inA z (in2 z h))
/-- the field of an object -/
theorem Part.fld {F H : Hp} {σ : L2.St} {A : List Addr} {ρ : Rp τ0} {C : Addr} {P : Fr τ0} [Ob ρ C P] {x : τ0} {v : V} {Ai : List Addr} {Sf : τ0 → List Sl} {f : Str} {r : Rp ι} {get : τ0 → ι} {put : τ0 → ι → τ0} (p : Part K F H σ A ρ x v Ai Sf) (hf : FAt P f r get put) :
    ∃ a dx fs w Aw, v = .ref a ∧ H a = some (.ins C dx fs) ∧ fs.lookup f = some w ∧ Part K F H σ A r (get x) w Aw fun y => Sf (put x y) := by
  obtain ⟨a, dx, fs, A', e, h1, h2, h3, h4, h5, h6⟩ := Ob.to p.ok
  obtain ⟨w, B1, Bi, B2, g1, g2, g3, g4⟩ := hf.at_ h6
  subst g2
  refine ⟨a, dx, fs, w, Bi, e, h1, g1, p.sub (B1 := a :: dx :: B1) (B2 := B2) (fun y => put x y) (by rw [h3]; rfl) g3 (fun _ => rfl) fun F' H' y' Ak' sf sh hr => Ob.back p.ok ?_⟩
  exact ⟨a, dx, fs, B1 ++ (Ak' ++ B2), e, (sh a (.inl List.mem_cons_self)).trans h1, (sh dx (.inl (List.mem_cons_of_mem _ List.mem_cons_self))).trans h2, rfl, h4, h5, g4 F' H' fs w y' Ak' sf (fun z hz => sh z (hz.imp (fun h => List.mem_cons_of_mem _ (List.mem_cons_of_mem _ h)) fun h => h)) g1 (fun _ _ => rfl) hr⟩
/-- place.f -/
theorem XP.fld {ρ : Rp τ0} {C : Addr} {P : Fr τ0} [Ob ρ C P] {f : Str} {r : Rp ι} {get : τ0 → ι} {put : τ0 → ι → τ0} {m : Res (τ0 × κ)} {up : κ → τ0 → ζ} {Sr : ζ → List Sl} (h : XP K mg W S te ρ m up Sr) (hf : FAt P f r get put) (c : Cls K C) (n : NoAttr K C f) :
    XP K mg W S (tFld K te f) r (m.bind fun p => .ok (get p.1, (p.2, p.1))) (fun c y => up c.1 (put c.2 y)) Sr := fun F H σ A a Q q =>
  h F H σ A a _ ((Post.of_bind q).imp (fun p k v F1 H1 Ai p1 part => by
    obtain ⟨a, dx, fs, w, Aw, e, h1, h2, pk⟩ := part.fld hf
    exact ⟨a, C, dx, fs, w, e, h1, c, n, h2, k w F1 H1 Aw p1 pk⟩) fun e z => z)
/-- place.f = e -/
theorem Y.fset {ρ : Rp τ0} {C : Addr} {P : Fr τ0} [Ob ρ C P] {f : Str} {r : Rp ι} {get : τ0 → ι} {put : τ0 → ι → τ0} {m : Res (τ0 × κ)} {up : κ → τ0 → ζ} {Sr : ζ → List Sl} {me : Res ι} {k : ζ → Res (Fl α β τ)} (he : XO K mg W S tv r me) (h : XP K mg W S te ρ m up Sr) (hf : FAt P f r get put) (c : Cls K C) (n : NoAttr K C f) (hl : P.names.length < 1000) (hu : ∀ z, Y K mg W (Sr z) u R B N (k z)) :
    Y K mg W S (tSeq (sFld K te tv f) u) R B N (me.bind fun x => m.bind fun p => (Res.ok (up p.2 (put p.1 x))).bind k) := ⟨fun h => .bind fun x => .bind fun p => .bind fun z => (hu z).no h, fun F H σ A a D q => by
  refine he F H σ A a _ ((Post.of_bind q).imp (fun x k2 w F1 H1 Av p1 hr fr => h F1 H1 σ A (a.pu p1) _ ((Post.of_bind k2).imp (fun p k3 v F2 H2 Ai p2 part => ?_) fun e z => z.x.pu p1)) fun e z => z.x)
  obtain ⟨b, dx, fs, A', e, h1, h2, h3, h4, h5, h6⟩ := Ob.to part.ok
  obtain ⟨w0, B1, Bi, B2, g1, g2, g3, g4⟩ := hf.at_ h6
  subst g2
  have bi : b ∈ Ai := by rw [h3]; exact List.mem_cons_self
  have bn : H2 b ≠ none := by rw [h1]; exact fun z => nomatch z
  have nd0 := part.nd
  rw [h3] at nd0
  have nda := List.nodup_cons.mp nd0
  have ndb := List.nodup_cons.mp nda.2
  have n1 := List.nodup_append.mp ndb.2
  have n2 := List.nodup_append.mp n1.2.1
  have inI : ∀ z, z ∈ B1 ∨ z ∈ B2 → z ∈ Ai := fun z hz => by
    rw [h3]
    exact List.mem_cons_of_mem _ (List.mem_cons_of_mem _ (hz.elim (fun h => List.mem_append_left _ h) fun h => List.mem_append_right _ (List.mem_append_right _ h)))
  have dxi : dx ∈ Ai := by rw [h3]; exact List.mem_cons_of_mem _ List.mem_cons_self
  have avA : ∀ z ∈ Av, z ∉ A := fun z hz k => a.sl.dom z k (fr.fr z hz)
  have avI : ∀ z ∈ Av, z ∉ Ai := fun z hz k => avA z hz (part.inA z k)
  have nb : ∀ z, z ∈ B1 ∨ z ∈ B2 → z ≠ b := fun z hz e => nda.1 (List.mem_cons_of_mem _ (by
    rw [← e]
    exact hz.elim (fun h => List.mem_append_left _ h) fun h => List.mem_append_right _ (List.mem_append_right _ h)))
  have dxb : dx ≠ b := fun e => nda.1 (by rw [e]; exact List.mem_cons_self)
  have avb : ∀ z ∈ Av, z ≠ b := fun z hz e => avI z hz (e ▸ bi)
  have hr2 := r.mono hr p2.ff fun z hz => sub_eq p2.hh (r.dom hr z hz)
  have hs2 : ∀ z, H2 z ≠ none → upd H2 b (.ins C dx (putF f w fs)) z ≠ none := fun z h => by
    by_cases q : z = b
    · rw [q, upd_same]
      exact fun z => nomatch z
    · rw [upd_ne q]
      exact h
  have okk : ρ.ok K F2 (upd H2 b (.ins C dx (putF f w fs))) v (put p.1 x) (b :: dx :: (B1 ++ (Av ++ B2))) := Ob.back part.ok ⟨b, dx, putF f w fs, B1 ++ (Av ++ B2), e, upd_same, (upd_ne dxb).trans h2, rfl, fun g hg => by
      rw [lookup_putF, if_neg (fun q : g = f => hg (by rw [q]; exact hf.mem))]
      exact h4 g hg, by
      rw [putF_len g1]
      exact h5, g4 F2 _ (putF f w fs) w x Av (.refl _) (fun z hz => upd_ne (nb z hz)) (by rw [lookup_putF, if_pos rfl]) (fun g hg => by rw [lookup_putF, if_neg hg]) (r.mono hr2 (.refl _) fun z hz => upd_ne (avb z hz))⟩
  obtain ⟨A3, a3, s3⟩ := part.mod F2 (upd H2 b (.ins C dx (putF f w fs))) (put p.1 x) (b :: dx :: (B1 ++ (Av ++ B2))) (.refl _) (((a.pu p1).pu p2).fh.mut (part.fo b bi)) (fun z o hz hn => by
      rw [upd_ne fun q => hn (by rw [q]; exact bi)]
      exact hz) (fun z _ _ => rfl) (fun z hz => by
      rcases List.mem_cons.mp hz with h | h
      · exact .inl (h ▸ bi)
      · rcases List.mem_cons.mp h with h | h
        · exact .inl (h ▸ dxi)
        · rcases List.mem_append.mp h with h | h
          · exact .inl (inI z (.inl h))
          · rcases List.mem_append.mp h with h | h
            · exact .inr (avA z h)
            · exact .inl (inI z (.inr h))) (by
      refine List.nodup_cons.mpr ⟨fun hz => ?_, List.nodup_cons.mpr ⟨fun hz => ?_, List.nodup_append.mpr ⟨n1.1, List.nodup_append.mpr ⟨fr.nd, n2.2.1, fun y hy z hz e => avI y hy (e ▸ inI z (.inr hz))⟩, fun y hy z hz e => ?_⟩⟩⟩
      · rcases List.mem_cons.mp hz with h | h
        · exact dxb h.symm
        · rcases List.mem_append.mp h with h | h
          · exact nb b (.inl h) rfl
          · rcases List.mem_append.mp h with h | h
            · exact avb b h rfl
            · exact nb b (.inr h) rfl
      · rcases List.mem_append.mp hz with h | h
        · exact ndb.1 (List.mem_append_left _ h)
        · rcases List.mem_append.mp h with h | h
          · exact avI dx h dxi
          · exact ndb.1 (List.mem_append_right _ (List.mem_append_right _ h))
      · subst e
        rcases List.mem_append.mp hz with h | h
        · exact avI y h (inI y (.inl hy))
        · exact n1.2.2 y hy y (List.mem_append_right _ h) rfl) (fun z hz => by
      rcases List.mem_cons.mp hz with h | h
      · exact part.fo z (h ▸ bi)
      · rcases List.mem_cons.mp h with h | h
        · exact part.fo z (h ▸ dxi)
        · rcases List.mem_append.mp h with h | h
          · exact part.fo z (inI z (.inl h))
          · rcases List.mem_append.mp h with h | h
            · exact (p2.fo z (r.dom hr z h)).trans (fr.fo z h)
            · exact part.fo z (inI z (.inr h))) hs2 okk
  have bi0 := bi
  rw [h3] at bi
  refine ⟨b, C, dx, fs, e, h1, c, n, Nat.lt_of_le_of_lt h5 hl, (hu _).run F2 _ σ A3 a3 D (Post.from ⟨(p1.trans p2).ff, fun z o hz hn => ?_, fun z hz hn => (p1.trans p2).fo z hz, fun z hz => ?_, fun z hz => hs2 z (ne_none_sub (p1.trans p2).hh hz)⟩ (Post.of_bind (m := .ok _) k3))⟩
  · rw [upd_ne fun q => hn (by rw [q]; exact part.inA b bi0)]
    exact (p1.trans p2).hh z o hz
  · rcases s3 z hz with h | h
    · exact .inl h
    · rcases List.mem_cons.mp h with h | h
      · exact .inl (part.inA z (by rw [h]; exact bi0))
      · rcases List.mem_cons.mp h with h | h
        · exact .inl (part.inA z (h ▸ dxi))
        · rcases List.mem_append.mp h with h | h
          · exact .inl (part.inA z (inI z (.inl h)))
          · rcases List.mem_append.mp h with h | h
            · exact .inr (fr.fr z h)
            · exact .inl (part.inA z (inI z (.inr h)))⟩
end
end TP

set_option Elab.async false
set_option linter.all false
set_option maxRecDepth 100000
set_option maxHeartbeats 4000000
set_option autoImplicit false
/-! TP, part 52: objects made, methods called, dicts at places. -/
namespace TP
open PySem PySem.Spec PyProof.Rows L2

section
variable {K : Fg} {mg : Str → Option Value} {W : WX} {S S' : List Sl} {te ta tb tc tv tk : TE} {tr : TA} {tt : TT} {t t1 t2 u : TS}
variable {α β γ δ τ τ0 τ1 κ κ1 ι ζ ω : Type} {R : Rp α} {B : β → List Sl} {N : Option (τ → List Sl)}
/-- self.f = e, a new field -/
theorem Y.fnew {i : Nat} {wv : V} {C : Addr} {P : Fr τ0} {x : τ0} {f : Str} {r : Rp ι} {me : Res ι} {k : ι → Res (Fl α β τ)} (hs : S[i]? = some (.val (pin wv (obR C P)) x)) (hf : f ∉ P.names) (he : XO K mg W S tv r me) (c : Cls K C) (n : NoAttr K C f) (hl : P.names.length < 1000) (hu : ∀ y, Y K mg W (S.set i (.val (pin wv (obR C (frC f r P))) (y, x))) u R B N (k y)) :
    Y K mg W S (tSeq (sFld K (tVar i) tv f) u) R B N (me.bind k) := ⟨fun h => .bind fun y => (hu y).no h, fun F H σ A a D q => by
  refine he F H σ A a _ ((Post.of_bind q).imp (fun y k2 w F1 H1 Av p1 hr fr => ?_) fun e z => z.x)
  have a1 := a.pu p1
  obtain ⟨v, Ai, e1, inA, ndI, foI, hρ, md⟩ := a1.modX hs
  refine ⟨v, e1, ?_⟩
  obtain ⟨ev, b, dx, fs, A', e, h1, h2, h3, h4, h5, h6⟩ := hρ
  subst h3
  have dI : ∀ z ∈ b :: dx :: A', H z ≠ none := fun z hz => a.sl.dom z (inA z hz)
  have nda := List.nodup_cons.mp ndI
  have ndb := List.nodup_cons.mp nda.2
  have bi : b ∈ b :: dx :: A' := List.mem_cons_self
  have dxi : dx ∈ b :: dx :: A' := List.mem_cons_of_mem _ List.mem_cons_self
  have ii : ∀ z ∈ A', z ∈ b :: dx :: A' := fun z hz => List.mem_cons_of_mem _ (List.mem_cons_of_mem _ hz)
  have avI : ∀ z ∈ Av, z ∉ b :: dx :: A' := fun z hz k => dI z k (fr.fr z hz)
  have nb : ∀ z ∈ A', z ≠ b := fun z hz e => nda.1 (List.mem_cons_of_mem _ (e ▸ hz))
  have dxb : dx ≠ b := fun e => nda.1 (by rw [e]; exact List.mem_cons_self)
  have avb : ∀ z ∈ Av, z ≠ b := fun z hz e => avI z hz (by rw [e]; exact bi)
  have okk : (pin wv (obR C (frC f r P))).ok K F1 (upd H1 b (.ins C dx (putF f w fs))) v (y, x) (b :: dx :: (Av ++ A')) := ⟨ev, b, dx, putF f w fs, Av ++ A', e, upd_same, (upd_ne dxb).trans h2, rfl, fun g hg => by
      rw [lookup_putF, if_neg (fun q : g = f => hg (by rw [q]; exact List.mem_cons_self))]
      exact h4 g fun z => hg (List.mem_cons_of_mem _ z), by
      show (putF f w fs).length ≤ P.names.length + 1
      have := length_putF f w fs
      omega, w, Av, A', by rw [lookup_putF, if_pos rfl], rfl, r.mono hr (.refl _) fun z hz => upd_ne (avb z hz), P.mono h6 (.refl _) (fun z hz => upd_ne (nb z hz)) fun g hg => by
      rw [lookup_putF, if_neg (fun q : g = f => hf (by rw [← q]; exact hg))]⟩
  have hs2 : ∀ z, H1 z ≠ none → upd H1 b (.ins C dx (putF f w fs)) z ≠ none := fun z h => by
    by_cases q : z = b
    · rw [q, upd_same]
      exact fun z => nomatch z
    · rw [upd_ne q]
      exact h
  obtain ⟨A3, a3, s3⟩ := md F1 (upd H1 b (.ins C dx (putF f w fs))) _ (pin wv (obR C (frC f r P))) (y, x) (b :: dx :: (Av ++ A')) (.refl _) (a1.fh.mut (foI b bi)) (fun z o hz hn => by
      rw [upd_ne fun q => hn (by rw [q]; exact bi)]
      exact hz) (fun z _ _ => rfl) (fun z hz => by
      rcases List.mem_cons.mp hz with h | h
      · exact .inl (by rw [h]; exact bi)
      · rcases List.mem_cons.mp h with h | h
        · exact .inl (by rw [h]; exact dxi)
        · rcases List.mem_append.mp h with h | h
          · exact .inr fun k => a.sl.dom z k (fr.fr z h)
          · exact .inl (ii z h)) (by
      refine List.nodup_cons.mpr ⟨fun hz => ?_, List.nodup_cons.mpr ⟨fun hz => ?_, List.nodup_append.mpr ⟨fr.nd, ndb.2, fun y hy z hz e => avI y hy (by rw [e]; exact ii z hz)⟩⟩⟩
      · rcases List.mem_cons.mp hz with h | h
        · exact dxb h.symm
        · rcases List.mem_append.mp h with h | h
          · exact avb b h rfl
          · exact nb b h rfl
      · rcases List.mem_append.mp hz with h | h
        · exact avI dx h dxi
        · exact ndb.1 h) (fun z hz => by
      rcases List.mem_cons.mp hz with h | h
      · rw [h]
        exact foI b bi
      · rcases List.mem_cons.mp h with h | h
        · rw [h]
          exact foI dx dxi
        · rcases List.mem_append.mp h with h | h
          · exact fr.fo z h
          · exact foI z (ii z h)) hs2 okk
  refine ⟨b, C, dx, fs, e, h1, c, n, Nat.lt_of_le_of_lt h5 hl, (hu y).run F1 _ σ A3 a3 D (Post.from ⟨p1.ff, fun z o hz hn => ?_, fun z hz hn => p1.fo z hz, fun z hz => ?_, fun z hz => hs2 z (ne_none_sub p1.hh hz)⟩ k2)⟩
  · rw [upd_ne fun q => hn (by rw [q]; exact inA b bi)]
    exact p1.hh z o hz
  · rcases s3 z hz with h | h
    · exact .inl h
    · rcases List.mem_cons.mp h with h | h
      · exact .inl (inA z (by rw [h]; exact bi))
      · rcases List.mem_cons.mp h with h | h
        · exact .inl (inA z (by rw [h]; exact dxi))
        · rcases List.mem_append.mp h with h | h
          · exact .inr (fr.fr z h)
          · exact .inl (inA z (ii z h))⟩

/-! ### methods -/
def tMethW (C : Addr) (m : Str) (sp : Sp) (E : L2.St → XK) (ta : TE) (t : TA) : TE := fun σ H Q => ta σ H fun x H1 => ∃ a dx fs, x = .ref a ∧ H1 a = some (.ins C dx fs) ∧ fs.lookup m = none ∧ t σ H1 fun vs H2 => sp (x :: vs) H2 Q (E σ)
/-- what stands for a call with the object first stands for the method's call -/
theorem XEO.meth {i : Nat} {ρ : Rp τ0} {C : Addr} {P : Fr τ0} [Ob ρ C P] {x : τ0} {f : Str} {sp : Sp} {r : Rp ι} {M : τ1 → List Sl} {m : Res (ι × τ1)} (hs : S[i]? = some (.val ρ x)) (hn : f ∉ P.names) (h : XEO K mg W S (tCallS sp (WE W) (tCons (tVar i) tr)) r M m) :
    XEO K mg W S (tMethW C f sp (WE W) (tVar i) tr) r M m := fun F H σ A a Q q => by
  obtain ⟨v, e1, h2⟩ := h F H σ A a Q q
  obtain ⟨o, A1, Ai, A2, g1, g2, g3, _⟩ := a.sl.at hs
  rw [e1] at g1
  cases g1
  obtain ⟨b, dx, fs, A', e, k1, k2, k3, k4, k5, k6⟩ := Ob.to (ρ := ρ) g3
  exact ⟨v, e1, b, dx, fs, e, k1, k4 f hn, h2⟩
theorem XE.meth {i : Nat} {ρ : Rp τ0} {C : Addr} {P : Fr τ0} [Ob ρ C P] {x : τ0} {f : Str} {sp : Sp} {U : View ι} {M : τ1 → List Sl} {m : Res (ι × τ1)} (hs : S[i]? = some (.val ρ x)) (hn : f ∉ P.names) (h : XE K mg W S (tCallS sp (WE W) (tCons (tVar i) tr)) U M m) :
    XE K mg W S (tMethW C f sp (WE W) (tVar i) tr) U M m := fun F H σ A a Q q => by
  obtain ⟨v, e1, h2⟩ := h F H σ A a Q q
  obtain ⟨o, A1, Ai, A2, g1, g2, g3, _⟩ := a.sl.at hs
  rw [e1] at g1
  cases g1
  obtain ⟨b, dx, fs, A', e, k1, k2, k3, k4, k5, k6⟩ := Ob.to (ρ := ρ) g3
  exact ⟨v, e1, b, dx, fs, e, k1, k4 f hn, h2⟩

/-! ### objects made -/
def tMakeW (C : Addr) (sp : Sp) (E : L2.St → XK) (t : TA) : TE := fun σ H Q => t σ H fun vs H1 => ∀ x dx, H1 x = none → H1 dx = none → dx ≠ x →
  sp (.ref x :: vs) (upd (upd H1 dx (.own x)) x (.ins C dx [])) (fun v H2 => v = .non ∧ Q (.ref x) H2) (E σ)
theorem XO.make {C : Addr} {P : Fr τ0} {G1 : κ → List Sl} {G : κ1 → List Sl} {G' : κ1 → δ → List Sl} {T : κ1 → δ → List Sl} {bk : κ → δ → τ0} {c : κ → κ1} {m : κ1 → Res (Unit × δ)} {ma : Res κ} (ha : XG K mg W S tr G1 ma) (hG : ∀ t, G (c t) = .val (obR C frN) () :: G1 t) (hG' : ∀ t y, G' (c t) y = .val (obR C P) (bk t y) :: T (c t) y) :
    XO K mg W S (tMakeW C (spI K mg G G' (fz eN) m) (WE W) tr) (obR C P) (ma.bind fun t => (m (c t)).bind fun x => .ok (bk t x.2)) := fun F H σ A a Q q =>
  ha F H σ A a _ ((Post.of_bind q).imp (fun t k vs F1 H1 Ag p1 u1 fr x dx hx hdx ne => by
    have f1 : ∀ z, H1 z = none → F1 z = none := fun z h => p1.fh.back h
    have up1 : ∀ z, z ≠ x → z ≠ dx → upd (upd H1 dx (.own x)) x (.ins C dx []) z = H1 z := fun z h1 h2 => by rw [upd_ne h1, upd_ne h2]
    have agn : ∀ z ∈ Ag, H1 z ≠ none := u1.dom
    have agx : ∀ z ∈ Ag, z ≠ x ∧ z ≠ dx := fun z hz => ⟨fun e => agn z hz (by rw [e]; exact hx), fun e => agn z hz (by rw [e]; exact hdx)⟩
    have px : Pu F H F1 (upd (upd H1 dx (.own x)) x (.ins C dx [])) := ⟨p1.ff, (p1.hh.trans (.new hdx)).trans (.new (by rw [upd_ne ne.symm]; exact hx)), (p1.fh.mut (f1 dx hdx)).mut (f1 x hx), p1.fo⟩
    have at0 : At K F1 (upd (upd H1 dx (.own x)) x (.ins C dx [])) ((V.ref x :: vs).map some) (G (c t)) (x :: dx :: Ag) := ⟨px.fh, List.nodup_cons.mpr ⟨fun h => by
        rcases List.mem_cons.mp h with h | h
        · exact ne h.symm
        · exact (agx x h).1 rfl, List.nodup_cons.mpr ⟨fun h => (agx dx h).2 rfl, fr.nd⟩⟩, fun z hz => by
        rcases List.mem_cons.mp hz with h | h
        · rw [h]
          exact f1 x hx
        · rcases List.mem_cons.mp h with h | h
          · rw [h]
            exact f1 dx hdx
          · exact fr.fo z h, by
        rw [hG]
        exact ⟨[x, dx], Ag, rfl, ⟨x, dx, [], [], rfl, upd_same, by rw [upd_ne ne, upd_same], rfl, fun g _ => rfl, Nat.le_refl _, rfl⟩, u1.mono (.refl _) fun z hz => up1 z (agx z hz).1 (agx z hz).2⟩⟩
    have new : ∀ z ∈ x :: dx :: Ag, H z = none := fun z hz => by
      rcases List.mem_cons.mp hz with h | h
      · rw [h]
        exact p1.hh.back hx
      · rcases List.mem_cons.mp h with h | h
        · rw [h]
          exact p1.hh.back hdx
        · exact fr.fr z h
    refine ⟨c t, F1, x :: dx :: Ag, at0, (Post.of_bind k).imp (fun y k2 v F2 H2 A' Av n s g1 g2 nd fo => ?_) fun e k2 F2 H2 cc d n s xx => k2 F2 H2 cc d (px.nxt new n s).1 xx⟩
    refine ⟨by
      obtain ⟨_, g2⟩ := g2
      exact dp_non g2, ?_⟩
    rw [hG'] at g1
    obtain ⟨B1, B2, e, h1, h2⟩ := g1
    subst e
    have pn := px.nxt new n s
    have nd1 := (List.nodup_append.mp (List.nodup_append.mp nd).1).1
    exact k2 (.ref x) F2 H2 B1 pn.1 h1 ⟨nd1, fun z hz => pn.2 z (List.mem_append_left _ (List.mem_append_left _ hz)), fun z hz => fo z (List.mem_append_left _ (List.mem_append_left _ hz))⟩) fun e z => z)
end

/-! ### a dict at a place -/
section
variable {P : Program} {w : World} {K : Fg} {mg : Str → Option Value} {W : WX} {S : List Sl} {te ta tb tk tv : TE} {t u : TS}
variable {κ κ0 α β γ τ ι ζ ζ0 : Type} [DecidableEq κ] {e : Enc κ} [TKey e] {f : Enc α} {R : Rp ζ} {B : β → List Sl} {N : Option (τ → List Sl)}
/-- place[k] = v -/
theorem Y.dputP {ρ : Rp (List (κ × α))} [OwnT ρ P w e f] {m : Res (List (κ × α) × κ0)} {up : κ0 → List (κ × α) → ζ0} {Sr : ζ0 → List Sl} {mk : Res κ} {mv : Res α} {kk : ζ0 → Res (Fl ζ β τ)}
    (hv : XB K mg W S tv (vD f) mv) (h : XP K mg W S te ρ m up Sr) (hk : XB K mg W S tk (vD e) mk) (hu : ∀ z, Y K mg W (Sr z) u R B N (kk z)) : Y K mg W S (tSeq (sDPutX P w K te tk tv) u) R B N (mv.bind fun y => m.bind fun p => mk.bind fun k => (chk (dputQ p.1 k y)).bind fun z => (Res.ok (up p.2 z)).bind kk) := ⟨fun h => .bind fun y => .bind fun p => .bind fun k => .bind fun z => .bind fun z => (hu _).no h, fun F H σ A a D' q =>
  hv F H σ A a _ ((Post.of_bind q).imp (fun y k1 v F1 H1 p1 u1 => h F1 H1 σ A (a.pu p1) _ ((Post.of_bind k1).imp (fun p kp v0 F1' H1' Ai p1' part => by
    have a1 := (a.pu p1).pu p1'
    refine hk F1' H1' σ A a1 _ ((Post.of_bind kp).imp (fun key k2 vk F2 H2 p2 u2 => ?_) fun e z => (z.x.pu p1).pu p1')
    have a2 := a1.pu p2
    have part2 := part.pu p2
    obtain ⟨b, rs, rfl, hb, h3, h4⟩ := OwnT.to part2.ok
    obtain ⟨c, rfl, hc⟩ := key_at u2
    obtain ⟨z, ez, k3⟩ := Post.of_chk (Post.of_bind k2)
    unfold dputQ at ez
    split at ez
    case isFalse => cases ez
    rename_i hlt
    cases ez
    have bA : b ∈ Ai := by rw [h3]; exact List.mem_cons_self
    have fb : F2 b = none := part2.fo b bA
    have pt := (p1.trans p1').trans p2
    have hx : ρ.ok K F2 (upd H2 b (DtO P w b (putX rs (TKey.toL e key) c v))) (.ref b) (dpV p.1 key y) [b] := OwnT.back part2.ok ⟨b, _, rfl, upd_same, rfl, h4.put key hc (dp_sub (p1'.ff.trans p2.ff) u1)⟩
    obtain ⟨A', a', s'⟩ := part2.mod F2 (upd H2 b (DtO P w b (putX rs (TKey.toL e key) c v))) (dpV p.1 key y) [b] (.refl _) (a2.fh.mut fb) (fun z o h hn => by
        rw [upd_ne fun q => hn (by rw [q]; exact bA)]
        exact h) (fun z h hn => rfl) (fun z hz => .inl (by
        rw [List.mem_singleton] at hz
        rw [hz]
        exact bA)) (by simp) (fun z hz => by
        rw [List.mem_singleton] at hz
        rw [hz]
        exact fb) (fun z h => by
        by_cases q : z = b
        · rw [q, upd_same]
          exact fun z => nomatch z
        · rw [upd_ne q]
          exact h) hx
    refine ⟨b, rs, c, TKey.toL e key, rfl, hb, fun x hx => sqT_sub a2.fh (h4.keys x hx), by rw [h4.len]; exact hlt, rfl, sqT_sub a2.fh hc, (hu _).run F2 _ σ A' a' D' (Post.from ((pt.nx fun _ z => .inl z).trans ⟨.refl _, fun z o h hn => ?_, fun z h _ => rfl, fun z hz => .inl ?_, fun z h => ?_⟩) (Post.of_bind (m := .ok _) k3))⟩
    · rw [upd_ne fun q => hn (by rw [q]; exact part2.inA b bA)]
      exact h
    · rcases s' z hz with h | h
      · exact h
      · rw [List.mem_singleton] at h
        rw [h]
        exact part2.inA b bA
    · by_cases q : z = b
      · rw [q, upd_same]
        exact fun z => nomatch z
      · rw [upd_ne q]
        exact h) fun e z => z.x.pu p1)) fun e z => z.x)⟩
end

/-! ### the walk -/
section
variable {X : Cx} {CX : CXT} {k : Nat} {f C : Addr} {fd : FuncData} {ps : List Str} {sp : Sp} {E : L2.St → XK} {x m : Str} {p pos apos : Pos} {e o : Expr} {es : List Expr} {ta : TE} {t : TA}
theorem pe_methW {pl : Sem Bool} (he : PE X o ta) (c : Cls X.K C) (hm : Meth X.K C m f) (F : FnOk X.prog X.w X.K X.mg X.base CX k f fd ps sp) (hr : Room k X.A) (hb : Binds X.K fd ps []) (hx : ∀ σ, PassesAt CX X σ (E σ)) (ha : PA X (e :: es) t)
    (hst : starEach (e :: es) X.env = (false, eval e X.env) :: starEach es X.env := by rfl) (hpl : (backTo pos (starEach es X.env)).any (·.1) = false := by rfl)
    (ht : eval (.Call (.Attribute o m apos) (e :: es) [] pos) X.env = (do
      let ov ← eval o X.env
      standAt apos.atName
      let (f, first) ← holding [ov] (getMethod ov m pl)
      callWith pos f first (backTo pos (starEach (e :: es) X.env)) (backToKw pos (keywordEach [] X.env))) := by rfl) :
    PE X (.Call (.Attribute o m apos) (e :: es) [] pos) (tMethW C m sp E ta t) := by
  refine ⟨fun pins s σ H Q I h => ?_⟩
  refine PySem.W.methodCall_KW (pl := pl) (thn (he.run pins s σ H _ I h) fun u s1 ⟨x, H1, I1, rx, a, dx, fs, ex, ea, l, q⟩ => ?_) ht
  subst ex
  obtain rfl : u = Value.ref a := rx
  refine getmeth_ok I1 ea c hm l ?_
  refine PySem.W.callWith_K (first := [.ref a]) (h₀ := X.base) I.ok.mod.kin hm.kp (thn (ha.run pos pins s1 σ H1 _ I1 q) fun us s2 ⟨vs, H2, I2, r, q2⟩ => ⟨I2.kIn, ?_⟩) hst hpl
  exact run_fnS (us := .ref a :: us) (vs := .ref a :: vs) F hr hb (hx σ) I2 (.cons rfl r) q2
theorem pe_methW0 {pl : Sem Bool} (he : PE X o ta) (c : Cls X.K C) (hm : Meth X.K C m f) (F : FnOk X.prog X.w X.K X.mg X.base CX k f fd ps sp) (hr : Room k X.A) (hb : Binds X.K fd ps []) (hx : ∀ σ, PassesAt CX X σ (E σ))
    (ht : eval (.Call (.Attribute o m apos) [] [] pos) X.env = (do
      let ov ← eval o X.env
      standAt apos.atName
      let (f, first) ← holding [ov] (getMethod ov m pl)
      callWith pos f first (backTo pos (starEach [] X.env)) (backToKw pos (keywordEach [] X.env))) := by rfl) :
    PE X (.Call (.Attribute o m apos) [] [] pos) (tMethW C m sp E ta tNil) := by
  refine ⟨fun pins s σ H Q I h => ?_⟩
  refine PySem.W.methodCall_KW (pl := pl) (thn (he.run pins s σ H _ I h) fun u s1 ⟨x, H1, I1, rx, a, dx, fs, ex, ea, l, q⟩ => ?_) ht
  subst ex
  obtain rfl : u = Value.ref a := rx
  refine getmeth_ok I1 ea c hm l ?_
  exact PySem.W.callWith_K0 (first := [.ref a]) I1.kIn hm.kp (run_fnS (us := [.ref a]) (vs := [.ref a]) F hr hb (hx σ) I1 (.cons rfl .nil) q)
theorem run_makeW {pins : List (Addr × Obj)} {σ : L2.St} {H : Hp} {s : Shared} {Q : VK} {us : List Value} {vs : List V} (M : Mk X.K C f) (F : FnOk X.prog X.w X.K X.mg X.base CX k f fd ps sp) (hr : Room (k + 1) X.A) (hb : Binds X.K fd ps [])
    (hx : PassesAt CX X σ (E σ)) (I : Inv X pins σ H s) (r : Vals vs us)
    (h : ∀ x dx, H x = none → H dx = none → dx ≠ x → sp (.ref x :: vs) (upd (upd H dx (.own x)) x (.ins C dx [])) (fun v H2 => v = .non ∧ Q (.ref x) H2) (E σ)) :
    wpAny (model X.prog X.w) X.A (call (.ref C) us) (EP X pins σ Q) X.xe s := by
  have hq := h (s.heap.objs.size + 1) s.heap.objs.size (I.hok.fresh (Nat.le_succ _)) (I.hok.fresh (Nat.le_refl _)) (Nat.ne_of_lt (Nat.lt_succ_self _))
  have I2 := Inv.made (C := C) I
  have r2 : Vals (V.ref (s.heap.objs.size + 1) :: vs) (Value.ref (s.heap.objs.size + 1) :: us) := .cons rfl r
  have hl : (Value.ref (s.heap.objs.size + 1) :: us).length = ps.length := by
    have e := r2.length
    rw [F.len _ _ _ _ hq] at e
    exact e.symm
  have b := hb _ (Value.ref (s.heap.objs.size + 1) :: us) I2.kIn (by rw [List.append_nil]; exact hl)
  rw [List.append_nil] at b
  refine wpAny_call (make_map (f := f) I.kIn M.makes M.init (beq_iff_eq.mp M.fn) (codeAny_mono (F.run _ X.stack _ _ ⟨Value.ref (s.heap.objs.size + 1) :: us, []⟩ (Value.ref (s.heap.objs.size + 1) :: us) _ _ (E σ) (hr.make C us [])
    (I2.env0.make C us []) b r2 hq) fun r s' hq' => ?_))
  cases r with
  | error e => exact hx pins _ _ e s' I2 hq'
  | ok fl =>
    cases fl with
    | ret u =>
      obtain ⟨v, H', I3, rv, ev, q3⟩ := I2.after hq'
      subst ev
      exact ⟨rv, ⟨V.ref (s.heap.objs.size + 1), H', I3, rfl, q3⟩⟩
    | next => exact False.elim hq'
    | brk => exact False.elim hq'
    | cont => exact False.elim hq'
theorem pe_makeW (M : Mk X.K C f) (F : FnOk X.prog X.w X.K X.mg X.base CX k f fd ps sp) (hr : Room (k + 1) X.A) (hg : Gl X x) (hm : X.mg x = some (.ref C)) (hb : Binds X.K fd ps []) (hx : ∀ σ, PassesAt CX X σ (E σ))
    (ha : PA X (e :: es) t) (hdb : (x == ("__debug__" : Str)) = false := by decide) (he : starEach (e :: es) X.env = (false, eval e X.env) :: starEach es X.env := by rfl) (hpl : (backTo pos (starEach es X.env)).any (·.1) = false := by rfl) :
    PE X (.Call (.Name x p) (e :: es) [] pos) (tMakeW C sp E t) := by
  refine ⟨fun pins s σ H Q I h => ?_⟩
  refine wpAny_Call_Name_kw (ld_glob I hg hm ?_ hdb)
  refine PySem.W.callWith_K (h₀ := X.base) I.ok.mod.kin M.kp (thn (ha.run pos pins s σ H _ I h) fun us s1 ⟨vs, H1, I1, r, q⟩ => ⟨I1.kIn, ?_⟩) he hpl
  exact run_makeW (E := E) M F hr hb (hx σ) I1 r q
theorem pe_makeW0 (M : Mk X.K C f) (F : FnOk X.prog X.w X.K X.mg X.base CX k f fd ps sp) (hr : Room (k + 1) X.A) (hg : Gl X x) (hm : X.mg x = some (.ref C)) (hb : Binds X.K fd ps []) (hx : ∀ σ, PassesAt CX X σ (E σ))
    (hdb : (x == ("__debug__" : Str)) = false := by decide) : PE X (.Call (.Name x p) [] [] pos) (tMakeW C sp E tNil) := by
  refine ⟨fun pins s σ H Q I h => ?_⟩
  refine wpAny_Call_Name_kw (ld_glob I hg hm ?_ hdb)
  exact PySem.W.callWith_K0 I.kIn M.kp (run_makeW (E := E) (us := []) M F hr hb (hx σ) I .nil h)
end
end TP

set_option Elab.async false
set_option linter.all false
set_option maxRecDepth 100000
set_option maxHeartbeats 4000000
set_option autoImplicit false
/-! TP, part 53: list(reversed(x)); tuples cut; bodies that end without a return. -/
namespace TP
open PySem PySem.Spec PyProof.Rows L2 RT
section
variable {prog : Program} {w : World} {A : Around} {E : Value → Shared → Prop} {s : Shared}
theorem init_list_rev {R : Result → Shared → Prop} {it l S : Addr} {items : Array Value} (hh : A.handled = none) (hit : s.heap.IsRevIter it l ((items.size : Int) - 1)) (hl : s.heap.IsList l items) (hne : l ≠ it) (hn : items.size ≤ sizeLine) (hSf : S ∉ [it, l])
    (hS : s.heap.get? S = some { cls := .type "list", data := .seq #[] })
    (hR : ∀ (h' : Heap) (tk : Nat) (acc : Array Value) (c' : Nat), (∀ b o, b ≠ it → b ≠ S → s.heap.get? b = some o → h'.get? b = some o) → h'.get? S = some { cls := .type "list", dict := none, data := .seq acc c', slots := #[] } →
      ItemsOf (fun i v => items[items.size - 1 - i]? = some v) acc items.size → R (.ok (.ret .none)) { s with heap := h', toks := tk }) :
    wpAny (model prog w) A.in1 (Builtin.«list.__init__» ⟨[.ref S, .ref it], []⟩)
      (fun fin s' => match fin with | .done f => R (.ok f) s' | .again c' => c'.quiet = true ∧ codeAny (model prog w) A c' R s') (fun e s' => R (.error e) s') s := by
  have W := (Walks.listRev (prog := prog) (w := w) (A := A.in1) hh it l hne items).toS
  have hSi : S ≠ it := fun e => hSf (by simp [e])
  show wpAny _ _ (do let old ← Builtin.List.listItems (.ref S); Builtin.List.listUpdate (.ref S) (fun _ => #[]); letGo old.toList.reverse; Builtin.List.listExtendWith (.ref S) (.ref it) .none) _ _ s
  refine wpAny_bind ?_
  unfold Builtin.List.listItems
  refine wpAny_bind (wpAny_seqItems hS rfl (wpAny_pure ?_))
  show wpAny _ _ (updateSeq S (fun _ => #[]) >>= fun _ => letGo (#[] : Array Value).toList.reverse >>= fun _ => Builtin.List.listExtendWith (.ref S) (.ref it) .none) _ _ s
  refine wpAny_bind (wpAny_updateSeq hS rfl ?_)
  have hS₂ := Heap.get?_update_self (Obj.mapSeq (fun _ => (#[] : Array Value))) hS rfl
  have oth : ∀ b o, b ≠ S → s.heap.get? b = some o → (s.heap.update S (Obj.mapSeq (fun _ => (#[] : Array Value)))).get? b = some o :=
    fun b o hb e => (Heap.get?_update_other _ _ (Ne.symm hb)).trans e
  refine wpAny_bind (wpAny_letGo ?_)
  have hit1 : (s.heap.update S (Obj.mapSeq (fun _ => (#[] : Array Value)))).IsRevIter it l ((items.size : Int) - 1) := hit.at fun o e => oth it o (Ne.symm hSi) e
  have hl1 : (s.heap.update S (Obj.mapSeq (fun _ => (#[] : Array Value)))).IsList l items := hl.at fun o e => oth l o (fun z => hSf (by simp [z])) e
  have hT : ({ s with heap := s.heap.update S (Obj.mapSeq (fun _ => (#[] : Array Value))) } : Shared).TypeIs (.ref it) "list_reverseiterator" := Heap.IsRevIter.typeIs (s := { s with heap := s.heap.update S (Obj.mapSeq (fun _ => (#[] : Array Value))) }) hit1
  have h1 : Builtin.List.listSameRef (.ref S) (.ref it) = false := by simp [Builtin.List.listSameRef, hSi]
  unfold Builtin.List.listExtendWith
  refine wpAny_bind (wpAny_typeOf hT ?_)
  rw [if_neg (by rw [h1]; decide)]
  refine wpAny_bind (wpAny_pyIter_revIter (s := { s with heap := s.heap.update S (Obj.mapSeq (fun _ => (#[] : Array Value))) }) hit1 ?_)
  refine wpAny_bind (wpAny_holding ?_)
  unfold Builtin.List.listLengthHint
  refine wpAny_bind (wpAny_specialOf hT nolen_lri ?_)
  show wpAny _ A.in1 (specialOf (Value.ref it) (Str.ofString "__length_hint__") >>= _) _ _ _
  refine wpAny_bind (wpAny_specialOf hT hint_lri ?_)
  generalize hid : ("list_reverseiterator.__length_hint__" : String) = id0
  wp_delta
  rw [show splitId id0 = some ("list_reverseiterator", "__length_hint__") from by subst hid; decide +kernel]
  subst hid
  refine wpAny_bind (wpAny_isInstance (b := true) hT (by rw [isSubtype_type]; kernel_rfl) ?_)
  refine wpAny_pure ?_
  rw [if_neg (by decide)]
  have e0 : ((items.size : Nat) : Int) - 1 - ((0 : Nat) : Int) = (items.size : Int) - 1 := by omega
  refine wpAny_pure ⟨plainId_quiet F.plain_extend_loop _, codeAny_extend_loopS W hn _ hSf _ items.size 0 _ _ _ rfl (Nat.zero_le _) ⟨Nat.zero_le _, by rw [e0]; exact hit1, hl1⟩ hS₂ (ItemsOf.nil _) fun s' acc' c' hm hS' hacc => ?_⟩
  rw [Moved.eq_with hm]
  refine hR s'.heap s'.toks acc' c' (fun b o hb hbS e => hm.heap b o (fun hmem => ?_) (oth b o hbS e)) hS' hacc
  rcases List.mem_cons.mp hmem with e' | hmem
  · exact hbS e'
  · exact hb (List.mem_singleton.mp hmem)
theorem call_list_rev {it l : Addr} {items : Array Value} {Q : Value → Shared → Prop} (hh : A.handled = none) (hit : s.heap.IsRevIter it l ((items.size : Int) - 1)) (hl : s.heap.IsList l items) (hne : l ≠ it) (hn : items.size ≤ sizeLine)
    (hQ : ∀ (h' : Heap) (tk : Nat) (acc : Array Value) (c' : Nat), (∀ b o, b ≠ it → s.heap.get? b = some o → h'.get? b = some o) → h'.get? s.heap.objs.size = some { cls := .type "list", dict := none, data := .seq acc c', slots := #[] } →
      ItemsOf (fun i v => items[items.size - 1 - i]? = some v) acc items.size → Q (.ref s.heap.objs.size) { s with heap := h', toks := tk }) :
    wpAny (model prog w) A (call (.type "list") [.ref it]) Q E s := by
  refine callType_codes (Q₁ := fun obj s₁ => obj = .ref s.heap.objs.size ∧ s₁ = { s with heap := s.heap.push { cls := .type "list", data := .seq #[] } }) F.called_list (F.typeCall_list_1 _) F.entry_list_init
    (code_list_new _ ⟨rfl, rfl⟩) fun obj s₁ h₁ => ?_
  obtain ⟨rfl, rfl⟩ := h₁
  obtain ⟨oi, hoi, _⟩ := id hit
  obtain ⟨ol, hol, _⟩ := id hl
  have hSi : s.heap.objs.size ≠ it := Nat.ne_of_gt (Heap.lt_size hoi)
  have hSl : s.heap.objs.size ≠ l := Nat.ne_of_gt (Heap.lt_size hol)
  have hS : (s.heap.push { cls := .type "list", data := .seq #[] }).get? s.heap.objs.size = some { cls := .type "list", data := .seq #[] } := Heap.get?_push_size _ rfl
  refine ⟨⟨_, hS, rfl⟩, F.args_list_init_2 _ _, init_list_rev (A := A.in1) hh (hit.at fun o e => Heap.get?_push_of_some _ e) (hl.push _) hne hn (by simp only [List.mem_cons, List.not_mem_nil, or_false, not_or]; exact ⟨hSi, hSl⟩) hS fun h' tk acc c' hk hS' hacc => ?_⟩
  exact ⟨rfl, hQ h' tk acc c' (fun b o hb e => hk b o hb (Nat.ne_of_lt (Heap.lt_size e)) (Heap.get?_push_of_some _ e)) hS' hacc⟩
end
/-- list(reversed(x)), x a list: a new list -/
def tLstRev (K : PySem.W.Frag) (te : TE) : TE := fun σ H Q => te σ H fun v H1 => ∃ (a : Addr) (xs : List V), v = .ref a ∧ SqL K H1 a xs ∧ ∀ q, H1 q = none → Q (.ref q) (upd H1 q (.lst xs.reverse))
section
variable {X : Cx}
theorem pe_listRev {e : Expr} {te : TE} {p p2 pos pos2 : Pos} (hc : X.calm = true) (hg : Gl X "list") (hm : X.mg "list" = none) (hg2 : Gl X "reversed") (hm2 : X.mg "reversed" = none) (he : PE X e te)
    (hs : starEach [e] X.env = (false, eval e X.env) :: starEach [] X.env := by rfl)
    (hs2 : starEach [.Call (.Name "reversed" p2) [e] [] pos2] X.env = (false, eval (.Call (.Name "reversed" p2) [e] [] pos2) X.env) :: starEach [] X.env := by rfl) :
    PE X (.Call (.Name "list" p) [.Call (.Name "reversed" p2) [e] [] pos2] [] pos) (tLstRev X.K te) := by
  refine ⟨fun pins s σ H Q I h => ?_⟩
  refine Call_ (ld_blt I hg hm boot_list (PyProof.Rows.callWith_type1 (args_cons (Call_ (ld_blt I hg2 hm2 PyProof.Rows.boot_reversed (PyProof.Rows.callWith_type1 (args_cons (thn (he.run pins s σ H _ I h) fun u s1 ⟨v, H1, I1, r1, q1⟩ => args_nil ?_) hs) hs rfl))) hs2) hs2 rfl))
  obtain ⟨a, xs, ev, hq, q⟩ := q1
  subst ev
  obtain rfl : u = Value.ref a := r1
  obtain ⟨its, rv, p', hz⟩ := I1.list hq
  refine call_reversed_list p'.isList (args_nil ?_)
  have k0 : ∀ b o, s1.heap.get? b = some o → (s1.heap.push (revObj a ((its.toArray.size : Int) - 1))).get? b = some o := fun b o e => Heap.get?_push_of_some _ e
  have I2 : Inv X pins σ H1 { s1 with heap := s1.heap.push (revObj a ((its.toArray.size : Int) - 1)) } := I1.kept (t' := s1.toks) k0
  obtain ⟨f0, f1, f2, f3, f4, f5⟩ := I1.fpOk (H' := H1) (b := s1.heap.objs.size) (Nat.le_refl _) (I1.hok.fresh (Nat.le_refl _))
  have hl := p'.isList
  obtain ⟨ol, hol, _⟩ := id hl
  have hne : a ≠ s1.heap.objs.size := Nat.ne_of_lt (Heap.lt_size hol)
  have hn : its.toArray.size ≤ sizeLine := by rw [List.size_toArray, ← rv.length]; exact hz
  refine call_list_rev (s := { s1 with heap := s1.heap.push (revObj a ((its.toArray.size : Int) - 1)) }) (I1.ok.hd hc) ⟨_, Heap.get?_push_size _ rfl, rfl, rfl⟩ (hl.push _) hne hn fun h' tk acc c' hk e' hi => ?_
  have hsz : s1.heap.objs.size ≤ (s1.heap.push (revObj a ((its.toArray.size : Int) - 1))).objs.size := by rw [Heap.size_push]; omega
  refine ⟨.ref (s1.heap.push (revObj a ((its.toArray.size : Int) - 1))).objs.size, upd H1 (s1.heap.push (revObj a ((its.toArray.size : Int) - 1))).objs.size (.lst xs.reverse), I1.laid (fun b o e => hk b o (Nat.ne_of_lt (Heap.lt_size e)) (Heap.get?_push_of_some _ e)) hsz (show ObjOk X.prog X.w _ _ _ (.lst xs.reverse) from ⟨by rw [List.length_reverse]; exact hz, acc.toList, c', vals_rev rv hi, ?_⟩), rfl, q _ (I1.hok.fresh hsz)⟩
  rw [Array.toArray_toList]
  exact e'
end

section
variable {K : Fg} {mg : Str → Option Value} {W : WX} {S S' : List Sl} {te ta tb tc tv tk : TE} {tr : TA} {tt : TT} {t t1 t2 u : TS}
variable {α β γ δ ε τ τ0 τ1 κ κ1 ι ζ ω : Type} {R : Rp α} {B : β → List Sl} {N : Option (τ → List Sl)}
theorem dpAll_rev {F : Hp} : ∀ {vs : List V} {ds : List PyData}, DpAll K F vs ds → DpAll K F vs.reverse ds.reverse
  | _, _, .nil => .nil
  | _, _, .cons h t => by
    rw [List.reverse_cons, List.reverse_cons]
    exact dpAll_app (dpAll_rev t) (.cons h .nil)
theorem XO.listRev {e : Enc ι} {m : Res (List ι)} (h : XB K mg W S te (vL e) m) : XO K mg W S (tLstRev K te) (ow (fz e)) (m.bind fun x => .ok x.reverse) := fun F H σ A a Q q =>
  h F H σ A a _ ((Post.of_bind q).imp (fun x k v F1 H1 p1 u => by
    obtain ⟨b, vs, rfl, g1, g2⟩ := u
    refine ⟨b, vs, rfl, g1, fun l hl => k (.ref l) F1 _ [l] (p1.trans (.newO p1.fh hl)) ⟨l, vs.reverse, [], rfl, upd_same, rfl, okL_of (by
      rw [List.map_reverse]
      exact dpAll_rev g2)⟩ ⟨by simp, fun z hz => ?_, fun z hz => ?_⟩⟩
    · rw [List.mem_singleton] at hz
      rw [hz]
      exact p1.hh.back hl
    · rw [List.mem_singleton] at hz
      rw [hz]
      exact p1.fh.back hl) fun e z => z)
/-- x[:2], x a tuple of four -/
theorem XB.cut42 {ea : Enc α} {eb : Enc β} {ec : Enc γ} {ed : Enc δ} {m : Res (α × β × γ × δ)} (h : XB K mg W S te (vD (e4 ea eb ec ed)) m) : XB K mg W S (tSl (rSlA K) te tNoPart (tPart (tC (.int 2)))) (vD (e2 ea eb)) (m.bind fun x => .ok (x.1, x.2.1)) := fun F H σ A a Q q => by
  refine (XB.slV (h.cast (f := eV eA) (fun x => [ea x.1, eb x.2.1, ec x.2.2.1, ed x.2.2.2]) (fun _ => rfl)) XPo.none (XPo.some (XB.int (i := 2)))) F H σ A a Q ?_
  cases m with
  | ok x => exact fun v F' H' p u => q v F' H' p (by
      have e : cutA [ea x.1, eb x.2.1, ec x.2.2.1, ed x.2.2.2] none (some 2) = [ea x.1, eb x.2.1] := by
        unfold cutA
        rfl
      rw [e] at u
      exact u)
  | er e => exact q
  | bad => exact q.elim
/-! ### a body that ends without a return -/
def Res.finN {δ : Type} (m : Res (Fl (Unit × δ) Empty δ)) : Res (Unit × δ) := m.bind fun fl => match fl with
  | .rt x => .ok x
  | .nx s => .ok ((), s)
  | _ => .bad
theorem fn_okIN {P : Program} {w : World} {base : Heap} {x qual : Str} {st : Stmt} {f : Addr} {fd : FuncData} {nm ps : List Str} {k : Nat} {n : Nat} {G : κ → List Sl} {G' : κ → δ → List Sl} {m : κ → Res (Unit × δ)} (bs : List Bool) (mm : κ → Res (Fl (Unit × δ) Empty δ)) (Nn : List V → κ → δ → List Sl)
    (F : Fun K x qual st f fd) (Sc : FnScope nm ps (defScope st)) (hm : ∀ t, m t = Res.finN (mm t)) (hp : ∀ t, (G t).length = ps.length) (hn : ∀ t, (G t).length + n = nm.length) (hb : ∀ (t : κ) (ws : List V) (s : δ), ws.length = ps.length → Back ws 0 (Nn ws t s) (G' t s))
    (body : ∀ (t : κ) (ws : List V) (cdv : Value) (A : Around) (outer : List Env) (s : Shared) (H : Hp) (E : XK), ws.length = ps.length → Room k (A.deeper (PyProof.Rows.envOfC qual (defScope st) s.heap.objs.size f cdv)) →
      ∃ tt, PSs (cxOf (L2.CX P w) P w K mg base nm qual (defScope st) f cdv A outer s H E) (defBody st) tt ∧ Y K mg (fun c d _ H => E c d H) (pins bs ws (G t) ++ List.replicate n .nil) tt (rIO ws (fz eN) (G' t)) (fun z : Empty => nomatch z) (some (Nn ws t)) (mm t)) :
    FnOk P w K mg base (L2.CX P w) (k + 1) f fd ps (spI K mg G G' (fz eN) m) := by
  refine F.okX Sc (fun vs H Q E h => ?_) (fun cdv A outer s H vs Q E hr h => ?_)
  · obtain ⟨t, F0, A0, a, _⟩ := h
    have := a.sl.len
    rw [List.length_map, hp] at this
    exact this
  · obtain ⟨t, F0, A0, a, hq⟩ := h
    have lv : vs.length = ps.length := by
      have := a.sl.len
      rw [List.length_map, hp] at this
      exact this
    obtain ⟨tt, h1, h2⟩ := body t vs cdv A outer s H E lv hr
    refine ⟨tt, h1, ?_⟩
    rw [hm] at hq
    have a' : At K F0 H (vs.map some) (pins bs vs (G t)) A0 := ⟨a.fh, a.nd, a.fo, pins_at a.sl⟩
    refine h2.run F0 H _ A0 (a'.start (by rw [pins_len]; exact hn t)) _ ((Post.of_bind hq).imp (fun fl k => ?_) fun e k F' H' σ' c d n s x => k F' H' c d n s x)
    cases fl with
    | rt x =>
      intro F' H' v Av n s hr nd fo
      obtain ⟨A', Av', e, g1, g2⟩ := hr
      subst e
      exact k v F' H' A' Av' n s g1 g2 nd fo
    | nx y =>
      intro F' H' σ' A' n a'
      obtain ⟨Ag, g1, g2, g3⟩ := back_at (hb t vs y lv) a'
      refine k .non F' H' Ag [] (n.less fun z hz => ?_) a'.fh g1 ⟨rfl, .non⟩ (by rw [List.append_nil]; exact g2) fun z hz => ?_
      · rw [List.append_nil] at hz
        exact g3 z hz
      · rw [List.append_nil] at hz
        exact a'.fo z (g3 z hz)
    | bk s => exact nomatch s
    | ct s => exact nomatch s
end
end TP

set_option Elab.async false
set_option linter.all false
set_option maxRecDepth 100000
set_option maxHeartbeats 4000000
set_option autoImplicit false
/-! TP, part 54: set of a tuple of ints. -/
namespace TP
open PySem PySem.Spec PyProof.Rows L2
def rSetOfV (K : Fg) (w : World) : List V → Hp → VK → Prop := fun xs H Q => ∃ (l : Addr) (ns : List Int), xs = [V.ref l] ∧ SqT K H l (ns.map V.int) ∧ ns.length < 63 ∧
  ∀ a c, H a = none → c ≤ ns.length → Q (.ref a) (upd H a (SetO w a (fun j => decide (j ∈ ns)) c))
theorem cr_setOfV {X : Cx} (hc : X.calm = true) : CallR X (.type "set") (rSetOfV X.K X.w) := by
  intro pins s σ H xs us Q I r h
  obtain ⟨l, ns, rfl, hl, hf, q⟩ := h
  rw [Vals.ref1 r]
  obtain ⟨its, rv, pl, hz⟩ := I.tuple hl
  have hn : H s.heap.objs.size = none := I.hok.fresh (Nat.le_refl _)
  refine call_set_tupI (P := X.prog) (w := X.w) ns (I.ok.hd hc) (show s.heap.IsTuple l its.toArray from pl) (by simpa using ints_of_vals rv) (by unfold scanBound; omega) fun h' tk c R hc' k => ?_
  refine ⟨.ref s.heap.objs.size, upd H s.heap.objs.size (SetO X.w s.heap.objs.size (fun j => decide (j ∈ ns)) c), I.laid (t' := tk) k (Nat.le_refl _) (setO_new R), rfl, q _ c hn hc'⟩
theorem kSetOfV {X : Cx} {w : World} {K : Fg} (hw : X.w = w) (hK : X.K = K) (hc : X.calm = true) : CallR X (.type "set") (rSetOfV K w) := by
  subst hw
  subst hK
  exact cr_setOfV hc
theorem o_setOfV {w : World} {K : Fg} : Cl1O K (rSetOfV K w) (vD (eV eI)) (rSI w) setI1 := fun F H v x z s h1 ez Q q => by
  obtain ⟨l, vs, rfl, g1, g2⟩ := dp_tup h1
  have e := int_rows g2
  subst e
  unfold setI1 at ez
  split at ez
  case isFalse => cases ez
  rename_i c
  cases ez
  refine ⟨l, x, rfl, sqT_sub s g1, c, fun a n hn hc => ?_⟩
  refine q (.ref a) F _ [a] (.newO s hn) ⟨a, n, rfl, upd_same, rfl, by omega⟩ ⟨by simp, fun z hz => ?_, fun z hz => ?_⟩
  · rw [List.mem_singleton] at hz
    rw [hz]
    exact hn
  · rw [List.mem_singleton] at hz
    rw [hz]
    exact s.back hn
section
variable {P : Program} {w : World} {K : Fg} {κ α ι : Type} [DecidableEq κ] {e : Enc κ} [TKey e] {f : Enc α}
theorem o_dinT : Op K (rDInX P w K false) (vD e) (vDt P w e f) vB (fun k d => some (dgQ d k).isSome) := fun F H v u x y z s h1 h2 ez Q q =>
  o_dinX (P := P) (w := w) (neg := false) F H v u x y z s h1 h2 (by rw [← ez]; show some (false != _) = some _; rw [Bool.false_bne]) Q q
theorem o_dniT : Op K (rDInX P w K true) (vD e) (vDt P w e f) vB (fun k d => some (!(dgQ d k).isSome)) := fun F H v u x y z s h1 h2 ez Q q =>
  o_dinX (P := P) (w := w) (neg := true) F H v u x y z s h1 h2 (by rw [← ez]; show some (true != _) = some _; rw [Bool.true_bne]) Q q
/-- data of any kind: is it None? -/
def isNA (d : PyData) : Bool := match d with
  | .none => true
  | _ => false
theorem v_isN {H : Hp} {v : V} {d : PyData} (h : Dp K H v d) : decide (v = .non) = isNA d := by
  cases h <;> simp [isNA]
theorem o_isNA : Op K (fun x y H Q => y = .non ∧ Q (.bl (decide (x = .non))) H) (vH eA) (vD eN) vB (fun d _ => some (isNA d)) := fun F H v u x y z s h1 h2 ez Q q => by
  cases ez
  refine ⟨dp_non h2, ?_⟩
  rw [v_isN (show Dp K H v x from h1)]
  exact q _ F H (.refl s) (.bl _)
theorem o_notNA : Op K (fun x y H Q => y = .non ∧ Q (.bl (!decide (x = .non))) H) (vH eA) (vD eN) vB (fun d _ => some (!isNA d)) := fun F H v u x y z s h1 h2 ez Q q => by
  cases ez
  refine ⟨dp_non h2, ?_⟩
  rw [v_isN (show Dp K H v x from h1)]
  exact q _ F H (.refl s) (.bl _)
end
/-! ### an owned list, or None -/
def owO {α : Type} (r : Rp α) : Rp (Option α) where
  ok := fun K F H v x A => match x with
    | none => v = .non ∧ A = []
    | some y => r.ok K F H v y A
  mono := fun {K F F' H H' v x A} h s t => match x, h with
    | none, h => h
    | some y, h => r.mono h s t
  dom := fun {K F H v x A} h a ha => match x, h with
    | none, h => by
      rw [h.2] at ha
      cases ha
    | some y, h => r.dom h a ha
section
variable {K : Fg} {mg : Str → Option Value} {W : WX} {S S' : List Sl} {te ta tb tc tv tk : TE} {tr : TA} {tt : TT} {t t1 t2 u : TS}
variable {α β γ δ τ τ0 τ1 κ κ1 ι ζ ω : Type} {R : Rp α} {B : β → List Sl} {N : Option (τ → List Sl)}
theorem frz_owO {r : Rp ι} {e : Enc ι} (h : Frz r e) : Frz (owO r) (eO e) := fun K F F' H v x A k s t => by
  cases x with
  | none =>
    obtain ⟨k1, k2⟩ := k
    rw [k1]
    exact .non
  | some y => exact h K F F' H v y A k s t
theorem vw_owO {r : Rp ι} {e : Enc ι} (h : Vw r (vH e)) : Vw (owO r) (vH (eO e)) := fun K F H v x A s k => by
  cases x with
  | none =>
    obtain ⟨k1, k2⟩ := k
    rw [k1]
    exact .non
  | some y => exact h K F H v y A s k
theorem XO.some {r : Rp ι} {m : Res ι} (h : XO K mg W S te r m) : XO K mg W S te (owO r) (m.bind fun x => .ok (some x)) := fun F H σ A a Q q =>
  h F H σ A a Q ((Post.of_bind q).imp (fun x k v F' H' Av p u fr => k v F' H' Av p u fr) fun _ z => z)
theorem XEO.some {r : Rp ι} {M : τ0 → List Sl} {m : Res (ι × τ0)} (h : XEO K mg W S te r M m) : XEO K mg W S te (owO r) M (m.bind fun p => .ok (some p.1, p.2)) := fun F H σ A a Q q =>
  h F H σ A a Q ((Post.of_bind q).imp (fun x k v F' H' A' Av n a' u nd fo => k v F' H' A' Av n a' u nd fo) fun _ z => z)
theorem XO.none {r : Rp ι} : XO K mg W S (tC .non) (owO r) (.ok none) := fun F H σ A a Q q => q _ F H [] (.refl a.fh) ⟨rfl, rfl⟩ frs0
theorem Y.retNO {r : Rp ι} : Y K mg W S (tSeq tRetN u) (owO r) B N (.ok (.rt none)) := ⟨fun _ => .rt, fun F H σ A a D q =>
  q F H .non [] (Nx.refl.less fun _ z => (by cases z)) a.fh ⟨rfl, rfl⟩ List.nodup_nil fun _ z => (by cases z)⟩
/-- it is not None there -/
theorem Y.unoptO {i : Nat} {r : Rp ι} {o : Option ι} {k : ι → Res (Fl α β τ)} (hs : S[i]? = some (.val (owO r) o)) (h : ∀ x, Y K mg W (S.set i (.val r x)) t R B N (k x)) : Y K mg W S t R B N ((optQ o).bind k) := ⟨fun q => .bind fun x => (h x).no q, fun F H σ A a D q => by
  cases o with
  | none => exact (show False from q).elim
  | some x =>
    obtain ⟨A', a', s'⟩ : ∃ A', At K F H σ (S.set i (.val r x)) A' ∧ ∀ z ∈ A', z ∈ A := by
      obtain ⟨v0, A1, Ai, A2, e1, e2, e3, e4⟩ := a.sl.at hs
      cases v0 with
      | none => exact e3.elim
      | some v =>
        have e5 := e4 F H (some v) (.val r x) Ai (.refl _) (fun _ _ => rfl) e3
        have es : σ.set i (some v) = σ := by
          refine List.ext_getElem? fun j => ?_
          by_cases z : i = j
          · subst z
            rw [e1, List.getElem?_set_self (by
              obtain ⟨hl, _⟩ := List.getElem?_eq_some_iff.mp e1
              exact hl)]
          · rw [List.getElem?_set_ne z]
        rw [es] at e5
        exact ⟨_, ⟨a.fh, e2 ▸ a.nd, fun z hz => a.fo z (e2 ▸ hz), e5⟩, fun z hz => e2 ▸ hz⟩
    exact (h x).run F H σ A' a' D (Post.from (Nx.refl.less s') q)⟩
end
end TP

set_option Elab.async false
set_option linter.all false
set_option maxRecDepth 100000
set_option maxHeartbeats 4000000
set_option autoImplicit false
/-! TP, part 55: sorted of tuples, the first of them empty. -/
namespace TPS
open PySem PySem.W PySem.SeqAt PySem.Calls PyProof.Rows
section
variable {prog : Program} {w : World} {A : Around} {E : Value → Shared → Prop} {s : Shared}
theorem call_tuple_lt {Q : Value → Shared → Prop} {l b : Addr} {items items2 : Array Value} {e r : Nat → Bool} (hl : s.heap.IsTuple l items) (hb : s.heap.IsTuple b items2)
    (he : ∀ j (h1 : j < items.size) (h2 : j < items2.size), EqAt A.in1 s items[j] items2[j] (e j)) (hr : ∀ j (h1 : j < items.size) (h2 : j < items2.size), e j = false → RcLt A.in1 s items[j] items2[j] (r j))
    (h : Q (.bool (firstLt e r (decide (items.size < items2.size)) (List.range (min items.size items2.size)))) s) : wpAny (model prog w) A (call (.builtin "tuple.__lt__") [.ref l, .ref b]) Q E s := by
  obtain ⟨⟨cls, dd, data, sl⟩, ho, hc, n, hd⟩ := id hl
  obtain ⟨⟨cls2, dd2, data2, sl2⟩, ho2, hc2, n2, hd2⟩ := id hb
  simp only at hc hd hc2 hd2
  subst hc hd hc2 hd2
  exact call_meets F.slot_tuple_lt ⟨_, ho, rfl⟩ F.entry_tuple_lt (F.args_tuple_lt_2 _ _) (tuple_ltAt l b items items2 n n2 dd dd2 sl sl2 e r) ⟨ho, ho2, he, hr, h⟩
theorem oneLt_tup {xs ys : List PyData} {a b : Value} {as bs : List Addr} {Q : Bool → Shared → Prop} (ra : Reads s.heap a (.tuple xs) as) (rb : Reads s.heap b (.tuple ys) bs) (h : alike (.tuple xs) (.tuple ys) = true)
    (hu : A.units + min (PyData.tuple xs).depth (PyData.tuple ys).depth < cLine) (hq : Q (dataLt (.tuple xs) (.tuple ys)) s) : wpAny (model prog w) A (oneLt' true a b) Q E s := by
  have hal : alikeAll xs ys = true := by simpa [alike] using h
  cases ra with
  | @tuple l o vs n _ as₁ h1 h2 h3 h4 =>
    cases rb with
    | @tuple l' o' vs' n' _ bs₁ k1 k2 k3 k4 =>
      have n1 : vs.size = xs.length := by simpa using ReadsAll.length _ _ _ h4
      have n2 : vs'.size = ys.length := by simpa using ReadsAll.length _ _ _ k4
      rw [dataLt_tuple, ← firstLt_toks xs ys hal, ← n1, ← n2] at hq
      rw [oneLt'_eq]
      simp only [if_true]
      refine wpAny_bind (wpAny_cRoomFor (room_here hu) ?_)
      refine wpAny_bind (wpAny_callSpecialIfBound?_slot (T := "tuple") ⟨_, h1, h2⟩ F.slot_tuple_lt (call_tuple_lt (e := pairEq xs ys) (r := fun j => dataLt (xs.getD j .none) (ys.getD j .none)) ⟨_, h1, h2, _, h3⟩ ⟨_, k1, k2, _, k3⟩ (fun j j1 j2 => ?_) (fun j j1 j2 hj => ?_) ?_))
      · have := eqAt_alikeAll xs ys A.in1 s vs.toList vs'.toList _ _ h4 k4 hal (room_in hu) j (by simpa using j1) (by simpa using j2)
        simpa using this
      · have := rcLt_alikeAll xs ys A.in1 s vs.toList vs'.toList _ _ h4 k4 hal (room_in hu) j (by simpa using j1) (by simpa using j2) hj
        simpa using this
      · exact wpAny_truthy_bool hq
theorem mapM_ex {f : Value → Sem (Option Value)} : ∀ (l : List Value), (∀ v ∈ l, ∃ r, ∀ Q' : Option Value → Shared → Prop, Q' r s → wpAny (model prog w) A (f v) Q' E s) → ∃ rs : List (Option Value), ∀ Q : List (Option Value) → Shared → Prop, Q rs s → wpAny (model prog w) A (l.mapM f) Q E s
  | [], _ => ⟨[], fun Q h => by
    rw [List.mapM_nil]
    exact wpAny_pure h⟩
  | v :: l, hf => by
    obtain ⟨r, h1⟩ := hf v List.mem_cons_self
    obtain ⟨rs, h2⟩ := mapM_ex l fun v hv => hf v (List.mem_cons_of_mem _ hv)
    refine ⟨r :: rs, fun Q h => ?_⟩
    rw [List.mapM_cons]
    exact wpAny_bind (h1 _ (wpAny_bind (h2 _ (wpAny_pure h))))
theorem first_tup {v : Value} {xs : List PyData} {as : List Addr} (r : Reads s.heap v (.tuple xs) as) : ∃ o : Option Value, (xs = [] → o = none) ∧ ∀ Q' : Option Value → Shared → Prop, Q' o s → wpAny (model prog w) A (firstOfTuple' v) Q' E s := by
  cases r with
  | @tuple l o vs n _ as₁ h1 h2 h3 h4 =>
    refine ⟨vs[0]?, fun e => ?_, fun Q' hq => ?_⟩
    · have n1 : vs.size = xs.length := by simpa using ReadsAll.length _ _ _ h4
      rw [e] at n1
      rw [Array.getElem?_eq_none (by rw [n1]; exact Nat.le_refl _)]
    · rw [kas_first_eq]
      refine wpAny_bind (wpAny_typeOf ⟨_, h1, h2⟩ ?_)
      rw [if_neg (by decide)]
      exact wpAny_bind (listItems_at h1 h3 (wpAny_pure hq))
theorem kind_tupE {v₀ : Value} {rest : List Value} {ds : List PyData} (e : EachIs (fun v d => ∃ as, Reads s.heap v d as) (v₀ :: rest) (.tuple [] :: ds)) (ht : ∀ d ∈ ds, ∃ xs, d = .tuple xs) {Q : SortKind → Shared → Prop} (h : Q oneType' s) :
    wpAny (model prog w) A (keyKind' (v₀ :: rest).toArray) Q E s := by
  have hT : ∀ v ∈ v₀ :: rest, Looks (model prog w) s.heap (typeOf v) (Value.type "tuple") := fun v hv => by
    obtain ⟨d, hd, as, r⟩ := e.left v hv
    rcases List.mem_cons.mp hd with z | z
    · subst z
      exact looks_reads r
    · obtain ⟨xs, rfl⟩ := ht d z
      exact looks_reads r
  obtain ⟨as0, r0, e1⟩ : ∃ as, Reads s.heap v₀ (.tuple []) as ∧ EachIs (fun v d => ∃ as, Reads s.heap v d as) rest ds := by
    cases e with
    | cons h t =>
      obtain ⟨as, h⟩ := h
      exact ⟨as, h, t⟩
  obtain ⟨o0, ho0, f0⟩ := first_tup (prog := prog) (w := w) (A := A) (E := E) r0
  obtain ⟨rs, f1⟩ := mapM_ex (prog := prog) (w := w) (A := A) (E := E) (s := s) (f := firstOfTuple') rest fun v hv => by
    obtain ⟨d, hd, as, r⟩ := e1.left v hv
    obtain ⟨xs, rfl⟩ := ht d hd
    obtain ⟨o, _, h⟩ := first_tup (prog := prog) (w := w) (A := A) (E := E) r
    exact ⟨o, h⟩
  rw [keyKind'_eq, List.mapM_toArray, map_eq_pure_bind]
  refine wpAny_bind (wpAny_bind ?_)
  rw [List.mapM_cons]
  refine wpAny_bind (f0 _ (wpAny_bind (f1 _ (wpAny_pure (wpAny_pure ?_)))))
  rw [ho0 rfl]
  rw [if_neg (by simp), if_neg (by simp)]
  rw [oneTypeOnly'_eq, List.mapM_toArray, map_eq_pure_bind]
  refine wpAny_bind (wpAny_bind (wpAny_bind (kas_mapM (r := Value.type "tuple") _ (fun v hv Q' hq => (hT v hv).here hq) (wpAny_pure ?_))))
  have hall : ((List.map (fun _ => Value.type "tuple") (v₀ :: rest)).toArray.all fun x => x == Value.type "tuple") = true := by
    simp only [List.all_toArray, List.all_map, List.all_eq_true]
    intro _ _
    exact beq_self_eq_true _
  have h0 : (List.map (fun _ => Value.type "tuple") (v₀ :: rest)).toArray[0]? = some (Value.type "tuple") := by simp
  rw [h0]
  simp only [hall, if_true]
  exact wpAny_pure (wpAny_pure h)
theorem sorts_dataE {vs : List Value} {ds : List PyData} (e : EachIs (fun v d => ∃ as, Reads s.heap v d as) vs (.tuple [] :: ds)) (hal : AllAlike (.tuple [] :: ds)) (ht : ∀ d ∈ ds, ∃ xs, d = .tuple xs) (hu : ∀ d, d ∈ PyData.tuple [] :: ds → A.units + d.depth < cLine) : SortsAt prog w A s (dataKind s.heap (.tuple [] :: ds)) vs := by
  have room : ∀ {d d' : PyData}, d ∈ PyData.tuple [] :: ds → A.units + min d.depth d'.depth < cLine := fun {d d'} hd => Nat.lt_of_le_of_lt (Nat.add_le_add_left (Nat.min_le_left _ _) _) (hu d hd)
  have ht' : ∀ d ∈ PyData.tuple [] :: ds, ∃ xs, d = .tuple xs := fun d hd => by
    rcases List.mem_cons.mp hd with z | z
    · exact ⟨[], z⟩
    · exact ht d z
  refine ⟨fun v hv => ?_, oneType', ?_, fun h2 E Q hq => ?_⟩
  · obtain ⟨d, hd, as, r⟩ := e.left v hv
    exact ⟨_, dataKind_some hal hd r⟩
  · intro E x y a b Q ha hb hq
    obtain ⟨d, as, hd, ra, rfl⟩ := dataKind_inv ha
    obtain ⟨d', as', hd', rb, rfl⟩ := dataKind_inv hb
    rw [keyLt'_oneType]
    have al := hal d hd d' hd'
    have rm := room (d' := d') hd
    obtain ⟨xs, rfl⟩ := ht' d hd
    obtain ⟨ys, rfl⟩ := ht' d' hd'
    exact oneLt_tup ra rb al rm hq
  · cases vs with
    | nil => cases e
    | cons v vs => exact kind_tupE e ht hq
theorem list_sort_dataE {a : Addr} {n : Nat} {vs : List Value} {ds : List PyData} {R : Value → PyData → Prop} {Q : Value → Shared → Prop} (ho : s.heap.get? a = some (seqObj "list" vs.toArray n)) (e : EachIs R vs (.tuple [] :: ds)) (er : EachIs (fun v b => ∃ as, Reads s.heap v (id b) as ∧ a ∉ as) vs (.tuple [] :: ds)) (hal : AllAlike (.tuple [] :: ds)) (ht : ∀ d ∈ ds, ∃ xs, d = .tuple xs) (hL : (PyData.tuple [] :: ds).length ≤ sizeLine)
    (hu : ∀ b, b ∈ PyData.tuple [] :: ds → A.units + 1 + (id b).depth < cLine) (h : ∀ out, out.length = (PyData.tuple [] :: ds).length → EachIs R out ((PyData.tuple [] :: ds).mergeSort (dataLe false id)) → Q .none { s with heap := sortedHeap s.heap a vs (List.toArray out) }) :
    wpAny (model prog w) A (call (.builtin "list.sort") [.ref a]) Q E s := by
  have hal' : AllAlike ((PyData.tuple [] :: ds).map id) := by rw [List.map_id]; exact hal
  have er' : EachIs (fun v b => ∃ as, Reads (sortingHeap s.heap a vs) v (id b) as) vs (PyData.tuple [] :: ds) := each_keepBut (h' := sortingHeap s.heap a vs) (fun _ _ hb q => sortingHeap_old hb q) (fun o q => by rw [ho] at q; rw [← Option.some.inj q]) hal' er
  refine wpAny_call_entry slot_list_sort ⟨_, ho, rfl⟩ entry_list_sort (list_sort_vals (κ := dataKind (sortingHeap s.heap a vs) ((PyData.tuple [] :: ds).map id)) ho ?_ (by rw [e.length]; exact hL) ⟨.none, rfl, ?_⟩) (args_list_sort _)
  · rw [List.map_id]
    refine sorts_dataE (s := { s with heap := sortingHeap s.heap a vs }) er' hal ht ?_
    intro d hd
    exact Nat.lt_of_le_of_lt (Nat.add_le_add_right (Nat.le_of_eq rfl) _) (hu d hd)
  · exact h _ (by rw [sortVals_length false rfl]; exact e.length) (sortVals_data false e er' hal')
end
end TPS
namespace TP
open PySem PySem.Spec PyProof.Rows L2
theorem sorted_genE {X : Cx} {pins : List (Addr × Obj)} {σ : L2.St} {H : Hp} {s : Shared} {a : Addr} {Q : VK} (hu : X.A.units + 100 < cLine)
    (hcol : ∀ (E : Value → Shared → Prop) (R : List Value → Shared → Prop), (∀ (s' : Shared) (us : List Value) (vs : List V) (ds : List PyData), Inv X pins σ H s' → Vals vs us → DpAll X.K H vs (.tuple [] :: ds) → PySem.W.AllAlike (.tuple [] :: ds) → (∀ d ∈ ds, ∃ xs, d = PyData.tuple xs) → (∀ d ∈ PyData.tuple [] :: ds, d.depth ≤ 64) → vs.length ≤ sizeLine →
      (∀ ys p, PySem.W.EachIs (fun y d => (y, d) ∈ vs.zip (PyData.tuple [] :: ds)) ys ((PyData.tuple [] :: ds).mergeSort (PySem.W.dataLe false id)) → H p = none → Q (.ref p) (upd H p (.lst ys))) → R us s') → wpAny (model X.prog X.w) X.A.in1 (collect (.ref a)) R E s) :
    wpAny (model X.prog X.w) X.A (call (.builtin "sorted") [.ref a] []) (EP X pins σ Q) X.xe s := by
  refine call_function_entry_kw PyProof.Rows.kind_sorted PyProof.Rows.plain_sorted PyProof.Rows.entry_sorted (PyProof.Rows.args_sorted1 _) ?_
  unfold Builtin.«sorted»
  refine wpAny_bind (m := checkCount "sorted" 1 1 _) (wpAny_pure ?_)
  refine wpAny_bind (hcol _ _ fun s' us vs ds0 I1 rv hdp al sb dp z q => ?_)
  generalize hds : PyData.tuple [] :: ds0 = ds at hdp al dp q
  obtain ⟨h', g', d', tk, os'⟩ := s'
  have ul : us.length = vs.length := rv.length.symm
  refine wpAny_bind (wpAny_newList ?_ (by rw [ul]; exact z))
  have hoL : (h'.push (seqObj "list" us.toArray 0)).get? h'.objs.size = some (seqObj "list" us.toArray 0) := Heap.get?_push_size _ rfl
  show wpAny _ _ _ _ _ ⟨h'.push (seqObj "list" us.toArray 0), g', d', tk, os'⟩
  have kp : ∀ b o, h'.get? b = some o → (h'.push (seqObj "list" us.toArray 0)).get? b = some o := fun b o e => Heap.get?_push_of_some _ e
  obtain ⟨as, rs⟩ := Dp.readsAll I1 ds vs _ hdp rv
  have el : vs.length = ds.length := dpAll_len hdp
  have er : PySem.W.EachIs (fun v b => ∃ as, Reads (h'.push (seqObj "list" us.toArray 0)) v (id b) as ∧ h'.objs.size ∉ as) us ds := by
    have gen : ∀ {vs : List Value} {ds : List PyData} {as : List Addr}, ReadsAll h' vs ds as → PySem.W.EachIs (fun v b => ∃ as, Reads (h'.push (seqObj "list" us.toArray 0)) v (id b) as ∧ h'.objs.size ∉ as) vs ds := by
      intro vs ds as r
      induction ds generalizing vs as with
      | nil =>
        cases r
        exact .nil
      | cons d ds ih =>
        cases r with
        | cons r1 r2 =>
          refine .cons ⟨_, Reads.keeps kp r1, fun hm => ?_⟩ (ih r2)
          obtain ⟨o, ho⟩ := PyProof.On.reads_mem_get r1 _ hm
          exact absurd (Heap.lt_size ho) (Nat.lt_irrefl _)
    exact gen rs
  have body : ∀ {E : Value → Shared → Prop} {Q' : Value → Shared → Prop}, (∀ out, out.length = ds.length → PySem.W.EachIs (fun u d => ∃ y, RelV y u ∧ (y, d) ∈ vs.zip ds) out (ds.mergeSort (PySem.W.dataLe false id)) → Q' .none ⟨sortedHeap (h'.push (seqObj "list" us.toArray 0)) h'.objs.size us out.toArray, g', d', tk, os'⟩) →
      wpAny (model X.prog X.w) X.A.in1 (call (.builtin "list.sort") [.ref h'.objs.size] []) Q' E ⟨h'.push (seqObj "list" us.toArray 0), g', d', tk, os'⟩ := by
    intro E Q' hQ
    have hd : ∀ d, d ∈ ds → X.A.in1.units + 1 + (id d).depth < cLine := fun d hd => by
      have := dp d hd
      show X.A.in1.units + 1 + d.depth < cLine
      have e1 : X.A.in1.units ≤ X.A.units + 1 := Nat.le_refl _
      omega
    subst hds
    exact TPS.list_sort_dataE (s := ⟨h'.push (seqObj "list" us.toArray 0), g', d', tk, os'⟩) hoL (each_zip rv el) er al sb (by rw [← el]; exact z) hd hQ
  refine wpAny_bind (wpAny_holding (body fun out ho eo => ?_))
  obtain ⟨ys, e1, e2⟩ := each_vals eo
  obtain ⟨e', he'⟩ := PyProof.Rows.sortedHeap_at (vs := us) (out := out.toArray) hoL
  have hlen : ys.length ≤ sizeLine := by rw [e1.length, ho, ← el]; exact z
  refine wpAny_pure ⟨_, rfl, .ref h'.objs.size, upd H h'.objs.size (.lst ys), I1.laid (t' := tk) (fun b u e => ?_) (Nat.le_refl _) (show ObjOk X.prog X.w _ _ _ (.lst ys) from ⟨hlen, out, e', e1, he'⟩), rfl, q ys _ e2 (I1.hok.fresh (Nat.le_refl _))⟩
  have hb : b < h'.objs.size := Heap.lt_size e
  rw [PyProof.Rows.sortedHeap_old (Nat.ne_of_lt hb) (by rw [size_push']; exact Nat.lt_succ_of_lt hb)]
  exact Heap.get?_push_of_some _ e
/-- sorted of a list of tuples, the first one empty -/
def rSortE (K : Fg) : List V → Hp → VK → Prop := fun vs H Q => ∃ (a : Addr) (xs : List V) (ds : List PyData), vs = [.ref a] ∧ Sq K H a xs ∧ DpAll K H xs (.tuple [] :: ds) ∧ PySem.W.AllAlike (.tuple [] :: ds) ∧ (∀ d ∈ ds, ∃ ys, d = PyData.tuple ys) ∧ (∀ d ∈ PyData.tuple [] :: ds, d.depth ≤ 64) ∧
  ∀ ys p, PySem.W.EachIs (fun y d => (y, d) ∈ xs.zip (PyData.tuple [] :: ds)) ys ((PyData.tuple [] :: ds).mergeSort (PySem.W.dataLe false id)) → H p = none → Q (.ref p) (upd H p (.lst ys))
theorem kSortE {X : Cx} {K : Fg} (hK : X.K = K) (hu : X.A.units + 100 < cLine) : CallR X (.builtin "sorted") (rSortE K) := by
  subst hK
  intro pins s σ H vs us Q I r h
  obtain ⟨a, xs, ds, rfl, e, hdp, al, sb, dp, q⟩ := h
  rw [Vals.ref1 r]
  obtain ⟨us, T, o, n, rv, z, hT, h1, h2, h3⟩ := inv_sqAt I e
  exact sorted_genE (H := H) hu fun E R hR => wpAny_collect_seq a hT h1 h2 h3 (fun h' hk => hR _ _ _ _ (I.kept (t' := s.toks) hk) rv hdp al sb dp z q) (by rw [List.size_toArray, ← rv.length]; exact z)
@[irreducible] def sortE {α : Type} [DecidableEq α] (e : Enc α) [Ordl e] (xs : List (List α)) : Option (List (List α)) := match xs with
  | [] :: _ => some (sortL (Ordl.lt (eV e)) xs)
  | _ => none
theorem sortE_ok {α : Type} [DecidableEq α] {e : Enc α} [Ordl e] {xs : List (List α)} : sortE e ([] :: xs) = some (sortL (Ordl.lt (eV e)) ([] :: xs)) := by
  unfold sortE
  rfl
theorem o_sortLE {K : Fg} {α : Type} [DecidableEq α] {e : Enc α} [Ordl e] (hd : Law.dep (eV e) ≤ 64 := by decide) : Cl1O K (rSortE K) (vL (eV e)) (ow (fz (eV e))) (sortE e) := fun F H v x z s h1 ez Q q => by
  obtain ⟨a, vs, rfl, g1, g2⟩ := h1
  unfold sortE at ez
  split at ez
  case h_2 => cases ez
  rename_i xs
  cases ez
  have hm : (([] :: xs : List (List α)).map (eV e)) = .tuple [] :: xs.map (eV e) := rfl
  refine ⟨a, vs, xs.map (eV e), rfl, .inl g1, ?_, ?_, fun d hd' => ?_, fun d hd' => ?_, fun ys p he hp => newL s ?_ hp q⟩
  · rw [← hm]
    exact dpAll_sub s g2
  · rw [← hm]
    exact .of fun b b' => Ordl.alike b b'
  · obtain ⟨b, _, rfl⟩ := List.mem_map.mp hd'
    exact ⟨_, rfl⟩
  · rw [← hm] at hd'
    obtain ⟨b, _, rfl⟩ := List.mem_map.mp hd'
    exact Nat.le_trans (Law.dep_le b) hd
  · rw [← hm, sort_map] at he
    exact each_dp (dpAll_zip g2) he
end TP

set_option Elab.async false
set_option linter.all false
set_option maxRecDepth 100000
set_option maxHeartbeats 4000000
set_option autoImplicit false
/-! TP, part 56: an owned list, or None: tests. -/
namespace TP
open PySem PySem.Spec PyProof.Rows L2
section
variable {K : Fg} {ι : Type}
theorem v_isNO {e : Enc ι} [NotNone e] {H : Hp} {v : V} {x : Option ι} (h : Dp K H v (eO e x)) : decide (v = .non) = x.isNone := by
  cases x with
  | none =>
    rw [dp_non h]
    rfl
  | some y => exact v_none (show Dp K H v (e y) from h) (NotNone.nn y)
theorem o_isNH {e : Enc ι} [NotNone e] : Op K (fun x y H Q => y = .non ∧ Q (.bl (decide (x = .non))) H) (vH (eO e)) (vD eN) vB (fun o _ => some o.isNone) := fun F H v u x y z s h1 h2 ez Q q => by
  cases ez
  refine ⟨dp_non h2, ?_⟩
  rw [v_isNO (show Dp K H v (eO e x) from h1)]
  exact q _ F H (.refl s) (.bl _)
theorem o_notNH {e : Enc ι} [NotNone e] : Op K (fun x y H Q => y = .non ∧ Q (.bl (!decide (x = .non))) H) (vH (eO e)) (vD eN) vB (fun o _ => some o.isSome) := fun F H v u x y z s h1 h2 ez Q q => by
  cases ez
  refine ⟨dp_non h2, ?_⟩
  rw [v_isNO (show Dp K H v (eO e x) from h1)]
  have e : (!x.isNone) = x.isSome := by cases x <;> rfl
  rw [e]
  exact q _ F H (.refl s) (.bl _)
theorem lsts_owO {r : Rp ι} (h : Lsts r) : Lsts (owO r) := fun K F H v x A k => by
  cases x with
  | none =>
    intro z hz
    rw [k.2] at hz
    cases hz
  | some y => exact h K F H v y A k
end
end TP

set_option Elab.async false
set_option linter.all false
set_option maxRecDepth 100000
set_option maxHeartbeats 4000000
set_option autoImplicit false
/-! TP, part 57: `x or []`, x a list or None. -/
namespace TP
open PySem PySem.Spec PyProof.Rows L2
section
variable {X : Cx} {a b : Expr} {rest : List Expr} {pos : Pos} {ta tb : TE}
def tOrT (K : Fg) (ta tb : TE) : TE := fun σ H Q => ta σ H fun x H1 => ∃ k, TruV K x H1 k ∧ if k = true then Q x H1 else tb σ H1 Q
theorem pe_orT (ha : PE X a ta) (hb : PE X (.BoolOp .Or (b :: rest) pos) tb) : PE X (.BoolOp .Or (a :: b :: rest) pos) (tOrT X.K ta tb) := by
  refine ⟨fun pins s σ H Q I h => ?_⟩
  refine BoolOp_or (thn (ha.run pins s σ H _ I h) fun v s1 ⟨x, H1, I1, r1, k, tk, q1⟩ => thn (tru_ok pins s1 σ H1 x v (fun c H' => c = k ∧ H' = H1) I1 r1 ⟨k, tk, rfl, rfl⟩) fun c s2 ⟨H2, I2, e1, e2⟩ => ?_)
  subst e1 e2
  cases c with
  | false => exact hb.run pins s2 σ H2 Q I2 q1
  | true => exact ⟨x, H2, I2, r1, q1⟩
end
section
variable {K : Fg} {mg : Str → Option Value} {W : WX} {S : List Sl} {ta tb : TE} {α : Type}
def orLR {α : Type} (o : Option (List α)) (m : Res (List α)) : Res (List α) := match o with
  | some (x :: xs) => .ok (x :: xs)
  | _ => m
theorem XB.orL {e : Enc α} {m1 : Res (Option (List α))} {m2 : Res (List α)} (h1 : XB K mg W S ta (vD (eO (eL e))) m1) (h2 : XB K mg W S tb (vD (eL e)) m2) : XB K mg W S (tOrT K ta tb) (vD (eL e)) (m1.bind fun o => orLR o m2) := fun F H σ A a Q q =>
  h1 F H σ A a _ ((Post.of_bind q).imp (fun o k v F' H' p u => by
    have go : Post m2 (fun x => ∀ v F2 H2, Pu F H F2 H2 → (vD (eL e)).ok K F2 H2 v x → Q v H2) (XEr K mg W F H σ) → tb σ H' Q := fun k =>
      h2 F' H' σ A (a.pu p) Q (Post.imp k (fun c k2 v2 F2 H2 p2 => k2 v2 F2 H2 (p.trans p2)) fun e z => z.pu p)
    match o, u, k with
    | none, u, k =>
      rw [dp_non u]
      exact ⟨false, rfl, go k⟩
    | some [], u, k =>
      obtain ⟨b, xs, rfl, q1, q2⟩ := dp_lst u
      cases q2
      exact ⟨false, .inl ⟨[], sqL_sub p.fh q1, rfl⟩, go k⟩
    | some (y :: ys), u, k =>
      obtain ⟨b, xs, rfl, q1, q2⟩ := dp_lst (show Dp K F' v (.list (e y :: ys.map e)) from u)
      cases q2 with
      | cons c1 c2 => exact ⟨true, .inl ⟨_, sqL_sub p.fh q1, rfl⟩, k _ F' H' p u⟩) fun _ z => z)
end
end TP

set_option Elab.async false
set_option linter.all false
set_option maxRecDepth 100000
set_option maxHeartbeats 4000000
set_option autoImplicit false
namespace G
open PySem PySem.Spec PyProof.Rows L2 TP RT
def topS (i : Nat) : Stmt := PySem.Challenge.pw_tapepour_k37_whole_bounds_and_orders.main.body.getD i (.Pass ⟨0, 0, 0, 0⟩)
abbrev s_law_cell : Stmt := topS 18
abbrev nm_law_cell : List Str := ["_law_script", "_law_k"]
theorem sc_law_cell : FnScope nm_law_cell ["_law_script", "_law_k"] (defScope s_law_cell) := ⟨rfl, rfl, rfl, by decide +kernel, rfl, by decide +kernel, by decide +kernel⟩
abbrev s_law_draws : Stmt := topS 19
abbrev nm_law_draws : List Str := ["_law_cell_here", "_law_many", "_law_found", "_law_number", "_law_k", "_law_left"]
theorem sc_law_draws : FnScope nm_law_draws ["_law_cell_here", "_law_many"] (defScope s_law_draws) := ⟨rfl, rfl, rfl, by decide +kernel, rfl, by decide +kernel, by decide +kernel⟩
abbrev s_law_load : Stmt := topS 20
abbrev nm_law_load : List Str := ["_law_cell_here", "_law_tapes", "_law_most", "_law_some", "_law_load_here", "_law_left", "_law_k"]
theorem sc_law_load : FnScope nm_law_load ["_law_cell_here", "_law_tapes", "_law_most"] (defScope s_law_load) := ⟨rfl, rfl, rfl, by decide +kernel, rfl, by decide +kernel, by decide +kernel⟩
abbrev s_Search____init : Stmt := inClass (topS 15) 0
abbrev nm_Search____init : List Str := ["self", "load"]
theorem sc_Search____init : FnScope nm_Search____init ["self", "load"] (defScope s_Search____init) := ⟨rfl, rfl, rfl, by decide +kernel, rfl, by decide +kernel, by decide +kernel⟩
abbrev s_rising_rows : Stmt := topS 13
abbrev nm_rising_rows : List Str := ["numbers", "found", "number", "row"]
theorem sc_rising_rows : FnScope nm_rising_rows ["numbers"] (defScope s_rising_rows) := ⟨rfl, rfl, rfl, by decide +kernel, rfl, by decide +kernel, by decide +kernel⟩
abbrev s_pours_of : Stmt := topS 14
abbrev nm_pours_of : List Str := ["load", "found", "froms", "most", "to", "tape", "times"]
theorem sc_pours_of : FnScope nm_pours_of ["load"] (defScope s_pours_of) := ⟨rfl, rfl, rfl, by decide +kernel, rfl, by decide +kernel, by decide +kernel⟩
abbrev s_is_below : Stmt := topS 7
abbrev nm_is_below : List Str := ["thing", "count"]
theorem sc_is_below : FnScope nm_is_below ["thing", "count"] (defScope s_is_below) := ⟨rfl, rfl, rfl, by decide +kernel, rfl, by decide +kernel, by decide +kernel⟩
abbrev s_are_froms : Stmt := topS 8
abbrev nm_are_froms : List Str := ["froms", "tapes", "last", "tape"]
theorem sc_are_froms : FnScope nm_are_froms ["froms", "tapes"] (defScope s_are_froms) := ⟨rfl, rfl, rfl, by decide +kernel, rfl, by decide +kernel, by decide +kernel⟩
abbrev s_is_pour : Stmt := topS 9
abbrev nm_is_pour : List Str := ["pour", "tapes"]
theorem sc_is_pour : FnScope nm_is_pour ["pour", "tapes"] (defScope s_is_pour) := ⟨rfl, rfl, rfl, by decide +kernel, rfl, by decide +kernel, by decide +kernel⟩
abbrev s_load_behind : Stmt := topS 10
abbrev nm_load_behind : List Str := ["load", "plan", "numbers", "at", "pour", "froms", "to", "times", "tape"]
theorem sc_load_behind : FnScope nm_load_behind ["load", "plan"] (defScope s_load_behind) := ⟨rfl, rfl, rfl, by decide +kernel, rfl, by decide +kernel, by decide +kernel⟩
abbrev s_Search__come_to : Stmt := inClass (topS 15) 1
abbrev nm_Search__come_to : List Str := ["self", "place", "pour", "here", "many", "behind"]
theorem sc_Search__come_to : FnScope nm_Search__come_to ["self", "place", "pour"] (defScope s_Search__come_to) := ⟨rfl, rfl, rfl, by decide +kernel, rfl, by decide +kernel, by decide +kernel⟩
abbrev s_Search__plan_to : Stmt := inClass (topS 15) 2
abbrev nm_Search__plan_to : List Str := ["self", "place", "plan"]
theorem sc_Search__plan_to : FnScope nm_Search__plan_to ["self", "place"] (defScope s_Search__plan_to) := ⟨rfl, rfl, rfl, by decide +kernel, rfl, by decide +kernel, by decide +kernel⟩
abbrev s_fewest_pours : Stmt := topS 16
abbrev nm_fewest_pours : List Str := ["load", "bound", "search", "place", "pour"]
theorem sc_fewest_pours : FnScope nm_fewest_pours ["load", "bound"] (defScope s_fewest_pours) := ⟨rfl, rfl, rfl, by decide +kernel, rfl, by decide +kernel, by decide +kernel⟩
abbrev s_law_order : Stmt := topS 21
abbrev nm_law_order : List Str := ["_law_cell_here", "_law_many", "_law_left", "_law_order_here", "_law_one"]
theorem sc_law_order : FnScope nm_law_order ["_law_cell_here", "_law_many"] (defScope s_law_order) := ⟨rfl, rfl, rfl, by decide +kernel, rfl, by decide +kernel, by decide +kernel⟩
abbrev s_law_good : Stmt := topS 22
abbrev nm_law_good : List Str := ["_law_load_here", "_law_cell_here", "_law_found", "_law_order_here", "_law_other", "_law_turned", "_law_bound", "_law_due", "_law_told", "_law_tape", "_law_wide", "_law_more", "_law_number"]
theorem sc_law_good : FnScope nm_law_good ["_law_load_here", "_law_cell_here"] (defScope s_law_good) := ⟨rfl, rfl, rfl, by decide +kernel, rfl, by decide +kernel, by decide +kernel⟩
abbrev s_law : Stmt := topS 23
abbrev nm_law : List Str := ["_law_script", "_law_cell_here", "_law_load_here"]
theorem sc_law : FnScope nm_law ["_law_script"] (defScope s_law) := ⟨rfl, rfl, rfl, by decide +kernel, rfl, by decide +kernel, by decide +kernel⟩
structure Tx (K : Fg) (mg : Str → Option Value) where
  C_Search : Addr
  g_Search : mg "Search" = some (.ref C_Search)
  k_Search : Cls K C_Search
  f_Search_rows : NoAttr K C_Search "rows"
  f_Search_known : NoAttr K C_Search "known"
  a_law_cell : Addr
  fd_law_cell : FuncData
  F_law_cell : Fun K "_law_cell" "_law_cell" s_law_cell a_law_cell fd_law_cell
  g_law_cell : mg "_law_cell" = some (.ref a_law_cell)
  n_law_cell : Binds K fd_law_cell ["_law_script", "_law_k"] []
  a_law_draws : Addr
  fd_law_draws : FuncData
  F_law_draws : Fun K "_law_draws" "_law_draws" s_law_draws a_law_draws fd_law_draws
  g_law_draws : mg "_law_draws" = some (.ref a_law_draws)
  n_law_draws : Binds K fd_law_draws ["_law_cell_here", "_law_many"] []
  a_law_load : Addr
  fd_law_load : FuncData
  F_law_load : Fun K "_law_load" "_law_load" s_law_load a_law_load fd_law_load
  g_law_load : mg "_law_load" = some (.ref a_law_load)
  n_law_load : Binds K fd_law_load ["_law_cell_here", "_law_tapes", "_law_most"] []
  a_Search____init : Addr
  fd_Search____init : FuncData
  F_Search____init : Fun K "__init__" "Search.__init__" s_Search____init a_Search____init fd_Search____init
  n_Search____init : Binds K fd_Search____init ["self", "load"] []
  K_Search : Mk K C_Search a_Search____init
  a_rising_rows : Addr
  fd_rising_rows : FuncData
  F_rising_rows : Fun K "rising_rows" "rising_rows" s_rising_rows a_rising_rows fd_rising_rows
  g_rising_rows : mg "rising_rows" = some (.ref a_rising_rows)
  n_rising_rows : Binds K fd_rising_rows ["numbers"] []
  a_pours_of : Addr
  fd_pours_of : FuncData
  F_pours_of : Fun K "pours_of" "pours_of" s_pours_of a_pours_of fd_pours_of
  g_pours_of : mg "pours_of" = some (.ref a_pours_of)
  n_pours_of : Binds K fd_pours_of ["load"] []
  a_is_below : Addr
  fd_is_below : FuncData
  F_is_below : Fun K "is_below" "is_below" s_is_below a_is_below fd_is_below
  g_is_below : mg "is_below" = some (.ref a_is_below)
  n_is_below : Binds K fd_is_below ["thing", "count"] []
  a_are_froms : Addr
  fd_are_froms : FuncData
  F_are_froms : Fun K "are_froms" "are_froms" s_are_froms a_are_froms fd_are_froms
  g_are_froms : mg "are_froms" = some (.ref a_are_froms)
  n_are_froms : Binds K fd_are_froms ["froms", "tapes"] []
  a_is_pour : Addr
  fd_is_pour : FuncData
  F_is_pour : Fun K "is_pour" "is_pour" s_is_pour a_is_pour fd_is_pour
  g_is_pour : mg "is_pour" = some (.ref a_is_pour)
  n_is_pour : Binds K fd_is_pour ["pour", "tapes"] []
  a_load_behind : Addr
  fd_load_behind : FuncData
  F_load_behind : Fun K "load_behind" "load_behind" s_load_behind a_load_behind fd_load_behind
  g_load_behind : mg "load_behind" = some (.ref a_load_behind)
  n_load_behind : Binds K fd_load_behind ["load", "plan"] []
  a_Search__come_to : Addr
  fd_Search__come_to : FuncData
  F_Search__come_to : Fun K "come_to" "Search.come_to" s_Search__come_to a_Search__come_to fd_Search__come_to
  n_Search__come_to : Binds K fd_Search__come_to ["self", "place", "pour"] []
  m_Search__come_to : Meth K C_Search "come_to" a_Search__come_to
  a_Search__plan_to : Addr
  fd_Search__plan_to : FuncData
  F_Search__plan_to : Fun K "plan_to" "Search.plan_to" s_Search__plan_to a_Search__plan_to fd_Search__plan_to
  n_Search__plan_to : Binds K fd_Search__plan_to ["self", "place"] []
  m_Search__plan_to : Meth K C_Search "plan_to" a_Search__plan_to
  a_fewest_pours : Addr
  fd_fewest_pours : FuncData
  F_fewest_pours : Fun K "fewest_pours" "fewest_pours" s_fewest_pours a_fewest_pours fd_fewest_pours
  g_fewest_pours : mg "fewest_pours" = some (.ref a_fewest_pours)
  n_fewest_pours : Binds K fd_fewest_pours ["load", "bound"] []
  a_law_order : Addr
  fd_law_order : FuncData
  F_law_order : Fun K "_law_order" "_law_order" s_law_order a_law_order fd_law_order
  g_law_order : mg "_law_order" = some (.ref a_law_order)
  n_law_order : Binds K fd_law_order ["_law_cell_here", "_law_many"] []
  a_law_good : Addr
  fd_law_good : FuncData
  F_law_good : Fun K "_law_good" "_law_good" s_law_good a_law_good fd_law_good
  g_law_good : mg "_law_good" = some (.ref a_law_good)
  n_law_good : Binds K fd_law_good ["_law_load_here", "_law_cell_here"] []
  a_law : Addr
  fd_law : FuncData
  F_law : Fun K "law" "law" s_law a_law fd_law
  g_law : mg "law" = some (.ref a_law)
  n_law : Binds K fd_law ["_law_script"] []
  b_len : mg "len" = none
  b_range : mg "range" = none
  b_int : mg "int" = none
  b_min : mg "min" = none
  b_sum : mg "sum" = none
  b_tuple : mg "tuple" = none
  b_sorted : mg "sorted" = none
  b_list : mg "list" = none
  b_enumerate : mg "enumerate" = none
  b_isinstance : mg "isinstance" = none
  b_reversed : mg "reversed" = none
  b_bool : mg "bool" = none
  c_MOST_FROMS : ∃ t, mg "MOST_FROMS" = some (.int 5 t)
  c_MOST_LOADS : ∃ t, mg "MOST_LOADS" = some (.int 4000 t)
abbrev fr_Search_0 (xC_Search : Addr) (P : Program) (w : World) : Fr Unit := frN
abbrev fr_Search_1 (xC_Search : Addr) (P : Program) (w : World) : Fr ((List ((List Int) × Int × (Option Int) × (Option ((List Int) × Int × Int)))) × Unit) := frC "rows" (ow (fz (e4 (eV eI) eI (eO eI) (eO (e3 (eV eI) eI eI))))) (fr_Search_0 xC_Search P w)
abbrev fr_Search_2 (xC_Search : Addr) (P : Program) (w : World) : Fr ((List ((List Int) × Bool)) × (List ((List Int) × Int × (Option Int) × (Option ((List Int) × Int × Int)))) × Unit) := frC "known" (dt P w (eV eI) eB) (fr_Search_1 xC_Search P w)
theorem fat_Search_rows (xC_Search : Addr) (P : Program) (w : World) : FAt (fr_Search_2 xC_Search P w) "rows" (ow (fz (e4 (eV eI) eI (eO eI) (eO (e3 (eV eI) eI eI))))) (fun (x : ((List ((List Int) × Bool)) × (List ((List Int) × Int × (Option Int) × (Option ((List Int) × Int × Int)))) × Unit)) => x.2.1) (fun (x : ((List ((List Int) × Bool)) × (List ((List Int) × Int × (Option Int) × (Option ((List Int) × Int × Int)))) × Unit)) (y : (List ((List Int) × Int × (Option Int) × (Option ((List Int) × Int × Int))))) => (x.1, y, x.2.2)) := (FAt.there (show ("known" : Str) ≠ "rows" by decide) (FAt.here (show ("rows" : Str) ∉ ([] : List Str) by decide)))
theorem fat_Search_known (xC_Search : Addr) (P : Program) (w : World) : FAt (fr_Search_2 xC_Search P w) "known" (dt P w (eV eI) eB) (fun (x : ((List ((List Int) × Bool)) × (List ((List Int) × Int × (Option Int) × (Option ((List Int) × Int × Int)))) × Unit)) => x.1) (fun (x : ((List ((List Int) × Bool)) × (List ((List Int) × Int × (Option Int) × (Option ((List Int) × Int × Int)))) × Unit)) (y : (List ((List Int) × Bool))) => (y, x.2.1, x.2.2)) := (FAt.here (show ("known" : Str) ∉ (["rows"] : List Str) by decide))
def b_law_cell (v_law_script : (List Int)) (v_law_k : Int) : Res (Fl Int Empty Unit) :=
  ifR (Res.ok (decide (v_law_k < (v_law_script.length : Int)))) (Res.bind (chk (ixQ v_law_script v_law_k)) fun r905 => Res.ok (.rt r905)) (Res.ok (.rt (0 : Int)))
@[irreducible] def m_law_cell (v_law_script : (List Int)) (v_law_k : Int) : Res Int := Res.fin (b_law_cell v_law_script v_law_k)
abbrev G_law_cell (t : (List Int) × Int × Unit) : List Sl := [.val (fz (eL eI)) t.1, .val (fz eI) t.2.1]
abbrev r_law_cell : Rp Int := (fz eI)
abbrev mt_law_cell (t : (List Int) × Int × Unit) : Res Int := m_law_cell t.1 t.2.1
def b_law_draws (v_law_cell_here : Int) (v_law_many : Int) : Res (Fl (List Int) Empty Unit) :=
  Res.bind (Res.ok ([] : List Int)) fun (v_law_found : (List Int)) => Res.bind (Res.ok ((v_law_cell_here % (2147483647 : Int)) + (48271 : Int))) fun (v_law_number : Int) => Res.flb (Res.bind (chk (okRange 0 v_law_many)) fun z949 => forR (fun (x936 : Int) (s930 : (List Int) × Int) => Res.bind (Res.bind (Res.bind (Res.bind (Res.bind (chk (mulQ s930.2 s930.2)) fun t937 => Res.ok (t937 + ((48271 : Int) * s930.2))) fun t938 => Res.bind (chk (mulQ ((7 : Int) * x936) x936)) fun t939 => Res.ok (t938 + t939)) fun t940 => Res.ok (t940 + (1 : Int))) fun t941 => Res.ok (t941 % (2147483647 : Int))) fun (v_law_number : Int) => Res.bind (chk (appQ s930.1 (v_law_number / (64 : Int)))) fun z942 => Res.bind (Res.ok z942) fun (v_law_found : (List Int)) => Res.ok (.nx (v_law_found, v_law_number))) z949 (v_law_found, v_law_number)) fun (s930 : (List Int) × Int) => Res.bind (Res.ok (v_law_cell_here * (if (decide (((10 : Int) ^ (Int.toNat 18)) ≤ v_law_cell_here)) then (1 : Int) else 0))) fun (v_law_left : Int) => Res.flb (Res.bind (chk (okRange 0 v_law_many)) fun z948 => forR (fun (x945 : Int) (s943 : (List Int) × Int) => Res.flb (ifR (Res.ok (decide ((0 : Int) < s943.2))) (Res.bind (chk (setQ s943.1 x945 (s943.2 % (1000 : Int)))) fun z947 => Res.bind (Res.ok z947) fun (v_law_found : (List Int)) => Res.bind (Res.ok (s943.2 / (1000 : Int))) fun (v_law_left : Int) => Res.ok (.nx (v_law_found, v_law_left))) (Res.ok (.nx (s943.1, s943.2)))) fun (j946 : (List Int) × Int) => Res.ok (.nx (j946.1, j946.2))) z948 (s930.1, v_law_left)) fun (s943 : (List Int) × Int) => Res.ok (.rt s943.1)
@[irreducible] def m_law_draws (v_law_cell_here : Int) (v_law_many : Int) : Res (List Int) := Res.fin (b_law_draws v_law_cell_here v_law_many)
abbrev G_law_draws (t : Int × Int × Unit) : List Sl := [.val (fz eI) t.1, .val (fz eI) t.2.1]
abbrev r_law_draws : Rp (List Int) := (ow (fz eI))
abbrev mt_law_draws (t : Int × Int × Unit) : Res (List Int) := m_law_draws t.1 t.2.1
def b_law_load (v_law_cell_here : Int) (v_law_tapes : Int) (v_law_most : Int) : Res (Fl (List Int) Empty Unit) :=
  Res.bind (m_law_draws v_law_cell_here (8 : Int)) fun (v_law_some : (List Int)) => Res.bind (Res.ok ([] : List Int)) fun (v_law_load_here : (List Int)) => Res.bind (Res.ok v_law_most) fun (v_law_left : Int) => Res.flb (Res.bind (chk (okRange 0 v_law_tapes)) fun z929 => forR (fun (x914 : Int) (s907 : (List Int) × Int) => Res.bind (Res.bind (Res.bind (chk (ixQ v_law_some x914)) fun t917 => Res.bind (Res.bind (Res.bind (chk (ixQ v_law_some (7 : Int))) fun t915 => Res.ok (t915 % (4 : Int))) fun t916 => chk (ixQ ([(4 : Int), (8 : Int), (16 : Int), (41 : Int)] : List Int) t916)) fun t918 => chk (modQ t917 t918)) fun t919 => Res.ok (if t919 < s907.2 then t919 else s907.2)) fun t921 => Res.bind (chk (appQ s907.1 t921)) fun z922 => Res.bind (Res.ok z922) fun (v_law_load_here : (List Int)) => Res.bind (Res.bind (chk (ixQ v_law_load_here x914)) fun t920 => Res.ok (s907.2 - t920)) fun (v_law_left : Int) => Res.ok (.nx (v_law_load_here, v_law_left))) z929 (v_law_load_here, v_law_left)) fun (s907 : (List Int) × Int) => Res.flb (ifR (Res.ok (decide (s907.1.sum = (0 : Int)))) (Res.bind (Res.bind (chk (ixQ v_law_some (6 : Int))) fun t925 => chk (modQ t925 v_law_tapes)) fun t926 => Res.bind (chk (setQ s907.1 t926 (1 : Int))) fun z927 => Res.bind (Res.ok z927) fun (v_law_load_here : (List Int)) => Res.ok (.nx v_law_load_here)) (Res.ok (.nx s907.1))) fun (j924 : (List Int)) => Res.ok (.rt j924)
@[irreducible] def m_law_load (v_law_cell_here : Int) (v_law_tapes : Int) (v_law_most : Int) : Res (List Int) := Res.fin (b_law_load v_law_cell_here v_law_tapes v_law_most)
abbrev G_law_load (t : Int × Int × Int × Unit) : List Sl := [.val (fz eI) t.1, .val (fz eI) t.2.1, .val (fz eI) t.2.2.1]
abbrev r_law_load : Rp (List Int) := (fz (eV eI))
abbrev mt_law_load (t : Int × Int × Int × Unit) : Res (List Int) := m_law_load t.1 t.2.1 t.2.2.1
def b_Search____init (v_self : (Unit)) (v_load : (List Int)) : Res (Fl (Unit × ((List ((List Int) × Bool)) × (List ((List Int) × Int × (Option Int) × (Option ((List Int) × Int × Int)))) × Unit)) Empty ((List ((List Int) × Bool)) × (List ((List Int) × Int × (Option Int) × (Option ((List Int) × Int × Int)))) × Unit)) :=
  Res.bind (Res.ok ([(v_load, (0 : Int), (none : (Option Int)), (none : (Option ((List Int) × Int × Int))))] : List ((List Int) × Int × (Option Int) × (Option ((List Int) × Int × Int))))) fun (y1074 : (List ((List Int) × Int × (Option Int) × (Option ((List Int) × Int × Int))))) => Res.bind (Res.ok [(v_load, true)]) fun (y1075 : (List ((List Int) × Bool))) => Res.ok (.nx (y1075, (y1074, v_self)))
@[irreducible] def m_Search____init (v_self : (Unit)) (v_load : (List Int)) : Res (Unit × ((List ((List Int) × Bool)) × (List ((List Int) × Int × (Option Int) × (Option ((List Int) × Int × Int)))) × Unit)) := Res.finN (b_Search____init v_self v_load)
abbrev G_Search____init (xC_Search : Addr) (P : Program) (w : World) (t : (Unit) × (List Int) × Unit) : List Sl := [.val (obR xC_Search (fr_Search_0 xC_Search P w)) t.1, .val (fz (eV eI)) t.2.1]
abbrev GI_Search____init (xC_Search : Addr) (P : Program) (w : World) (t : (Unit) × (List Int) × Unit) (y : ((List ((List Int) × Bool)) × (List ((List Int) × Int × (Option Int) × (Option ((List Int) × Int × Int)))) × Unit)) : List Sl := [.val (obR xC_Search (fr_Search_2 xC_Search P w)) y, .nil]
abbrev r_Search____init : Rp Unit := (fz eN)
abbrev mt_Search____init (t : (Unit) × (List Int) × Unit) : Res (Unit × ((List ((List Int) × Bool)) × (List ((List Int) × Int × (Option Int) × (Option ((List Int) × Int × Int)))) × Unit)) := m_Search____init t.1 t.2.1
def b_rising_rows (v_numbers : (List Int)) : Res (Fl (List (List Int)) Empty Unit) :=
  Res.bind (Res.ok ([([] : List Int)] : List (List Int))) fun (v_found : (List (List Int))) => Res.flb (forR (fun (x1132 : Int) (s1130 : (List (List Int))) => Res.bind (Res.bind (lcR (fun _ => Res.ok true) (fun (x1133 : (List Int)) => (chk (catQ x1133 [x1132]))) s1130) fun t1135 => chk (catQ s1130 t1135)) fun (v_found : (List (List Int))) => Res.ok (.nx v_found)) v_numbers v_found) fun (s1130 : (List (List Int))) => Res.ok (.rt s1130)
@[irreducible] def m_rising_rows (v_numbers : (List Int)) : Res (List (List Int)) := Res.fin (b_rising_rows v_numbers)
abbrev G_rising_rows (t : (List Int) × Unit) : List Sl := [.val (fz (eL eI)) t.1]
abbrev r_rising_rows : Rp (List (List Int)) := (ow (fz (eV eI)))
abbrev mt_rising_rows (t : (List Int) × Unit) : Res (List (List Int)) := m_rising_rows t.1
def b_pours_of (v_load : (List Int)) : Res (Fl (List ((List Int) × Int × Int)) Empty Unit) :=
  Res.bind (Res.ok ([] : List ((List Int) × Int × Int))) fun (v_found : (List ((List Int) × Int × Int))) => Res.flb (Res.bind (Res.bind (Res.bind (Res.bind (chk (rgQ (v_load.length : Int))) fun t1076 => Res.ok (t1076, ())) fun t1078 => m_rising_rows t1078.1) fun t1079 => chk (sortE eI t1079)) fun z1128 => forR (fun (x1102 : (List Int)) (s1080 : (List ((List Int) × Int × Int))) => Res.flb (ifR (chainR (Res.ok (2 : Int)) (Res.ok (x1102.length : Int)) (Res.ok (v_load.length : Int)) (fun a b => decide (a ≤ b)) (fun a b => decide (a < b))) (Res.bind (Res.bind (lcR (fun _ => Res.ok true) (fun (x1114 : Int) => (chk (ixQ v_load x1114))) x1102) fun t1115 => chk (extL (Ordl.lt eI) false t1115)) fun (v_most : Int) => Res.flb (Res.bind (chk (okRange 0 (v_load.length : Int))) fun z1127 => forR (fun (x1120 : Int) (s1116 : (List ((List Int) × Int × Int))) => Res.flb (ifR (Res.ok (!decide (x1120 ∈ x1102))) (Res.bind (Res.bind (chk (okRange (1 : Int) (v_most + (1 : Int)))) fun t1124 => lcR (fun _ => Res.ok true) (fun (x1123 : Int) => (Res.ok (x1102, x1120, x1123))) t1124) fun t1125 => Res.bind (chk (catQ s1116 t1125)) fun z1126 => Res.bind (Res.ok z1126) fun (v_found : (List ((List Int) × Int × Int))) => Res.ok (.nx v_found)) (Res.ok (.nx s1116))) fun (j1122 : (List ((List Int) × Int × Int))) => Res.ok (.nx j1122)) z1127 s1080) fun (s1116 : (List ((List Int) × Int × Int))) => Res.ok (.nx s1116)) (Res.ok (.nx s1080))) fun (j1113 : (List ((List Int) × Int × Int))) => Res.ok (.nx j1113)) z1128 v_found) fun (s1080 : (List ((List Int) × Int × Int))) => Res.ok (.rt s1080)
@[irreducible] def m_pours_of (v_load : (List Int)) : Res (List ((List Int) × Int × Int)) := Res.fin (b_pours_of v_load)
abbrev G_pours_of (t : (List Int) × Unit) : List Sl := [.val (fz (eV eI)) t.1]
abbrev r_pours_of : Rp (List ((List Int) × Int × Int)) := (ow (fz (e3 (eV eI) eI eI)))
abbrev mt_pours_of (t : (List Int) × Unit) : Res (List ((List Int) × Int × Int)) := m_pours_of t.1
def b_is_below (v_thing : Int) (v_count : Int) : Res (Fl Bool Empty Unit) :=
  Res.bind (andR (Res.ok true) (andR (Res.ok (!false)) (chainR (Res.ok (0 : Int)) (Res.ok v_thing) (Res.ok v_count) (fun a b => decide (a ≤ b)) (fun a b => decide (a < b))))) fun r1183 => Res.ok (.rt r1183)
@[irreducible] def m_is_below (v_thing : Int) (v_count : Int) : Res Bool := Res.fin (b_is_below v_thing v_count)
abbrev G_is_below (t : Int × Int × Unit) : List Sl := [.val (fz eI) t.1, .val (fz eI) t.2.1]
abbrev r_is_below : Rp Bool := (fz eB)
abbrev mt_is_below (t : Int × Int × Unit) : Res Bool := m_is_below t.1 t.2.1
def b_are_froms (v_froms : (List Int)) (v_tapes : Int) : Res (Fl Bool Empty Unit) :=
  ifR (orR (Res.ok (!true)) (orR (Res.ok (decide ((v_froms.length : Int) < (1 : Int)))) (Res.ok (decide ((5 : Int) < (v_froms.length : Int)))))) (Res.ok (.rt false)) (Res.bind (Res.ok (-(1 : Int))) fun (v_last : Int) => Res.flb (forR (fun (x1178 : Int) (s1176 : Int) => ifR (orR (Res.bind (m_is_below x1178 v_tapes) fun t1179 => Res.ok (!t1179)) (Res.ok (decide (x1178 ≤ s1176)))) (Res.ok (.rt false)) (Res.bind (Res.ok x1178) fun (v_last : Int) => Res.ok (.nx v_last))) v_froms v_last) fun (s1176 : Int) => Res.ok (.rt true))
@[irreducible] def m_are_froms (v_froms : (List Int)) (v_tapes : Int) : Res Bool := Res.fin (b_are_froms v_froms v_tapes)
abbrev G_are_froms (t : (List Int) × Int × Unit) : List Sl := [.val (fz (eV eI)) t.1, .val (fz eI) t.2.1]
abbrev r_are_froms : Rp Bool := (fz eB)
abbrev mt_are_froms (t : (List Int) × Int × Unit) : Res Bool := m_are_froms t.1 t.2.1
def b_is_pour (v_pour : ((List Int) × Int × Int)) (v_tapes : Int) : Res (Fl Bool Empty Unit) :=
  ifR (orR (Res.ok (!decide (([((eV eI) v_pour.1), (eI v_pour.2.1), (eI v_pour.2.2)].length : Int) = (3 : Int)))) (orR (Res.bind (m_are_froms v_pour.1 v_tapes) fun t1171 => Res.ok (!t1171)) (orR (Res.bind (m_is_below v_pour.2.1 v_tapes) fun t1172 => Res.ok (!t1172)) (Res.ok (decide (v_pour.2.1 ∈ v_pour.1)))))) (Res.ok (.rt false)) (Res.bind (andR (Res.ok true) (andR (Res.ok (!false)) (Res.ok (decide ((0 : Int) < v_pour.2.2))))) fun r1174 => Res.ok (.rt r1174))
@[irreducible] def m_is_pour (v_pour : ((List Int) × Int × Int)) (v_tapes : Int) : Res Bool := Res.fin (b_is_pour v_pour v_tapes)
abbrev G_is_pour (t : ((List Int) × Int × Int) × Int × Unit) : List Sl := [.val (fz (e3 (eV eI) eI eI)) t.1, .val (fz eI) t.2.1]
abbrev r_is_pour : Rp Bool := (fz eB)
abbrev mt_is_pour (t : ((List Int) × Int × Int) × Int × Unit) : Res Bool := m_is_pour t.1 t.2.1
def b_load_behind (v_load : (List Int)) (v_plan : (List ((List Int) × Int × Int))) : Res (Fl (List Int) Empty Unit) :=
  Res.bind (Res.ok v_load) fun (v_numbers : (List Int)) => Res.flb (forR (fun (x1157 : (Int × ((List Int) × Int × Int))) (s1147 : (List Int)) => ifR (Res.bind (m_is_pour x1157.2 (s1147.length : Int)) fun t1158 => Res.ok (!t1158)) (Res.bad) (Res.bind (Res.ok x1157.2) fun (p1159 : ((List Int) × Int × Int)) => Res.flb (forR (fun (x1163 : Int) (s1160 : (List Int)) => ifR (Res.bind (chk (ixQ s1160 x1163)) fun t1164 => Res.ok (decide (t1164 < p1159.2.2))) (Res.bad) (Res.bind (chk (getQ s1160 x1163)) fun (g1165 : Int) => (fun (v_numbers : List Int) => Res.ok (.nx v_numbers)) (s1160.set (Int.toNat x1163) (g1165 - p1159.2.2)))) p1159.1 s1147) fun (s1160 : (List Int)) => Res.bind (chk (getQ s1160 p1159.2.1)) fun (g1166 : Int) => (fun (v_numbers : List Int) => Res.ok (.nx v_numbers)) (s1160.set (Int.toNat p1159.2.1) (g1166 + p1159.2.2)))) (v_plan.zipIdx.map fun p => ((p.2 : Int), p.1)) v_numbers) fun (s1147 : (List Int)) => Res.ok (.rt s1147)
@[irreducible] def m_load_behind (v_load : (List Int)) (v_plan : (List ((List Int) × Int × Int))) : Res (List Int) := Res.fin (b_load_behind v_load v_plan)
abbrev G_load_behind (t : (List Int) × (List ((List Int) × Int × Int)) × Unit) : List Sl := [.val (fz (eV eI)) t.1, .val (fz (eL (e3 (eV eI) eI eI))) t.2.1]
abbrev r_load_behind : Rp (List Int) := (fz (eV eI))
abbrev mt_load_behind (t : (List Int) × (List ((List Int) × Int × Int)) × Unit) : Res (List Int) := m_load_behind t.1 t.2.1
def b_Search__come_to (v_self : ((List ((List Int) × Bool)) × (List ((List Int) × Int × (Option Int) × (Option ((List Int) × Int × Int)))) × Unit)) (v_place : Int) (v_pour : ((List Int) × Int × Int)) : Res (Fl (Bool × ((List ((List Int) × Bool)) × (List ((List Int) × Int × (Option Int) × (Option ((List Int) × Int × Int)))) × Unit)) Empty Unit) :=
  Res.bind (Res.bind (chk (ixQ v_self.2.1 v_place)) fun t1137 => Res.ok (t1137.1, t1137.2.1)) fun (p1138 : ((List Int) × Int)) => Res.bind (m_load_behind p1138.1 ([v_pour] : List ((List Int) × Int × Int))) fun (v_behind : (List Int)) => ifR (Res.ok ((dgQ v_self.1 v_behind).isSome)) (Res.ok (.rt (false, v_self))) (ifR (Res.ok (decide ((v_self.2.1.length : Int) = (4000 : Int)))) (Res.bad) (Res.bind (chk (dputQ v_self.1 v_behind true)) fun z1146 => Res.bind (Res.ok (z1146, v_self.2.1, v_self.2.2)) fun (v_self : ((List ((List Int) × Bool)) × (List ((List Int) × Int × (Option Int) × (Option ((List Int) × Int × Int)))) × Unit)) => Res.bind (chk (appQ v_self.2.1 (v_behind, (p1138.2 + (1 : Int)), (some v_place), (some v_pour)))) fun z1145 => Res.bind (Res.ok (v_self.1, z1145, v_self.2.2)) fun (v_self : ((List ((List Int) × Bool)) × (List ((List Int) × Int × (Option Int) × (Option ((List Int) × Int × Int)))) × Unit)) => Res.ok (.rt ((decide (v_behind.sum = (1 : Int))), v_self))))
@[irreducible] def m_Search__come_to (v_self : ((List ((List Int) × Bool)) × (List ((List Int) × Int × (Option Int) × (Option ((List Int) × Int × Int)))) × Unit)) (v_place : Int) (v_pour : ((List Int) × Int × Int)) : Res (Bool × ((List ((List Int) × Bool)) × (List ((List Int) × Int × (Option Int) × (Option ((List Int) × Int × Int)))) × Unit)) := Res.fin (b_Search__come_to v_self v_place v_pour)
abbrev G_Search__come_to (xC_Search : Addr) (P : Program) (w : World) (t : ((List ((List Int) × Bool)) × (List ((List Int) × Int × (Option Int) × (Option ((List Int) × Int × Int)))) × Unit) × Int × ((List Int) × Int × Int) × Unit) : List Sl := [.val (obR xC_Search (fr_Search_2 xC_Search P w)) t.1, .val (fz eI) t.2.1, .val (fz (e3 (eV eI) eI eI)) t.2.2.1]
abbrev GI_Search__come_to (xC_Search : Addr) (P : Program) (w : World) (t : ((List ((List Int) × Bool)) × (List ((List Int) × Int × (Option Int) × (Option ((List Int) × Int × Int)))) × Unit) × Int × ((List Int) × Int × Int) × Unit) (y : ((List ((List Int) × Bool)) × (List ((List Int) × Int × (Option Int) × (Option ((List Int) × Int × Int)))) × Unit)) : List Sl := [.val (obR xC_Search (fr_Search_2 xC_Search P w)) y, .nil, .nil]
abbrev r_Search__come_to : Rp Bool := (fz eB)
abbrev mt_Search__come_to (t : ((List ((List Int) × Bool)) × (List ((List Int) × Int × (Option Int) × (Option ((List Int) × Int × Int)))) × Unit) × Int × ((List Int) × Int × Int) × Unit) : Res (Bool × ((List ((List Int) × Bool)) × (List ((List Int) × Int × (Option Int) × (Option ((List Int) × Int × Int)))) × Unit)) := m_Search__come_to t.1 t.2.1 t.2.2.1
def b_Search__plan_to (v_self : ((List ((List Int) × Bool)) × (List ((List Int) × Int × (Option Int) × (Option ((List Int) × Int × Int)))) × Unit)) (v_place : Int) : Res (Fl ((List ((List Int) × Int × Int)) × ((List ((List Int) × Bool)) × (List ((List Int) × Int × (Option Int) × (Option ((List Int) × Int × Int)))) × Unit)) Empty Unit) :=
  Res.bind (Res.ok ([] : List ((List Int) × Int × Int))) fun (v_plan : (List ((List Int) × Int × Int))) => Res.flb (whileR (fun (s1184 : Int × (List ((List Int) × Int × Int))) => (Res.bind (Res.bind (chk (ixQ v_self.2.1 s1184.1)) fun t1185 => Res.ok t1185.2.2.1) fun t1186 => Res.ok (t1186.isSome))) (fun (s1184 : Int × (List ((List Int) × Int × Int))) => Res.bind (Res.bind (Res.bind (chk (ixQ v_self.2.1 s1184.1)) fun t1187 => Res.ok t1187.2.2.2) fun t1188 => optQ t1188) fun t1191 => Res.bind (chk (appQ s1184.2 t1191)) fun z1192 => Res.bind (Res.ok z1192) fun (v_plan : (List ((List Int) × Int × Int))) => Res.bind (Res.bind (Res.bind (chk (ixQ v_self.2.1 s1184.1)) fun t1189 => Res.ok t1189.2.2.1) fun t1190 => optQ t1190) fun (v_place : Int) => Res.ok (.nx (v_place, v_plan))) 1000000 (v_place, v_plan)) fun (s1184 : Int × (List ((List Int) × Int × Int))) => Res.ok (.rt (s1184.2.reverse, v_self))
@[irreducible] def m_Search__plan_to (v_self : ((List ((List Int) × Bool)) × (List ((List Int) × Int × (Option Int) × (Option ((List Int) × Int × Int)))) × Unit)) (v_place : Int) : Res ((List ((List Int) × Int × Int)) × ((List ((List Int) × Bool)) × (List ((List Int) × Int × (Option Int) × (Option ((List Int) × Int × Int)))) × Unit)) := Res.fin (b_Search__plan_to v_self v_place)
abbrev G_Search__plan_to (xC_Search : Addr) (P : Program) (w : World) (t : ((List ((List Int) × Bool)) × (List ((List Int) × Int × (Option Int) × (Option ((List Int) × Int × Int)))) × Unit) × Int × Unit) : List Sl := [.val (obR xC_Search (fr_Search_2 xC_Search P w)) t.1, .val (fz eI) t.2.1]
abbrev GI_Search__plan_to (xC_Search : Addr) (P : Program) (w : World) (t : ((List ((List Int) × Bool)) × (List ((List Int) × Int × (Option Int) × (Option ((List Int) × Int × Int)))) × Unit) × Int × Unit) (y : ((List ((List Int) × Bool)) × (List ((List Int) × Int × (Option Int) × (Option ((List Int) × Int × Int)))) × Unit)) : List Sl := [.val (obR xC_Search (fr_Search_2 xC_Search P w)) y, .nil]
abbrev r_Search__plan_to : Rp (List ((List Int) × Int × Int)) := (ow (fz (e3 (eV eI) eI eI)))
abbrev mt_Search__plan_to (t : ((List ((List Int) × Bool)) × (List ((List Int) × Int × (Option Int) × (Option ((List Int) × Int × Int)))) × Unit) × Int × Unit) : Res ((List ((List Int) × Int × Int)) × ((List ((List Int) × Bool)) × (List ((List Int) × Int × (Option Int) × (Option ((List Int) × Int × Int)))) × Unit)) := m_Search__plan_to t.1 t.2.1
def b_fewest_pours (v_load : (List Int)) (v_bound : Int) : Res (Fl (Option (List ((List Int) × Int × Int))) Empty Unit) :=
  ifR (Res.ok (decide (v_load.sum = (1 : Int)))) (Res.ok (.rt (some ([] : List ((List Int) × Int × Int))))) (Res.bind (Res.bind (m_Search____init () v_load) fun z_ => Res.ok z_.2) fun (v_search : ((List ((List Int) × Bool)) × (List ((List Int) × Int × (Option Int) × (Option ((List Int) × Int × Int)))) × Unit)) => Res.bind (Res.ok (0 : Int)) fun (v_place : Int) => Res.flb (whileR (fun (s1023 : ((List ((List Int) × Bool)) × (List ((List Int) × Int × (Option Int) × (Option ((List Int) × Int × Int)))) × Unit) × Int) => (andR (Res.ok (decide (s1023.2 < (s1023.1.2.1.length : Int)))) (Res.bind (Res.bind (chk (ixQ s1023.1.2.1 s1023.2)) fun t1043 => Res.ok t1043.2.1) fun t1044 => Res.ok (decide (t1044 < v_bound))))) (fun (s1023 : ((List ((List Int) × Bool)) × (List ((List Int) × Int × (Option Int) × (Option ((List Int) × Int × Int)))) × Unit) × Int) => Res.flb (Res.bind (Res.bind (Res.bind (Res.bind (chk (ixQ s1023.1.2.1 s1023.2)) fun t1045 => Res.ok t1045.1) fun t1046 => Res.ok (t1046, ())) fun t1048 => m_pours_of t1048.1) fun z1069 => forR (fun (x1058 : ((List Int) × Int × Int)) (s1049 : ((List ((List Int) × Bool)) × (List ((List Int) × Int × (Option Int) × (Option ((List Int) × Int × Int)))) × Unit)) => ifE (Res.bind (m_Search__come_to s1049 s1023.2 x1058) fun r1062 => Res.ok (r1062.1, r1062.2)) (fun (s1063 : ((List ((List Int) × Bool)) × (List ((List Int) × Int × (Option Int) × (Option ((List Int) × Int × Int)))) × Unit)) => Res.bind (m_Search__plan_to s1063 ((s1063.2.1.length : Int) - (1 : Int))) fun r1067 => Res.ok (.rt (some r1067.1))) (fun (s1063 : ((List ((List Int) × Bool)) × (List ((List Int) × Int × (Option Int) × (Option ((List Int) × Int × Int)))) × Unit)) => Res.ok (.nx s1063))) z1069 s1023.1) fun (s1049 : ((List ((List Int) × Bool)) × (List ((List Int) × Int × (Option Int) × (Option ((List Int) × Int × Int)))) × Unit)) => Res.bind (Res.ok (s1023.2 + (1 : Int))) fun (v_place : Int) => Res.ok (.nx (s1049, v_place))) 1000000 (v_search, v_place)) fun (s1023 : ((List ((List Int) × Bool)) × (List ((List Int) × Int × (Option Int) × (Option ((List Int) × Int × Int)))) × Unit) × Int) => Res.ok (.rt (none : (Option (List ((List Int) × Int × Int))))))
@[irreducible] def m_fewest_pours (v_load : (List Int)) (v_bound : Int) : Res (Option (List ((List Int) × Int × Int))) := Res.fin (b_fewest_pours v_load v_bound)
abbrev G_fewest_pours (t : (List Int) × Int × Unit) : List Sl := [.val (fz (eV eI)) t.1, .val (fz eI) t.2.1]
abbrev r_fewest_pours : Rp (Option (List ((List Int) × Int × Int))) := (fz (eO (eL (e3 (eV eI) eI eI))))
abbrev mt_fewest_pours (t : (List Int) × Int × Unit) : Res (Option (List ((List Int) × Int × Int))) := m_fewest_pours t.1 t.2.1
def b_law_order (v_law_cell_here : Int) (v_law_many : Int) : Res (Fl (List Int) Empty Unit) :=
  Res.bind (chk (rgQ v_law_many)) fun (v_law_left : (List Int)) => Res.bind (Res.ok ([] : List Int)) fun (v_law_order_here : (List Int)) => Res.flb (Res.bind (m_law_draws v_law_cell_here v_law_many) fun z1202 => forR (fun (x1197 : Int) (s1195 : (List Int) × (List Int)) => Res.bind ((chk (modQ x1197 (s1195.1.length : Int)))) fun t1200 => Res.bind (chk (popQ s1195.1 t1200)) fun y1199 => Res.bind (chk (appQ s1195.2 y1199.1)) fun (v_law_order_here : (List Int)) => Res.bind (Res.ok y1199.2) fun (s1198 : (List Int)) => Res.ok (.nx (s1198, v_law_order_here))) z1202 (v_law_left, v_law_order_here)) fun (s1195 : (List Int) × (List Int)) => Res.ok (.rt s1195.2)
@[irreducible] def m_law_order (v_law_cell_here : Int) (v_law_many : Int) : Res (List Int) := Res.fin (b_law_order v_law_cell_here v_law_many)
abbrev G_law_order (t : Int × Int × Unit) : List Sl := [.val (fz eI) t.1, .val (fz eI) t.2.1]
abbrev r_law_order : Rp (List Int) := (ow (fz eI))
abbrev mt_law_order (t : Int × Int × Unit) : Res (List Int) := m_law_order t.1 t.2.1
def b_law_good (v_law_load_here : (List Int)) (v_law_cell_here : Int) : Res (Fl Bool Empty Unit) :=
  Res.bind (m_fewest_pours v_law_load_here (5 : Int)) fun (v_law_found : (Option (List ((List Int) × Int × Int)))) => Res.bind (m_law_order v_law_cell_here (v_law_load_here.length : Int)) fun (v_law_order_here : (List Int)) => Res.bind (lcR (fun _ => Res.ok true) (fun (x950 : Int) => (chk (ixQ v_law_load_here x950))) v_law_order_here) fun (v_law_other : (List Int)) => Res.bind (m_fewest_pours v_law_other (5 : Int)) fun (v_law_turned : (Option (List ((List Int) × Int × Int)))) => ifR (Res.ok (!decide ((v_law_found.isNone) = (v_law_turned.isNone)))) (Res.ok (.rt false)) (Res.flb (Res.bind (Res.bind (Res.bind (Res.bind (Res.bind (Res.bind (Res.bind (Res.bind (Res.bind (Res.bind (orLR v_law_found (Res.ok ([] : List ((List Int) × Int × Int)))) fun t953 => Res.ok (t953.length : Int)) fun t954 => Res.ok (if t954 < (5 : Int) then t954 else (5 : Int))) fun t955 => Res.ok (t955, ())) fun t958 => Res.ok ((4 : Int), t958)) fun t960 => Res.ok ((3 : Int), t960)) fun t962 => Res.ok ((2 : Int), t962)) fun t964 => Res.ok ((1 : Int), t964)) fun t966 => Res.ok ((0 : Int), t966)) fun t967 => Res.ok ([t967.1, t967.2.1, t967.2.2.1, t967.2.2.2.1, t967.2.2.2.2.1, t967.2.2.2.2.2.1] : List Int)) fun z1020 => forR (fun (x987 : Int) (s968 : (Option (List ((List Int) × Int × Int)))) => Res.bind (Res.ok s968) fun (v_law_due : (Option (List ((List Int) × Int × Int)))) => Res.flb (ifR (andR (Res.ok (s968.isSome)) (Res.bind (Res.bind (optQ s968) fun t988 => Res.ok (t988.length : Int)) fun t989 => Res.ok (decide (x987 < t989)))) (Res.bind (optQ s968) fun (v_law_found_992 : (List ((List Int) × Int × Int))) => Res.bind (Res.ok ()) fun (v_law_due : Unit) => Res.ok (.nx ((some v_law_found_992), (none : (Option (List ((List Int) × Int × Int))))))) (Res.ok (.nx (s968, v_law_due)))) fun (j991 : (Option (List ((List Int) × Int × Int))) × (Option (List ((List Int) × Int × Int)))) => Res.bind (m_fewest_pours v_law_load_here x987) fun (v_law_told : (Option (List ((List Int) × Int × Int)))) => ifR (orR (chk (neA ((eO (eL (e3 (eV eI) eI eI))) v_law_told) ((eO (eL (e3 (eV eI) eI eI))) j991.2))) (Res.ok (!decide ((v_law_told.isNone) = (j991.2.isNone))))) (Res.ok (.rt false)) (Res.ok (.nx j991.1))) z1020 v_law_found) fun (s968 : (Option (List ((List Int) × Int × Int)))) => ifR (Res.ok (s968.isNone)) (Res.ok (.rt true)) (Res.bind (optQ s968) fun (v_law_found_995 : (List ((List Int) × Int × Int))) => ifR (orR (Res.bind (Res.bind (optQ v_law_turned) fun t996 => Res.ok (t996.length : Int)) fun t997 => Res.ok (!decide (t997 = (v_law_found_995.length : Int)))) (Res.bind (Res.bind (Res.bind (Res.bind (Res.bind (optQ v_law_turned) fun t998 => Res.ok (t998, ())) fun t1001 => Res.ok (v_law_other, t1001)) fun t1002 => m_load_behind t1002.1 t1002.2.1) fun t1003 => Res.ok t1003.sum) fun t1004 => Res.ok (!decide (t1004 = (1 : Int))))) (Res.ok (.rt false)) (ifR (andR (Res.ok (!decide (v_law_found_995 = ([] : List ((List Int) × Int × Int))))) (Res.bind (Res.bind (Res.bind (m_load_behind v_law_load_here (cutA v_law_found_995 none (some (1 : Int)))) fun t1006 => Res.ok (t1006, ((5 : Int), ()))) fun t1008 => m_fewest_pours t1008.1 t1008.2.1) fun t1009 => chk (neA ((eO (eL (e3 (eV eI) eI eI))) t1009) ((eL (e3 (eV eI) eI eI)) (cutA v_law_found_995 (some (1 : Int)) none))))) (Res.ok (.rt false)) (Res.bind (chk (ixQ v_law_order_here (0 : Int))) fun (v_law_tape : Int) => ifR (orR (Res.bind (chk (ixQ v_law_load_here v_law_tape)) fun t1011 => Res.ok (decide (t1011 = (0 : Int)))) (Res.ok (decide ((4 : Int) < (v_law_found_995.length : Int))))) (Res.ok (.rt true)) (Res.bind (lcR (fun _ => Res.ok true) (fun (x1013 : Int) => (Res.ok (x1013 + (1 : Int)))) v_law_load_here) fun (v_law_wide : (List Int)) => Res.bind (Res.bind (chk (ixQ v_law_load_here v_law_tape)) fun t1014 => Res.ok (t1014 - (1 : Int))) fun t1018 => Res.bind (chk (setQ v_law_wide v_law_tape t1018)) fun z1019 => Res.bind (Res.ok z1019) fun (v_law_wide : (List Int)) => Res.bind (m_fewest_pours v_law_wide (5 : Int)) fun (v_law_more : (Option (List ((List Int) × Int × Int)))) => Res.bind (andR (Res.ok (v_law_more.isSome)) (Res.bind (Res.bind (optQ v_law_more) fun t1015 => Res.ok (t1015.length : Int)) fun t1016 => Res.ok (decide (t1016 ≤ ((v_law_found_995.length : Int) + (1 : Int)))))) fun r1017 => Res.ok (.rt r1017))))))
@[irreducible] def m_law_good (v_law_load_here : (List Int)) (v_law_cell_here : Int) : Res Bool := Res.fin (b_law_good v_law_load_here v_law_cell_here)
abbrev G_law_good (t : (List Int) × Int × Unit) : List Sl := [.val (fz (eV eI)) t.1, .val (fz eI) t.2.1]
abbrev r_law_good : Rp Bool := (fz eB)
abbrev mt_law_good (t : (List Int) × Int × Unit) : Res Bool := m_law_good t.1 t.2.1
def b_law (v_law_script : (List Int)) : Res (Fl Bool Empty Unit) :=
  Res.flb (Res.bind (Res.bind (Res.bind (m_law_cell v_law_script (0 : Int)) fun t895 => Res.bind (Res.bind (m_law_cell v_law_script (1 : Int)) fun t893 => Res.ok (t893, ())) fun t896 => Res.ok (t895, t896)) fun t897 => Res.ok ([t897.1, t897.2.1] : List Int)) fun z904 => forR (fun (x900 : Int) (s898 : Unit) => Res.bind (m_law_load (x900 / (24 : Int)) ((3 : Int) + (x900 % (2 : Int))) (5 : Int)) fun (v_law_load_here : (List Int)) => ifR (Res.bind (m_law_good v_law_load_here (((x900 / (2 : Int)) * (7 : Int)) + (1 : Int))) fun t901 => Res.ok (!t901)) (Res.ok (.rt false)) (Res.ok (.nx ()))) z904 ()) fun (s898 : Unit) => Res.ok (.rt true)
@[irreducible] def m_law (v_law_script : (List Int)) : Res Bool := Res.fin (b_law v_law_script)
abbrev G_law (t : (List Int) × Unit) : List Sl := [.val (fz (eL eI)) t.1]
abbrev r_law : Rp Bool := (fz eB)
abbrev mt_law (t : (List Int) × Unit) : Res Bool := m_law t.1
section
variable {P : Program} {w : World} {K : Fg} {mg : Str → Option Value} {base : Heap}
theorem ok_law_cell (T : Tx K mg) : FnOk P w K mg base (L2.CX P w) 1 T.a_law_cell T.fd_law_cell ["_law_script", "_law_k"] (spP K mg G_law_cell r_law_cell mt_law_cell) := by
  refine fn_ok (n := 0) r_law_cell (fun t => b_law_cell t.1 t.2.1) T.F_law_cell sc_law_cell (fun _ => by unfold mt_law_cell m_law_cell; rfl) (fun _ => rfl) (fun _ => rfl) fun t cdv A outer s H E hr => ?_
  obtain ⟨v_law_script, v_law_k, _⟩ := t
  refine ⟨_, (pss_cons (ps_if (pt_cmpR op_lt (pv 1) (pe_callB (kLen (K := K) rfl) (by rfl) T.b_len (by decide +kernel) (pa_cons (pv 0) pa_nil)) (nomark _)) (pss_cons (ps_ret (pe_ix (kIxL (K := K) rfl) (pv 0) (pv 1) (fun _ _ => rfl))) pss_nil) pss_nil)
      (pss_cons (ps_ret pe_int)
      pss_nil)), ?_⟩
  refine Y.eqM ((Y.ifT (XT.tst (XB.op o_B0 (XB.v (i := 1) rfl) (XB.cl1 o_lenL (XB.le (XB.v (i := 0) rfl) le_DL)))) (Y.ret (XB.own (XB.op o_ixL (XB.le (XB.v (i := 0) rfl) le_DL) (XB.v (i := 1) rfl)))) (Y.ret (XB.own XB.int)))) ?_
  unfold b_law_cell
  simp only [bind_ok, chk_ok, Res.bind_assoc]
theorem ok_law_draws (T : Tx K mg) : FnOk P w K mg base (L2.CX P w) 1 T.a_law_draws T.fd_law_draws ["_law_cell_here", "_law_many"] (spP K mg G_law_draws r_law_draws mt_law_draws) := by
  refine fn_ok (n := 4) r_law_draws (fun t => b_law_draws t.1 t.2.1) T.F_law_draws sc_law_draws (fun _ => by unfold mt_law_draws m_law_draws; rfl) (fun _ => rfl) (fun _ => rfl) fun t cdv A outer s H E hr => ?_
  obtain ⟨v_law_cell_here, v_law_many, _⟩ := t
  refine ⟨_, (pss_cons (ps_set (i := 2) sc_law_draws.nd rfl (Or.inl rfl) (pe_lst pa_nil))
      (pss_cons (ps_set (i := 3) sc_law_draws.nd rfl (Or.inl rfl) (pe_op op_add (pe_op op_mod (pv 0) pe_int) pe_int))
      (pss_cons (ps_for (passes_of rfl) rfl (pi_range1 rfl T.b_range (pa_cons (pv 1) pa_nil)) (pg_name (i := 4) sc_law_draws.nd rfl (Or.inl rfl)) (pss_cons (ps_set (i := 3) sc_law_draws.nd rfl (Or.inl rfl) (pe_op op_mod (pe_op op_add (pe_op op_add (pe_op op_add (pe_op op_mulW (pv 3) (pv 3)) (pe_op op_mul pe_int (pv 3))) (pe_op op_mulW (pe_op op_mul pe_int (pv 4)) (pv 4))) pe_int) pe_int)) (pss_cons (ps_expr (pe_bm PySem.F.plainAttrs_list PySem.F.slot_list_append PySem.F.type_list_append mt_append (pv 2) (pa_cons (pe_op op_fdiv (pv 3) pe_int) pa_nil))) pss_nil)))
      (pss_cons (ps_set (i := 5) sc_law_draws.nd rfl (Or.inl rfl) (pe_op op_mul (pv 0) (pe_callTy call_int1 (by rfl) T.b_int (by decide +kernel) (pa_cons (pe_cmpR op_ge (pv 0) (pe_op op_pow pe_int pe_int) (nomark _)) pa_nil))))
      (pss_cons (ps_for (passes_of rfl) rfl (pi_range1 rfl T.b_range (pa_cons (pv 1) pa_nil)) (pg_name (i := 4) sc_law_draws.nd rfl (Or.inl rfl)) (pss_cons (ps_if (pt_cmpR op_gt (pv 5) pe_int (nomark _)) (pss_cons (ps_asg (pe_op op_mod (pv 5) pe_int) (pg_sub (pv 2) (pv 4) set_list)) (pss_cons (ps_set (i := 5) sc_law_draws.nd rfl (Or.inl rfl) (pe_op op_fdiv (pv 5) pe_int)) pss_nil)) pss_nil) pss_nil))
      (pss_cons (ps_ret (pv 2))
      pss_nil)))))), ?_⟩
  refine Y.eqM ((Y.asgO (i := 2) (XO.lstG (r := (fz eI)) XG.nil (fun t => []) (fun _ => rfl) 0) (fun v_law_found => (Y.asg (i := 3) (XB.op o_I0 (XB.opc (XB.v (i := 0) rfl) XB.int (fun _ => by decide)) XB.int) (fun v_law_number => (Y.seq (Y.for0 (N1 := fun s930 : (List Int) × Int => [.val (fz eI) v_law_cell_here, .val (fz eI) v_law_many, .val (ow (fz eI)) s930.1, .val (fz eI) s930.2, .nil, .nil]) (s0 := (v_law_found, v_law_number)) (XI.rng1 (XB.v (i := 1) rfl)) (.keep (.keep (.keep (.keep (.drop (.drop .nil)))))) (fun s930 => (XTg.name (i := 4) rfl)) (fun x936 s930 => (Y.asg (i := 3) (XB.opc (XB.op o_I0 (XB.op o_I0 (XB.op o_I0 (XB.op o_mulW (XB.v (i := 3) rfl) (XB.v (i := 3) rfl)) (XB.opc1 XB.int (XB.v (i := 3) rfl) (fun _ => .inl ⟨by decide, by decide⟩))) (XB.op o_mulW (XB.opc1 XB.int (XB.v (i := 4) rfl) (fun _ => .inl ⟨by decide, by decide⟩)) (XB.v (i := 4) rfl))) XB.int) XB.int (fun _ => by decide)) (fun v_law_number => (Y.mapp (XP.var (i := 2) rfl) (XB.own (XB.opc (XB.v (i := 3) rfl) XB.int (fun _ => ⟨by decide, by decide⟩))) (fun v_law_found => (Y.nx (s := (v_law_found, v_law_number)) (.keep (.keep (.keep (.keep (.drop (.drop .nil)))))))))) rfl))) (fun s930 => (Y.asg (i := 5) (XB.opc (XB.v (i := 0) rfl) (XB.cl1 o_intB (XB.op o_B0 (XB.v (i := 0) rfl) (XB.opcc XB.int XB.int ⟨by decide, by decide, by decide⟩))) (fun _ => .inr (by split <;> exact ⟨by decide, by decide⟩))) (fun v_law_left => (Y.seq (Y.for0 (N1 := fun s943 : (List Int) × Int => [.val (fz eI) v_law_cell_here, .val (fz eI) v_law_many, .val (ow (fz eI)) s943.1, .val (fz eI) s930.2, .nil, .val (fz eI) s943.2]) (s0 := (s930.1, v_law_left)) (XI.rng1 (XB.v (i := 1) rfl)) (.keep (.keep (.keep (.keep (.drop (.keep .nil)))))) (fun s943 => (XTg.name (i := 4) rfl)) (fun x945 s943 => (Y.seq (N1 := fun j946 : (List Int) × Int => [.val (fz eI) v_law_cell_here, .val (fz eI) v_law_many, .val (ow (fz eI)) j946.1, .val (fz eI) s930.2, .val (fz eI) x945, .val (fz eI) j946.2]) (Y.if0 (XT.tst (XB.op o_B0 (XB.v (i := 5) rfl) XB.int)) (Y.mset (XB.own (XB.opc (XB.v (i := 5) rfl) XB.int (fun _ => by decide))) (XP.var (i := 2) rfl) (XB.v (i := 4) rfl) (fun v_law_found => (Y.asg (i := 5) (XB.opc (XB.v (i := 5) rfl) XB.int (fun _ => ⟨by decide, by decide⟩)) (fun v_law_left => (Y.nx (s := (v_law_found, v_law_left)) (.keep (.keep (.keep (.keep (.keep (.keep .nil)))))))) rfl))) (Y.nx (s := (s943.1, s943.2)) (.keep (.keep (.keep (.keep (.keep (.keep .nil)))))))) (fun j946 => (Y.nx (s := (j946.1, j946.2)) (.keep (.keep (.keep (.keep (.drop (.keep .nil))))))))))) (fun s943 => (Y.retV (i := 2) rfl)))) rfl)))) rfl)) rfl)) ?_
  unfold b_law_draws
  simp only [bind_ok, chk_ok, Res.bind_assoc]
theorem ok_law_load (T : Tx K mg) : FnOk P w K mg base (L2.CX P w) 2 T.a_law_load T.fd_law_load ["_law_cell_here", "_law_tapes", "_law_most"] (spP K mg G_law_load r_law_load mt_law_load) := by
  refine fn_ok (n := 4) r_law_load (fun t => b_law_load t.1 t.2.1 t.2.2.1) T.F_law_load sc_law_load (fun _ => by unfold mt_law_load m_law_load; rfl) (fun _ => rfl) (fun _ => rfl) fun t cdv A outer s H E hr => ?_
  obtain ⟨v_law_cell_here, v_law_tapes, v_law_most, _⟩ := t
  refine ⟨_, (pss_cons (ps_set (i := 3) sc_law_load.nd rfl (Or.inl rfl) (pe_callS (ok_law_draws T) (hr.mono (by decide)) (by rfl) T.g_law_draws T.F_law_draws.kp T.n_law_draws (passAt (takes_of rfl rfl rfl rfl)) (pa_cons (pv 0) (pa_cons pe_int pa_nil))))
      (pss_cons (ps_set (i := 4) sc_law_load.nd rfl (Or.inl rfl) (pe_lst pa_nil))
      (pss_cons (ps_set (i := 5) sc_law_load.nd rfl (Or.inl rfl) (pv 2))
      (pss_cons (ps_for (passes_of rfl) rfl (pi_range1 rfl T.b_range (pa_cons (pv 1) pa_nil)) (pg_name (i := 6) sc_law_load.nd rfl (Or.inl rfl)) (pss_cons (ps_expr (pe_bm PySem.F.plainAttrs_list PySem.F.slot_list_append PySem.F.type_list_append mt_append (pv 4) (pa_cons (pe_callB (call_min2 rfl) (by rfl) T.b_min (by decide +kernel) (pa_cons (pv 5) (pa_cons (pe_op op_mod (pe_ix (kIxL (K := K) rfl) (pv 3) (pv 6) (fun _ _ => rfl)) (pe_ix (kIxL (K := K) rfl) (pe_lst (pa_cons pe_int (pa_cons pe_int (pa_cons pe_int (pa_cons pe_int pa_nil))))) (pe_op op_mod (pe_ix (kIxL (K := K) rfl) (pv 3) pe_int (fun _ _ => rfl)) pe_int) (fun _ _ => rfl))) pa_nil))) pa_nil))) (pss_cons (ps_set (i := 5) sc_law_load.nd rfl (Or.inl rfl) (pe_op op_sub (pv 5) (pe_ix (kIxL (K := K) rfl) (pv 4) (pv 6) (fun _ _ => rfl)))) pss_nil)))
      (pss_cons (ps_if (pt_cmpR op_eq (pe_callB (kSum (K := K) rfl rfl) (by rfl) T.b_sum (by decide +kernel) (pa_cons (pv 4) pa_nil)) pe_int (nomark _)) (pss_cons (ps_asg pe_int (pg_sub (pv 4) (pe_op op_mod (pe_ix (kIxL (K := K) rfl) (pv 3) pe_int (fun _ _ => rfl)) (pv 1)) set_list)) pss_nil) pss_nil)
      (pss_cons (ps_ret (pe_callTy (kTuple (K := K) rfl) (by rfl) T.b_tuple (by decide +kernel) (pa_cons (pv 4) pa_nil)))
      pss_nil)))))), ?_⟩
  refine Y.eqM ((Y.asg (i := 3) (XO.frz (XO.call (G := G_law_draws) (r := r_law_draws) (m := mt_law_draws) (XG.cons (XB.own (XB.v (i := 0) rfl)) (XG.cons (XB.own XB.int) XG.nil))) (frz_ow frz_fz)) (fun v_law_some => (Y.asgO (i := 4) (XO.lstG (r := (fz eI)) XG.nil (fun t => []) (fun _ => rfl) 0) (fun v_law_load_here => (Y.asg (i := 5) (XB.v (i := 2) rfl) (fun v_law_left => (Y.seq (Y.for0 (N1 := fun s907 : (List Int) × Int => [.val (fz eI) v_law_cell_here, .val (fz eI) v_law_tapes, .val (fz eI) v_law_most, .val (fz (eL eI)) v_law_some, .val (ow (fz eI)) s907.1, .val (fz eI) s907.2, .nil]) (s0 := (v_law_load_here, v_law_left)) (XI.rng1 (XB.v (i := 1) rfl)) (.keep (.keep (.keep (.keep (.keep (.keep (.drop .nil))))))) (fun s907 => (XTg.name (i := 6) rfl)) (fun x914 s907 => (Y.mapp (XP.var (i := 4) rfl) (XB.own (XB.cl2 o_min2 (XB.v (i := 5) rfl) (XB.op o_mod (XB.op o_ixL (XB.le (XB.v (i := 3) rfl) le_DL) (XB.v (i := 6) rfl)) (XB.op o_ixL (XO.view (XO.lst (n := 4) (e := eI) (XA.cons XB.int (XA.cons XB.int (XA.cons XB.int (XA.cons XB.int XA.nil)))) (fun t => [t.1, t.2.1, t.2.2.1, t.2.2.2.1]) (fun _ => rfl)) vw_ow) (XB.opc (XB.op o_ixL (XB.le (XB.v (i := 3) rfl) le_DL) XB.int) XB.int (fun _ => by decide)))))) (fun v_law_load_here => (Y.asg (i := 5) (XB.op o_I0 (XB.v (i := 5) rfl) (XB.op o_ixL (XB.vL (i := 4) rfl) (XB.v (i := 6) rfl))) (fun v_law_left => (Y.nx (s := (v_law_load_here, v_law_left)) (.keep (.keep (.keep (.keep (.keep (.keep (.drop .nil))))))))) rfl))))) (fun s907 => (Y.seq (N1 := fun j924 : (List Int) => [.val (fz eI) v_law_cell_here, .val (fz eI) v_law_tapes, .val (fz eI) v_law_most, .val (fz (eL eI)) v_law_some, .val (ow (fz eI)) j924, .val (fz eI) s907.2, .nil]) (Y.if0 (XT.tst (XB.op o_eqI (XB.cl1 o_sumL (XB.vL (i := 4) rfl)) XB.int)) (Y.mset (XB.own XB.int) (XP.var (i := 4) rfl) (XB.op o_mod (XB.op o_ixL (XB.le (XB.v (i := 3) rfl) le_DL) XB.int) (XB.v (i := 1) rfl)) (fun v_law_load_here => (Y.nx (s := v_law_load_here) (.keep (.keep (.keep (.keep (.keep (.keep (.drop .nil)))))))))) (Y.nx (s := s907.1) (.keep (.keep (.keep (.keep (.keep (.keep (.drop .nil))))))))) (fun j924 => (Y.ret (XB.own (XB.cl1 o_tupleL (XB.vL (i := 4) rfl))))))))) rfl)) rfl)) rfl)) ?_
  unfold b_law_load
  simp only [bind_ok, chk_ok, Res.bind_assoc]
theorem ok_Search____init (T : Tx K mg) : FnOk P w K mg base (L2.CX P w) 1 T.a_Search____init T.fd_Search____init ["self", "load"] (spI K mg (G_Search____init T.C_Search P w) (GI_Search____init T.C_Search P w) (fz eN) mt_Search____init) := by
  refine fn_okIN (n := 0) [true, false] (fun t => b_Search____init t.1 t.2.1) (fun ws t s_ => [.val (pin (ws.getD 0 .non) (obR T.C_Search (fr_Search_2 T.C_Search P w))) s_, .nil]) T.F_Search____init sc_Search____init (fun _ => by unfold mt_Search____init m_Search____init; rfl) (fun _ => rfl) (fun _ => rfl) (fun t ws s_ hw => by
    obtain ⟨w0, w1, rfl⟩ := len2 hw
    exact (.io rfl (.no .nil))) fun t ws cdv A outer s H E hw hr => ?_
  obtain ⟨v_self, v_load, _⟩ := t
  obtain ⟨w0, w1, rfl⟩ := len2 hw
  refine ⟨_, (pss_cons (ps_fld (pv 0) (pe_lst (pa_cons (pe_tup (pa_cons (pe_callTy (kTuple (K := K) rfl) (by rfl) T.b_tuple (by decide +kernel) (pa_cons (pv 1) pa_nil)) (pa_cons pe_int (pa_cons pe_non (pa_cons pe_non pa_nil))))) pa_nil)) (by rfl))
      (pss_cons (ps_fld (pv 0) (pe_disp1X (P := P) (w := w) (K := K) rfl rfl rfl (hu100 hr) (pe_callTy (kTuple (K := K) rfl) (by rfl) T.b_tuple (by decide +kernel) (pa_cons (pv 1) pa_nil)) pe_bl) (by rfl))
      pss_nil)), ?_⟩
  refine Y.eqM ((Y.fnew (i := 0) (f := "rows") rfl (show ("rows" : Str) ∉ ([] : List Str) by decide) (XO.lst (n := 1) (e := (e4 (eV eI) eI (eO eI) (eO (e3 (eV eI) eI eI)))) (XA.cons (XB.tup (n := 4) (e := (e4 (eV eI) eI (eO eI) (eO (e3 (eV eI) eI eI)))) (XA.cons (XB.cl1 o_tupleV (XB.v (i := 1) rfl)) (XA.cons XB.int (XA.cons (XB.cast (f := (eO eI)) XB.non (fun (t1072 : Unit) => (none : (Option Int))) (fun _ => rfl)) (XA.cons (XB.cast (f := (eO (e3 (eV eI) eI eI))) XB.non (fun (t1073 : Unit) => (none : (Option ((List Int) × Int × Int)))) (fun _ => rfl)) XA.nil)))) (fun t => (t.1, t.2.1, t.2.2.1, t.2.2.2.1)) (fun _ => rfl)) XA.nil) (fun t => [t.1]) (fun _ => rfl)) T.k_Search T.f_Search_rows (show (0 : Nat) < 1000 by decide) (fun y1074 => (Y.fnew (i := 0) (f := "known") rfl (show ("known" : Str) ∉ (["rows"] : List Str) by decide) (XO.ddisp (XB.cl1 o_tupleV (XB.v (i := 1) rfl)) XB.bl) T.k_Search T.f_Search_known (show (1 : Nat) < 1000 by decide) (fun y1075 => (Y.nx (s := (y1075, (y1074, v_self))) (.keep (.drop .nil)))))))) ?_
  unfold b_Search____init
  simp only [bind_ok, chk_ok, Res.bind_assoc]
theorem ok_rising_rows (T : Tx K mg) : FnOk P w K mg base (L2.CX P w) 1 T.a_rising_rows T.fd_rising_rows ["numbers"] (spP K mg G_rising_rows r_rising_rows mt_rising_rows) := by
  refine fn_ok (n := 3) r_rising_rows (fun t => b_rising_rows t.1) T.F_rising_rows sc_rising_rows (fun _ => by unfold mt_rising_rows m_rising_rows; rfl) (fun _ => rfl) (fun _ => rfl) fun t cdv A outer s H E hr => ?_
  obtain ⟨v_numbers, _⟩ := t
  refine ⟨_, (pss_cons (ps_set (i := 1) sc_rising_rows.nd rfl (Or.inl rfl) (pe_lst (pa_cons (pe_tup pa_nil) pa_nil)))
      (pss_cons (ps_for (passes_of rfl) rfl (piL (K := K) rfl (pv 0)) (pg_name (i := 2) sc_rising_rows.nd rfl (Or.inr rfl)) (pss_cons (ps_set (i := 1) sc_rising_rows.nd rfl (Or.inl rfl) (pe_op (kCatS (K := K) rfl) (pv 1) (pe_lc (own := [("row", 3)]) (g := gName 3) (tt := tYes) rfl sc_rising_rows.nd (piL (K := K) rfl (pv 1)) (blkOk_by (N := nm_rising_rows) (sc := defScope s_rising_rows) (by decide +kernel)) (fun _ _ _ _ _ => (pg_name (i := 3) sc_rising_rows.nd rfl (Or.inl rfl))) (fun _ _ _ _ _ => pts_nil) (fun _ _ _ _ _ => (pe_op (kCatA (K := K) rfl) (pv 3) (pe_tup (pa_cons (pv 2) pa_nil))))))) pss_nil))
      (pss_cons (ps_ret (pv 1))
      pss_nil))), ?_⟩
  refine Y.eqM ((Y.asgO (i := 1) (XO.lst (n := 1) (e := (eV eI)) (XA.cons (XB.cast (f := (eV eI)) (XB.tup (n := 0) (e := e0) XA.nil (fun t => ()) (fun _ => rfl)) (fun (t1129 : Unit) => ([] : List Int)) (fun _ => rfl)) XA.nil) (fun t => [t.1]) (fun _ => rfl)) (fun v_found => (Y.seq (Y.for0 (N1 := fun s1130 : (List (List Int)) => [.val (fz (eL eI)) v_numbers, .val (ow (fz (eV eI))) s1130, .nil, .nil]) (s0 := v_found) (XI.list (XB.v (i := 0) rfl)) (.keep (.keep (.drop (.drop .nil)))) (fun s1130 => (XTg.name (i := 2) rfl)) (fun x1132 s1130 => (Y.frz (i := 1) rfl (frz_ow frz_fz) (Y.asgO (i := 1) (XO.op o_cat (XB.le (XB.v (i := 1) rfl) le_DL) (XO.view (XO.lc (vs := [3]) (XI.list (XB.v (i := 1) rfl)) (XTg.name (i := 3) rfl) (fun x1133 => XT.yes) (fun x1133 => (XB.own (XB.op o_catA (XB.v (i := 3) rfl) (XB.cast (f := (eV eI)) (XB.tup (n := 1) (e := (e1 eI)) (XA.cons (XB.v (i := 2) rfl) XA.nil) (fun t => t.1) (fun _ => rfl)) (fun (t1134 : (Int)) => [t1134]) (fun _ => rfl))))) (fun _ _ _ _ _ h => h)) vw_ow)) (fun v_found => (Y.nx (s := v_found) (.keep (.keep (.drop (.drop .nil)))))) rfl)))) (fun s1130 => (Y.retV (i := 1) rfl)))) rfl)) ?_
  unfold b_rising_rows
  simp only [bind_ok, chk_ok, Res.bind_assoc]
theorem ok_pours_of (T : Tx K mg) : FnOk P w K mg base (L2.CX P w) 2 T.a_pours_of T.fd_pours_of ["load"] (spP K mg G_pours_of r_pours_of mt_pours_of) := by
  refine fn_ok (n := 6) r_pours_of (fun t => b_pours_of t.1) T.F_pours_of sc_pours_of (fun _ => by unfold mt_pours_of m_pours_of; rfl) (fun _ => rfl) (fun _ => rfl) fun t cdv A outer s H E hr => ?_
  obtain ⟨v_load, _⟩ := t
  refine ⟨_, (pss_cons (ps_set (i := 1) sc_pours_of.nd rfl (Or.inl rfl) (pe_lst pa_nil))
      (pss_cons (ps_for (passes_of rfl) rfl (piL (K := K) rfl (pe_callB (kSortE (K := K) rfl (hu100 hr)) (by rfl) T.b_sorted (by decide +kernel) (pa_cons (pe_callS (ok_rising_rows T) (hr.mono (by decide)) (by rfl) T.g_rising_rows T.F_rising_rows.kp T.n_rising_rows (passAt (takes_of rfl rfl rfl rfl)) (pa_cons (pe_listRg rfl rfl T.b_list (prg_1 rfl T.b_range (pe_callB (kLen (K := K) rfl) (by rfl) T.b_len (by decide +kernel) (pa_cons (pv 0) pa_nil)))) pa_nil)) pa_nil))) (pg_name (i := 2) sc_pours_of.nd rfl (Or.inr rfl)) (pss_cons (ps_if (pt_chain op_le op_lt pe_int (pe_callB (kLen (K := K) rfl) (by rfl) T.b_len (by decide +kernel) (pa_cons (pv 2) pa_nil)) (pe_callB (kLen (K := K) rfl) (by rfl) T.b_len (by decide +kernel) (pa_cons (pv 0) pa_nil))) (pss_cons (ps_set (i := 3) sc_pours_of.nd rfl (Or.inl rfl) (pe_callB (kMin (K := K) rfl rfl (hu100 hr)) (by rfl) T.b_min (by decide +kernel) (pa_cons (pe_lc (own := [("tape", 5)]) (g := gName 5) (tt := tYes) rfl sc_pours_of.nd (piT (K := K) rfl (pv 2)) (blkOk_by (N := nm_pours_of) (sc := defScope s_pours_of) (by decide +kernel)) (fun _ _ _ _ _ => (pg_name (i := 5) sc_pours_of.nd rfl (Or.inl rfl))) (fun _ _ _ _ _ => pts_nil) (fun _ _ _ _ _ => (pe_ix (kIxT (K := K) rfl) (pv 0) (pv 5) (fun _ _ => rfl)))) pa_nil))) (pss_cons (ps_for (passes_of rfl) rfl (pi_range1 rfl T.b_range (pa_cons (pe_callB (kLen (K := K) rfl) (by rfl) T.b_len (by decide +kernel) (pa_cons (pv 0) pa_nil)) pa_nil)) (pg_name (i := 4) sc_pours_of.nd rfl (Or.inr rfl)) (pss_cons (ps_if (pt_cmpR (kNiP (K := K) rfl (hu100 hr)) (pv 4) (pv 2) (by rfl)) (pss_cons (ps_expr (pe_bm PySem.F.plainAttrs_list PySem.F.slot_list_extend PySem.F.type_list_extend mt_extS (pv 1) (pa_cons (pe_lc (own := [("times", 6)]) (g := gName 6) (tt := tYes) rfl sc_pours_of.nd (pi_range2 rfl T.b_range (pa_cons pe_int (pa_cons (pe_op op_add (pv 3) pe_int) pa_nil))) (blkOk_by (N := nm_pours_of) (sc := defScope s_pours_of) (by decide +kernel)) (fun _ _ _ _ _ => (pg_name (i := 6) sc_pours_of.nd rfl (Or.inl rfl))) (fun _ _ _ _ _ => pts_nil) (fun _ _ _ _ _ => (pe_tup (pa_cons (pv 2) (pa_cons (pv 4) (pa_cons (pv 6) pa_nil)))))) pa_nil))) pss_nil) pss_nil) pss_nil)) pss_nil)) pss_nil) pss_nil))
      (pss_cons (ps_ret (pv 1))
      pss_nil))), ?_⟩
  refine Y.eqM ((Y.asgO (i := 1) (XO.lstG (r := (fz (e3 (eV eI) eI eI))) XG.nil (fun t => []) (fun _ => rfl) 0) (fun v_found => (Y.seq (Y.for0 (N1 := fun s1080 : (List ((List Int) × Int × Int)) => [.val (fz (eV eI)) v_load, .val (ow (fz (e3 (eV eI) eI eI))) s1080, .nil, .nil, .nil, .nil, .nil]) (s0 := v_found) (XI.list (XO.frz (XO.cl1 (o_sortLE (e := eI)) (XO.view (XO.call (G := G_rising_rows) (r := r_rising_rows) (m := mt_rising_rows) (XG.cons (XB.own (XO.frz (XO.lrg (XB.cl1 o_lenV (XB.v (i := 0) rfl))) (frz_ow frz_fz))) XG.nil)) vw_ow)) (frz_ow frz_fz))) (.keep (.keep (.drop (.drop (.drop (.drop (.drop .nil))))))) (fun s1080 => (XTg.name (i := 2) rfl)) (fun x1102 s1080 => (Y.seq (N1 := fun j1113 : (List ((List Int) × Int × Int)) => [.val (fz (eV eI)) v_load, .val (ow (fz (e3 (eV eI) eI eI))) j1113, .val (fz (eV eI)) x1102, .nil, .nil, .nil, .nil]) (Y.if0 (XT.tst (XB.chain XB.int (XB.cl1 o_lenV (XB.v (i := 2) rfl)) (XB.cl1 o_lenV (XB.v (i := 0) rfl)))) (Y.asg (i := 3) (XB.cl1 (o_extL (e := eI)) (XO.view (XO.lc (vs := [5]) (XI.tup (XB.v (i := 2) rfl)) (XTg.name (i := 5) rfl) (fun x1114 => XT.yes) (fun x1114 => (XB.own (XB.op o_ixV (XB.v (i := 0) rfl) (XB.v (i := 5) rfl)))) (fun _ _ _ _ _ h => h)) vw_ow)) (fun v_most => (Y.seq (Y.for0 (N1 := fun s1116 : (List ((List Int) × Int × Int)) => [.val (fz (eV eI)) v_load, .val (ow (fz (e3 (eV eI) eI eI))) s1116, .val (fz (eV eI)) x1102, .val (fz eI) v_most, .nil, .nil, .nil]) (s0 := s1080) (XI.rng1 (XB.cl1 o_lenV (XB.v (i := 0) rfl))) (.keep (.keep (.keep (.keep (.drop (.drop (.drop .nil))))))) (fun s1116 => (XTg.name (i := 4) rfl)) (fun x1120 s1116 => (Y.seq (N1 := fun j1122 : (List ((List Int) × Int × Int)) => [.val (fz (eV eI)) v_load, .val (ow (fz (e3 (eV eI) eI eI))) j1122, .val (fz (eV eI)) x1102, .val (fz eI) v_most, .val (fz eI) x1120, .nil, .nil]) (Y.if0 (XT.tst (XB.op o_niV (XB.le (XB.v (i := 4) rfl) le_DH) (XB.v (i := 2) rfl))) (Y.mext (XP.var (i := 1) rfl) (XO.view (XO.lc (vs := [6]) (XI.rng2 XB.int (XB.op o_I0 (XB.v (i := 3) rfl) XB.int)) (XTg.name (i := 6) rfl) (fun x1123 => XT.yes) (fun x1123 => (XB.own (XB.tup (n := 3) (e := (e3 (eV eI) eI eI)) (XA.cons (XB.v (i := 2) rfl) (XA.cons (XB.v (i := 4) rfl) (XA.cons (XB.v (i := 6) rfl) XA.nil))) (fun t => (t.1, t.2.1, t.2.2.1)) (fun _ => rfl)))) (fun _ _ _ _ _ h => h)) vw_ow) (fun v_found => (Y.nx (s := v_found) (.keep (.keep (.keep (.keep (.keep (.drop (.drop .nil)))))))))) (Y.nx (s := s1116) (.keep (.keep (.keep (.keep (.keep (.drop (.drop .nil))))))))) (fun j1122 => (Y.nx (s := j1122) (.keep (.keep (.keep (.keep (.drop (.drop (.drop .nil)))))))))))) (fun s1116 => (Y.nx (s := s1116) (.keep (.keep (.keep (.drop (.drop (.drop (.drop .nil))))))))))) rfl) (Y.nx (s := s1080) (.keep (.keep (.keep (.drop (.drop (.drop (.drop .nil))))))))) (fun j1113 => (Y.nx (s := j1113) (.keep (.keep (.drop (.drop (.drop (.drop (.drop .nil)))))))))))) (fun s1080 => (Y.retV (i := 1) rfl)))) rfl)) ?_
  unfold b_pours_of
  simp only [bind_ok, chk_ok, Res.bind_assoc]
theorem ok_is_below (T : Tx K mg) : FnOk P w K mg base (L2.CX P w) 1 T.a_is_below T.fd_is_below ["thing", "count"] (spP K mg G_is_below r_is_below mt_is_below) := by
  refine fn_ok (n := 0) r_is_below (fun t => b_is_below t.1 t.2.1) T.F_is_below sc_is_below (fun _ => by unfold mt_is_below m_is_below; rfl) (fun _ => rfl) (fun _ => rfl) fun t cdv A outer s H E hr => ?_
  obtain ⟨v_thing, v_count, _⟩ := t
  refine ⟨_, (pss_cons (ps_ret (pe_and (pe_callB (kIsi (K := K) rfl) (by rfl) T.b_isinstance (by decide +kernel) (pa_cons (pv 0) (pa_cons (pe_bltn (v := .ty "int") (by rfl) T.b_int (by decide +kernel) rfl) pa_nil))) (pe_and (pe_not (pe_callB (kIsi (K := K) rfl) (by rfl) T.b_isinstance (by decide +kernel) (pa_cons (pv 0) (pa_cons (pe_bltn (v := .ty "bool") (by rfl) T.b_bool (by decide +kernel) rfl) pa_nil)))) (pe_one (pe_chain op_le op_lt pe_int (pv 0) (pv 1))))))
      pss_nil), ?_⟩
  refine Y.eqM ((Y.ret (XB.own (XB.andV (XB.isiT (e := eI) (T := "int") (b := true) (XB.le (XB.v (i := 0) rfl) le_DH) (fun _ => by rfl)) (XB.andV (XB.notV (XB.isiT (e := eI) (T := "bool") (b := false) (XB.le (XB.v (i := 0) rfl) le_DH) (fun _ => by rfl))) (XB.chain XB.int (XB.v (i := 0) rfl) (XB.v (i := 1) rfl))))))) ?_
  unfold b_is_below
  simp only [bind_ok, chk_ok, Res.bind_assoc]
theorem ok_are_froms (T : Tx K mg) : FnOk P w K mg base (L2.CX P w) 2 T.a_are_froms T.fd_are_froms ["froms", "tapes"] (spP K mg G_are_froms r_are_froms mt_are_froms) := by
  refine fn_ok (n := 2) r_are_froms (fun t => b_are_froms t.1 t.2.1) T.F_are_froms sc_are_froms (fun _ => by unfold mt_are_froms m_are_froms; rfl) (fun _ => rfl) (fun _ => rfl) fun t cdv A outer s H E hr => ?_
  obtain ⟨v_froms, v_tapes, _⟩ := t
  refine ⟨_, (pss_cons (ps_if (PW.pt (pw_or (pt_not (pt_val (pe_callB (kIsi (K := K) rfl) (by rfl) T.b_isinstance (by decide +kernel) (pa_cons (pv 0) (pa_cons (pe_bltn (v := .ty "tuple") (by rfl) T.b_tuple (by decide +kernel) rfl) pa_nil))))) (pw_or (pt_cmpR op_lt (pe_callB (kLen (K := K) rfl) (by rfl) T.b_len (by decide +kernel) (pa_cons (pv 0) pa_nil)) pe_int (nomark _)) (pw_or1 (pt_cmpR op_gt (pe_callB (kLen (K := K) rfl) (by rfl) T.b_len (by decide +kernel) (pa_cons (pv 0) pa_nil)) (pe_glob (v := .int 5) (by rfl) T.c_MOST_FROMS.choose_spec ⟨_, rfl⟩) (nomark _)))))) (pss_cons (ps_ret pe_bl) pss_nil) pss_nil)
      (pss_cons (ps_set (i := 2) sc_are_froms.nd rfl (Or.inl rfl) (pe_un un_neg pe_int))
      (pss_cons (ps_for (passes_of rfl) rfl (piT (K := K) rfl (pv 0)) (pg_name (i := 3) sc_are_froms.nd rfl (Or.inl rfl)) (pss_cons (ps_if (PW.pt (pw_or (pt_not (pt_val (pe_callS (ok_is_below T) (hr.mono (by decide)) (by rfl) T.g_is_below T.F_is_below.kp T.n_is_below (passAt (takes_of rfl rfl rfl rfl)) (pa_cons (pv 3) (pa_cons (pv 1) pa_nil))))) (pw_or1 (pt_cmpR op_le (pv 3) (pv 2) (nomark _))))) (pss_cons (ps_ret pe_bl) pss_nil) pss_nil) (pss_cons (ps_set (i := 2) sc_are_froms.nd rfl (Or.inl rfl) (pv 3)) pss_nil)))
      (pss_cons (ps_ret pe_bl)
      pss_nil)))), ?_⟩
  refine Y.eqM ((Y.ifT (XT.or (XT.not (XT.tB (XB.isiT (e := (eV eI)) (T := "tuple") (b := true) (XB.le (XB.v (i := 0) rfl) le_DH) (fun _ => by rfl)))) (XT.or (XT.tst (XB.op o_B0 (XB.cl1 o_lenV (XB.v (i := 0) rfl)) XB.int)) (XT.tst (XB.op o_B0 (XB.cl1 o_lenV (XB.v (i := 0) rfl)) XB.int)))) (Y.ret (XB.own XB.bl)) (Y.asg (i := 2) (XB.neg XB.int) (fun v_last => (Y.seq (Y.for0 (N1 := fun s1176 : Int => [.val (fz (eV eI)) v_froms, .val (fz eI) v_tapes, .val (fz eI) s1176, .nil]) (s0 := v_last) (XI.tup (XB.v (i := 0) rfl)) (.keep (.keep (.keep (.drop .nil)))) (fun s1176 => (XTg.name (i := 3) rfl)) (fun x1178 s1176 => (Y.ifT (XT.or (XT.not (XT.tB (XO.view (XO.call (G := G_is_below) (r := r_is_below) (m := mt_is_below) (XG.cons (XB.own (XB.v (i := 3) rfl)) (XG.cons (XB.own (XB.v (i := 1) rfl)) XG.nil))) vw_fz))) (XT.tst (XB.op o_B0 (XB.v (i := 3) rfl) (XB.v (i := 2) rfl)))) (Y.ret (XB.own XB.bl)) (Y.asg (i := 2) (XB.v (i := 3) rfl) (fun v_last => (Y.nx (s := v_last) (.keep (.keep (.keep (.drop .nil)))))) rfl)))) (fun s1176 => (Y.ret (XB.own XB.bl))))) rfl))) ?_
  unfold b_are_froms
  simp only [bind_ok, chk_ok, Res.bind_assoc]
theorem ok_is_pour (T : Tx K mg) : FnOk P w K mg base (L2.CX P w) 3 T.a_is_pour T.fd_is_pour ["pour", "tapes"] (spP K mg G_is_pour r_is_pour mt_is_pour) := by
  refine fn_ok (n := 0) r_is_pour (fun t => b_is_pour t.1 t.2.1) T.F_is_pour sc_is_pour (fun _ => by unfold mt_is_pour m_is_pour; rfl) (fun _ => rfl) (fun _ => rfl) fun t cdv A outer s H E hr => ?_
  obtain ⟨v_pour, v_tapes, _⟩ := t
  refine ⟨_, (pss_cons (ps_if (PW.pt (pw_or (pt_cmpR op_ne (pe_callB (kLen (K := K) rfl) (by rfl) T.b_len (by decide +kernel) (pa_cons (pv 0) pa_nil)) pe_int (nomark _)) (pw_or (pt_not (pt_val (pe_callS (ok_are_froms T) (hr.mono (by decide)) (by rfl) T.g_are_froms T.F_are_froms.kp T.n_are_froms (passAt (takes_of rfl rfl rfl rfl)) (pa_cons (pe_ix (kIxT (K := K) rfl) (pv 0) pe_int (fun _ _ => rfl)) (pa_cons (pv 1) pa_nil))))) (pw_or (pt_not (pt_val (pe_callS (ok_is_below T) (hr.mono (by decide)) (by rfl) T.g_is_below T.F_is_below.kp T.n_is_below (passAt (takes_of rfl rfl rfl rfl)) (pa_cons (pe_ix (kIxT (K := K) rfl) (pv 0) pe_int (fun _ _ => rfl)) (pa_cons (pv 1) pa_nil))))) (pw_or1 (pt_cmpR (kInP (K := K) rfl (hu100 hr)) (pe_ix (kIxT (K := K) rfl) (pv 0) pe_int (fun _ _ => rfl)) (pe_ix (kIxT (K := K) rfl) (pv 0) pe_int (fun _ _ => rfl)) (by rfl))))))) (pss_cons (ps_ret pe_bl) pss_nil) pss_nil)
      (pss_cons (ps_ret (pe_and (pe_callB (kIsi (K := K) rfl) (by rfl) T.b_isinstance (by decide +kernel) (pa_cons (pe_ix (kIxT (K := K) rfl) (pv 0) pe_int (fun _ _ => rfl)) (pa_cons (pe_bltn (v := .ty "int") (by rfl) T.b_int (by decide +kernel) rfl) pa_nil))) (pe_and (pe_not (pe_callB (kIsi (K := K) rfl) (by rfl) T.b_isinstance (by decide +kernel) (pa_cons (pe_ix (kIxT (K := K) rfl) (pv 0) pe_int (fun _ _ => rfl)) (pa_cons (pe_bltn (v := .ty "bool") (by rfl) T.b_bool (by decide +kernel) rfl) pa_nil)))) (pe_one (pe_cmpR op_gt (pe_ix (kIxT (K := K) rfl) (pv 0) pe_int (fun _ _ => rfl)) pe_int (nomark _))))))
      pss_nil)), ?_⟩
  refine Y.eqM ((Y.ifT (XT.or (XT.tst (XB.op o_neI (XB.cl1 o_lenV (XB.cast (f := (eV eA)) (XB.v (i := 0) rfl) (fun (t1170 : ((List Int) × Int × Int)) => [((eV eI) t1170.1), (eI t1170.2.1), (eI t1170.2.2)]) (fun _ => rfl))) XB.int)) (XT.or (XT.not (XT.tB (XO.view (XO.call (G := G_are_froms) (r := r_are_froms) (m := mt_are_froms) (XG.cons (XB.own (XB.proj (f := (eV eI)) (g := fun (x : ((List Int) × Int × Int)) => x.1) 0 (XB.v (i := 0) rfl) XB.int (fun _ => rfl) (fun _ => rfl))) (XG.cons (XB.own (XB.v (i := 1) rfl)) XG.nil))) vw_fz))) (XT.or (XT.not (XT.tB (XO.view (XO.call (G := G_is_below) (r := r_is_below) (m := mt_is_below) (XG.cons (XB.own (XB.proj (f := eI) (g := fun (x : ((List Int) × Int × Int)) => x.2.1) 1 (XB.v (i := 0) rfl) XB.int (fun _ => rfl) (fun _ => rfl))) (XG.cons (XB.own (XB.v (i := 1) rfl)) XG.nil))) vw_fz))) (XT.tst (XB.op o_inV (XB.le (XB.proj (f := eI) (g := fun (x : ((List Int) × Int × Int)) => x.2.1) 1 (XB.v (i := 0) rfl) XB.int (fun _ => rfl) (fun _ => rfl)) le_DH) (XB.proj (f := (eV eI)) (g := fun (x : ((List Int) × Int × Int)) => x.1) 0 (XB.v (i := 0) rfl) XB.int (fun _ => rfl) (fun _ => rfl))))))) (Y.ret (XB.own XB.bl)) (Y.ret (XB.own (XB.andV (XB.isiT (e := eI) (T := "int") (b := true) (XB.le (XB.proj (f := eI) (g := fun (x : ((List Int) × Int × Int)) => x.2.2) 2 (XB.v (i := 0) rfl) XB.int (fun _ => rfl) (fun _ => rfl)) le_DH) (fun _ => by rfl)) (XB.andV (XB.notV (XB.isiT (e := eI) (T := "bool") (b := false) (XB.le (XB.proj (f := eI) (g := fun (x : ((List Int) × Int × Int)) => x.2.2) 2 (XB.v (i := 0) rfl) XB.int (fun _ => rfl) (fun _ => rfl)) le_DH) (fun _ => by rfl))) (XB.op o_B0 (XB.proj (f := eI) (g := fun (x : ((List Int) × Int × Int)) => x.2.2) 2 (XB.v (i := 0) rfl) XB.int (fun _ => rfl) (fun _ => rfl)) XB.int))))))) ?_
  unfold b_is_pour
  simp only [bind_ok, chk_ok, Res.bind_assoc]
theorem ok_load_behind (T : Tx K mg) : FnOk P w K mg base (L2.CX P w) 4 T.a_load_behind T.fd_load_behind ["load", "plan"] (spP K mg G_load_behind r_load_behind mt_load_behind) := by
  refine fn_ok (n := 7) r_load_behind (fun t => b_load_behind t.1 t.2.1) T.F_load_behind sc_load_behind (fun _ => by unfold mt_load_behind m_load_behind; rfl) (fun _ => rfl) (fun _ => rfl) fun t cdv A outer s H E hr => ?_
  obtain ⟨v_load, v_plan, _⟩ := t
  refine ⟨_, (pss_cons (ps_set (i := 2) sc_load_behind.nd rfl (Or.inl rfl) (pe_callTy (kList (K := K) rfl) (by rfl) T.b_list (by decide +kernel) (pa_cons (pv 0) pa_nil)))
      (pss_cons (ps_for (passes_of rfl) rfl (pi_enumA (by rfl) T.b_enumerate (pa_cons (pv 1) pa_nil)) (pg_tup rfl (pgs_cons (pg_name (i := 3) sc_load_behind.nd rfl (Or.inl rfl)) (pgs_cons (pg_name (i := 4) sc_load_behind.nd rfl (Or.inl rfl)) pgs_nil))) (pss_cons (ps_if (pt_not (pt_val (pe_callS (ok_is_pour T) (hr.mono (by decide)) (by rfl) T.g_is_pour T.F_is_pour.kp T.n_is_pour (passAt (takes_of rfl rfl rfl rfl)) (pa_cons (pv 4) (pa_cons (pe_callB (kLen (K := K) rfl) (by rfl) T.b_len (by decide +kernel) (pa_cons (pv 2) pa_nil)) pa_nil))))) (pss_cons (ps_never) pss_nil) pss_nil) (pss_cons (ps_asg (pv 4) (pg_tup rfl (pgs_cons (pg_name (i := 5) sc_load_behind.nd rfl (Or.inl rfl)) (pgs_cons (pg_name (i := 6) sc_load_behind.nd rfl (Or.inl rfl)) (pgs_cons (pg_name (i := 7) sc_load_behind.nd rfl (Or.inl rfl)) pgs_nil))))) (pss_cons (ps_for (passes_of rfl) rfl (piT (K := K) rfl (pv 5)) (pg_name (i := 8) sc_load_behind.nd rfl (Or.inl rfl)) (pss_cons (ps_if (pt_cmpR op_lt (pe_ix (kIxL (K := K) rfl) (pv 2) (pv 8) (fun _ _ => rfl)) (pv 7) (nomark _)) (pss_cons (ps_never) pss_nil) pss_nil) (pss_cons (ps_augS (pv 2) (pv 8) get_list (pv 7) ip_sub set_list) pss_nil))) (pss_cons (ps_augS (pv 2) (pv 6) get_list (pv 7) ip_add set_list) pss_nil)))))
      (pss_cons (ps_ret (pe_callTy (kTuple (K := K) rfl) (by rfl) T.b_tuple (by decide +kernel) (pa_cons (pv 2) pa_nil)))
      pss_nil))), ?_⟩
  refine Y.eqM ((Y.asgO (i := 2) (XO.cl1 o_listV (XB.v (i := 0) rfl)) (fun v_numbers => (Y.seq (Y.for0 (N1 := fun s1147 : (List Int) => [.val (fz (eV eI)) v_load, .val (fz (eL (e3 (eV eI) eI eI))) v_plan, .val (ow (fz eI)) s1147, .nil, .nil, .nil, .nil, .nil, .nil]) (s0 := v_numbers) (XI.enumL (XB.v (i := 1) rfl)) (.keep (.keep (.keep (.drop (.drop (.drop (.drop (.drop (.drop .nil))))))))) (fun s1147 => (XTg.pair (i := 3) (j := 4) rfl rfl)) (fun x1157 s1147 => (Y.ifT (XT.not (XT.tB (XO.view (XO.call (G := G_is_pour) (r := r_is_pour) (m := mt_is_pour) (XG.cons (XB.own (XB.v (i := 4) rfl)) (XG.cons (XB.own (XB.cl1 o_lenL (XB.vL (i := 2) rfl))) XG.nil))) vw_fz))) Y.never (Y.asgT (XB.v (i := 4) rfl) (XTg.trip (i := 5) (j := 6) (k := 7) rfl rfl rfl) (fun p1159 => (Y.seq (Y.for0 (N1 := fun s1160 : (List Int) => [.val (fz (eV eI)) v_load, .val (fz (eL (e3 (eV eI) eI eI))) v_plan, .val (ow (fz eI)) s1160, .val (fz eI) x1157.1, .val (fz (e3 (eV eI) eI eI)) x1157.2, .val (fz (eV eI)) p1159.1, .val (fz eI) p1159.2.1, .val (fz eI) p1159.2.2, .nil]) (s0 := s1147) (XI.tup (XB.v (i := 5) rfl)) (.keep (.keep (.keep (.keep (.keep (.keep (.keep (.keep (.drop .nil))))))))) (fun s1160 => (XTg.name (i := 8) rfl)) (fun x1163 s1160 => (Y.ifT (XT.tst (XB.op o_B0 (XB.op o_ixL (XB.vL (i := 2) rfl) (XB.v (i := 8) rfl)) (XB.v (i := 7) rfl))) Y.never (Y.augI (i := 2) rfl (XB.v (i := 8) rfl) (XB.v (i := 7) rfl) (fun v_numbers => (Y.nx (s := v_numbers) (.keep (.keep (.keep (.keep (.keep (.keep (.keep (.keep (.drop .nil))))))))))))))) (fun s1160 => (Y.augI (i := 2) rfl (XB.v (i := 6) rfl) (XB.v (i := 7) rfl) (fun v_numbers => (Y.nx (s := v_numbers) (.keep (.keep (.keep (.drop (.drop (.drop (.drop (.drop (.drop .nil))))))))))))))))))) (fun s1147 => (Y.ret (XB.own (XB.cl1 o_tupleL (XB.vL (i := 2) rfl))))))) rfl)) ?_
  unfold b_load_behind
  simp only [bind_ok, chk_ok, Res.bind_assoc]
theorem ok_Search__come_to (T : Tx K mg) : FnOk P w K mg base (L2.CX P w) 5 T.a_Search__come_to T.fd_Search__come_to ["self", "place", "pour"] (spI K mg (G_Search__come_to T.C_Search P w) (GI_Search__come_to T.C_Search P w) r_Search__come_to mt_Search__come_to) := by
  refine fn_okI (n := 3) [true, false, false] r_Search__come_to (fun t => b_Search__come_to t.1 t.2.1 t.2.2.1) T.F_Search__come_to sc_Search__come_to (fun _ => by unfold mt_Search__come_to m_Search__come_to; rfl) (fun _ => rfl) (fun _ => rfl) fun t ws cdv A outer s H E hw hr => ?_
  obtain ⟨v_self, v_place, v_pour, _⟩ := t
  obtain ⟨w0, w1, w2, rfl⟩ := len3 hw
  refine ⟨_, (pss_cons (ps_asg (pe_slice (kSlA (K := K) rfl) (pe_ix (kIxL (K := K) rfl) (pe_fld (pv 0) (by rfl)) (pv 1) (fun _ _ => rfl)) po_none (po_some pe_int)) (pg_tup rfl (pgs_cons (pg_name (i := 3) sc_Search__come_to.nd rfl (Or.inl rfl)) (pgs_cons (pg_name (i := 4) sc_Search__come_to.nd rfl (Or.inl rfl)) pgs_nil))))
      (pss_cons (ps_set (i := 5) sc_Search__come_to.nd rfl (Or.inl rfl) (pe_callS (ok_load_behind T) (hr.mono (by decide)) (by rfl) T.g_load_behind T.F_load_behind.kp T.n_load_behind (passAt (takes_of rfl rfl rfl rfl)) (pa_cons (pv 3) (pa_cons (pe_lst (pa_cons (pv 2) pa_nil)) pa_nil))))
      (pss_cons (ps_if (pt_cmpR (op_dinX (P := P) (w := w) (K := K) rfl rfl rfl (hu100 hr)) (pv 5) (pe_fld (pv 0) (by rfl)) (by rfl)) (pss_cons (ps_ret pe_bl) pss_nil) pss_nil)
      (pss_cons (ps_if (pt_cmpR op_eq (pe_callB (kLen (K := K) rfl) (by rfl) T.b_len (by decide +kernel) (pa_cons (pe_fld (pv 0) (by rfl)) pa_nil)) (pe_glob (v := .int 4000) (by rfl) T.c_MOST_LOADS.choose_spec ⟨_, rfl⟩) (nomark _)) (pss_cons (ps_never) pss_nil) pss_nil)
      (pss_cons (ps_dputX (P := P) (w := w) (K := K) rfl rfl rfl (hu100 hr) (pe_fld (pv 0) (by rfl)) (pv 5) pe_bl (by rfl))
      (pss_cons (ps_expr (pe_bm PySem.F.plainAttrs_list PySem.F.slot_list_append PySem.F.type_list_append mt_append (pe_fld (pv 0) (by rfl)) (pa_cons (pe_tup (pa_cons (pv 5) (pa_cons (pe_op op_add (pv 4) pe_int) (pa_cons (pv 1) (pa_cons (pv 2) pa_nil))))) pa_nil)))
      (pss_cons (ps_ret (pe_cmpR op_eq (pe_callB (kSum (K := K) rfl rfl) (by rfl) T.b_sum (by decide +kernel) (pa_cons (pv 5) pa_nil)) pe_int (nomark _)))
      pss_nil))))))), ?_⟩
  refine Y.eqM ((Y.asgT (XB.cut42 (XB.op o_ixL (XB.fld (i := 0) rfl (fat_Search_rows T.C_Search P w) vw_ow T.k_Search T.f_Search_rows) (XB.v (i := 1) rfl))) (XTg.pair (i := 3) (j := 4) rfl rfl) (fun p1138 => (Y.asg (i := 5) (XO.view (XO.call (G := G_load_behind) (r := r_load_behind) (m := mt_load_behind) (XG.cons (XB.own (XB.v (i := 3) rfl)) (XG.cons (XB.own (XO.frz (XO.lst (n := 1) (e := (e3 (eV eI) eI eI)) (XA.cons (XB.v (i := 2) rfl) XA.nil) (fun t => [t.1]) (fun _ => rfl)) (frz_ow frz_fz))) XG.nil))) vw_fz) (fun v_behind => (Y.ifT (XT.tst (XB.op (o_dinT (P := P) (w := w)) (XB.v (i := 5) rfl) (XB.fld (i := 0) rfl (fat_Search_known T.C_Search P w) vw_dt T.k_Search T.f_Search_known))) (Y.retI (M := (fun (s1140 : Unit) => [.val (pin w0 (obR T.C_Search (fr_Search_2 T.C_Search P w))) v_self, .val (fz eI) v_place, .val (fz (e3 (eV eI) eI eI)) v_pour, .val (fz (eV eI)) p1138.1, .val (fz eI) p1138.2, .val (fz (eV eI)) v_behind])) (y := fun s1139 => v_self) (XE.own (XE.of () XB.bl rfl)) (fun _ => (.io rfl (.no (.no .nil))))) (Y.ifT (XT.tst (XB.op o_eqI (XB.cl1 o_lenL (XB.fld (i := 0) rfl (fat_Search_rows T.C_Search P w) vw_ow T.k_Search T.f_Search_rows)) XB.int)) Y.never (Y.dputP XB.bl (XP.fld (XP.var (i := 0) rfl) (fat_Search_known T.C_Search P w) T.k_Search T.f_Search_known) (XB.v (i := 5) rfl) (fun v_self => (Y.mapp (XP.fld (XP.var (i := 0) rfl) (fat_Search_rows T.C_Search P w) T.k_Search T.f_Search_rows) (XB.own (XB.tup (n := 4) (e := (e4 (eV eI) eI (eO eI) (eO (e3 (eV eI) eI eI)))) (XA.cons (XB.v (i := 5) rfl) (XA.cons (XB.op o_I0 (XB.v (i := 4) rfl) XB.int) (XA.cons (XB.cast (f := (eO eI)) (XB.v (i := 1) rfl) (fun (t1141 : Int) => (some t1141)) (fun _ => rfl)) (XA.cons (XB.cast (f := (eO (e3 (eV eI) eI eI))) (XB.v (i := 2) rfl) (fun (t1142 : ((List Int) × Int × Int)) => (some t1142)) (fun _ => rfl)) XA.nil)))) (fun t => (t.1, t.2.1, t.2.2.1, t.2.2.2.1)) (fun _ => rfl))) (fun v_self => (Y.retI (M := (fun (s1144 : Unit) => [.val (pin w0 (obR T.C_Search (fr_Search_2 T.C_Search P w))) v_self, .val (fz eI) v_place, .val (fz (e3 (eV eI) eI eI)) v_pour, .val (fz (eV eI)) p1138.1, .val (fz eI) p1138.2, .val (fz (eV eI)) v_behind])) (y := fun s1143 => v_self) (XE.own (XE.of () (XB.op o_eqI (XB.cl1 o_sumV (XB.v (i := 5) rfl)) XB.int) rfl)) (fun _ => (.io rfl (.no (.no .nil)))))))))))) rfl)))) ?_
  unfold b_Search__come_to
  simp only [bind_ok, chk_ok, Res.bind_assoc]
theorem ok_Search__plan_to (T : Tx K mg) : FnOk P w K mg base (L2.CX P w) 1 T.a_Search__plan_to T.fd_Search__plan_to ["self", "place"] (spI K mg (G_Search__plan_to T.C_Search P w) (GI_Search__plan_to T.C_Search P w) r_Search__plan_to mt_Search__plan_to) := by
  refine fn_okI (n := 1) [true, false] r_Search__plan_to (fun t => b_Search__plan_to t.1 t.2.1) T.F_Search__plan_to sc_Search__plan_to (fun _ => by unfold mt_Search__plan_to m_Search__plan_to; rfl) (fun _ => rfl) (fun _ => rfl) fun t ws cdv A outer s H E hw hr => ?_
  obtain ⟨v_self, v_place, _⟩ := t
  obtain ⟨w0, w1, rfl⟩ := len2 hw
  refine ⟨_, (pss_cons (ps_set (i := 2) sc_Search__plan_to.nd rfl (Or.inl rfl) (pe_lst pa_nil))
      (pss_cons (ps_while (passes_of rfl) (pt_cmpR op_notN (pe_ix (kIxT (K := K) rfl) (pe_ix (kIxL (K := K) rfl) (pe_fld (pv 0) (by rfl)) (pv 1) (fun _ _ => rfl)) pe_int (fun _ _ => rfl)) pe_non (nomark _)) (pss_cons (ps_expr (pe_bm PySem.F.plainAttrs_list PySem.F.slot_list_append PySem.F.type_list_append mt_append (pv 2) (pa_cons (pe_ix (kIxT (K := K) rfl) (pe_ix (kIxL (K := K) rfl) (pe_fld (pv 0) (by rfl)) (pv 1) (fun _ _ => rfl)) pe_int (fun _ _ => rfl)) pa_nil))) (pss_cons (ps_set (i := 1) sc_Search__plan_to.nd rfl (Or.inl rfl) (pe_ix (kIxT (K := K) rfl) (pe_ix (kIxL (K := K) rfl) (pe_fld (pv 0) (by rfl)) (pv 1) (fun _ _ => rfl)) pe_int (fun _ _ => rfl))) pss_nil)))
      (pss_cons (ps_ret (pe_listRev rfl rfl T.b_list rfl T.b_reversed (pv 2)))
      pss_nil))), ?_⟩
  refine Y.eqM ((Y.asgO (i := 2) (XO.lstG (r := (fz (e3 (eV eI) eI eI))) XG.nil (fun t => []) (fun _ => rfl) 0) (fun v_plan => (Y.seq (Y.while0 (N1 := fun s1184 : Int × (List ((List Int) × Int × Int)) => [.val (pin w0 (obR T.C_Search (fr_Search_2 T.C_Search P w))) v_self, .val (fz eI) s1184.1, .val (ow (fz (e3 (eV eI) eI eI))) s1184.2]) (s0 := (v_place, v_plan)) 1000000 (.keep (.keep (.keep .nil))) (fun s1184 => (XT.tst (XB.op o_notN (XB.proj (f := (eO eI)) (g := fun (x : ((List Int) × Int × (Option Int) × (Option ((List Int) × Int × Int)))) => x.2.2.1) 2 (XB.op o_ixL (XB.fld (i := 0) rfl (fat_Search_rows T.C_Search P w) vw_ow T.k_Search T.f_Search_rows) (XB.v (i := 1) rfl)) XB.int (fun _ => rfl) (fun _ => rfl)) XB.non))) (fun s1184 => (Y.mapp (XP.var (i := 2) rfl) (XB.own (XB.unopt (XB.proj (f := (eO (e3 (eV eI) eI eI))) (g := fun (x : ((List Int) × Int × (Option Int) × (Option ((List Int) × Int × Int)))) => x.2.2.2) 3 (XB.op o_ixL (XB.fld (i := 0) rfl (fat_Search_rows T.C_Search P w) vw_ow T.k_Search T.f_Search_rows) (XB.v (i := 1) rfl)) XB.int (fun _ => rfl) (fun _ => rfl)))) (fun v_plan => (Y.asg (i := 1) (XB.unopt (XB.proj (f := (eO eI)) (g := fun (x : ((List Int) × Int × (Option Int) × (Option ((List Int) × Int × Int)))) => x.2.2.1) 2 (XB.op o_ixL (XB.fld (i := 0) rfl (fat_Search_rows T.C_Search P w) vw_ow T.k_Search T.f_Search_rows) (XB.v (i := 1) rfl)) XB.int (fun _ => rfl) (fun _ => rfl))) (fun v_place => (Y.nx (s := (v_place, v_plan)) (.keep (.keep (.keep .nil))))) rfl))))) (fun s1184 => (Y.retI (M := (fun (s1194 : Unit) => [.val (pin w0 (obR T.C_Search (fr_Search_2 T.C_Search P w))) v_self, .val (fz eI) s1184.1, .val (ow (fz (e3 (eV eI) eI eI))) s1184.2])) (y := fun s1193 => v_self) (XEO.of () (XO.listRev (XB.vL (i := 2) rfl)) rfl) (fun _ => (.io rfl (.no .nil))))))) rfl)) ?_
  unfold b_Search__plan_to
  simp only [bind_ok, chk_ok, Res.bind_assoc]
theorem ok_fewest_pours (T : Tx K mg) : FnOk P w K mg base (L2.CX P w) 6 T.a_fewest_pours T.fd_fewest_pours ["load", "bound"] (spP K mg G_fewest_pours r_fewest_pours mt_fewest_pours) := by
  refine fn_ok (n := 3) r_fewest_pours (fun t => b_fewest_pours t.1 t.2.1) T.F_fewest_pours sc_fewest_pours (fun _ => by unfold mt_fewest_pours m_fewest_pours; rfl) (fun _ => rfl) (fun _ => rfl) fun t cdv A outer s H E hr => ?_
  obtain ⟨v_load, v_bound, _⟩ := t
  refine ⟨_, (pss_cons (ps_if (pt_cmpR op_eq (pe_callB (kSum (K := K) rfl rfl) (by rfl) T.b_sum (by decide +kernel) (pa_cons (pv 0) pa_nil)) pe_int (nomark _)) (pss_cons (ps_ret (pe_lst pa_nil)) pss_nil) pss_nil)
      (pss_cons (ps_set (i := 2) sc_fewest_pours.nd rfl (Or.inl rfl) (pe_makeW T.K_Search (ok_Search____init (P := P) (w := w) T) (hr.mono (by decide)) (by rfl) T.g_Search T.n_Search____init (passAt (takes_of rfl rfl rfl rfl)) (pa_cons (pv 0) pa_nil)))
      (pss_cons (ps_set (i := 3) sc_fewest_pours.nd rfl (Or.inl rfl) pe_int)
      (pss_cons (ps_while (passes_of rfl) (PW.pt (pw_and (pt_cmpR op_lt (pv 3) (pe_callB (kLen (K := K) rfl) (by rfl) T.b_len (by decide +kernel) (pa_cons (pe_fld (pv 2) (by rfl)) pa_nil)) (nomark _)) (pw_and1 (pt_cmpR op_lt (pe_ix (kIxT (K := K) rfl) (pe_ix (kIxL (K := K) rfl) (pe_fld (pv 2) (by rfl)) (pv 3) (fun _ _ => rfl)) pe_int (fun _ _ => rfl)) (pv 1) (nomark _))))) (pss_cons (ps_for (passes_of rfl) rfl (piL (K := K) rfl (pe_callS (ok_pours_of T) (hr.mono (by decide)) (by rfl) T.g_pours_of T.F_pours_of.kp T.n_pours_of (passAt (takes_of rfl rfl rfl rfl)) (pa_cons (pe_ix (kIxT (K := K) rfl) (pe_ix (kIxL (K := K) rfl) (pe_fld (pv 2) (by rfl)) (pv 3) (fun _ _ => rfl)) pe_int (fun _ _ => rfl)) pa_nil))) (pg_name (i := 4) sc_fewest_pours.nd rfl (Or.inl rfl)) (pss_cons (ps_if (pt_val (pe_methW (pv 2) T.k_Search T.m_Search__come_to (ok_Search__come_to (P := P) (w := w) T) (hr.mono (by decide)) T.n_Search__come_to (passAt (takes_of rfl rfl rfl rfl)) (pa_cons (pv 3) (pa_cons (pv 4) pa_nil)))) (pss_cons (ps_ret (pe_methW (pv 2) T.k_Search T.m_Search__plan_to (ok_Search__plan_to (P := P) (w := w) T) (hr.mono (by decide)) T.n_Search__plan_to (passAt (takes_of rfl rfl rfl rfl)) (pa_cons (pe_op op_sub (pe_callB (kLen (K := K) rfl) (by rfl) T.b_len (by decide +kernel) (pa_cons (pe_fld (pv 2) (by rfl)) pa_nil)) pe_int) pa_nil))) pss_nil) pss_nil) pss_nil)) (pss_cons (ps_aug (i := 3) sc_fewest_pours.nd rfl (Or.inl rfl) pe_int ip_add) pss_nil)))
      (pss_cons (ps_ret pe_non)
      pss_nil))))), ?_⟩
  refine Y.eqM ((Y.ifT (XT.tst (XB.op o_eqI (XB.cl1 o_sumV (XB.v (i := 0) rfl)) XB.int)) (Y.ret (XB.own (XB.cast (f := (eO (eL (e3 (eV eI) eI eI)))) (XO.frz (XO.lstG (r := (fz (e3 (eV eI) eI eI))) XG.nil (fun t => []) (fun _ => rfl) 0) (frz_ow frz_fz)) (fun (t1021 : (List ((List Int) × Int × Int))) => (some t1021)) (fun _ => rfl)))) (Y.asgO (i := 2) (XO.make (G := (G_Search____init T.C_Search P w)) (G' := (GI_Search____init T.C_Search P w)) (m := mt_Search____init) (c := fun t => ((), t)) (bk := fun _ y => y) (T := fun _ _ => [.nil]) (XG.cons (XB.own (XB.v (i := 0) rfl)) XG.nil) (fun _ => rfl) (fun _ _ => rfl)) (fun v_search => (Y.asg (i := 3) XB.int (fun v_place => (Y.seq (Y.while0 (N1 := fun s1023 : ((List ((List Int) × Bool)) × (List ((List Int) × Int × (Option Int) × (Option ((List Int) × Int × Int)))) × Unit) × Int => [.val (fz (eV eI)) v_load, .val (fz eI) v_bound, .val (obR T.C_Search (fr_Search_2 T.C_Search P w)) s1023.1, .val (fz eI) s1023.2, .nil]) (s0 := (v_search, v_place)) 1000000 (.keep (.keep (.keep (.keep (.drop .nil))))) (fun s1023 => (XT.and (XT.tst (XB.op o_B0 (XB.v (i := 3) rfl) (XB.cl1 o_lenL (XB.fld (i := 2) rfl (fat_Search_rows T.C_Search P w) vw_ow T.k_Search T.f_Search_rows)))) (XT.tst (XB.op o_B0 (XB.proj (f := eI) (g := fun (x : ((List Int) × Int × (Option Int) × (Option ((List Int) × Int × Int)))) => x.2.1) 1 (XB.op o_ixL (XB.fld (i := 2) rfl (fat_Search_rows T.C_Search P w) vw_ow T.k_Search T.f_Search_rows) (XB.v (i := 3) rfl)) XB.int (fun _ => rfl) (fun _ => rfl)) (XB.v (i := 1) rfl))))) (fun s1023 => (Y.seq (Y.for0 (N1 := fun s1049 : ((List ((List Int) × Bool)) × (List ((List Int) × Int × (Option Int) × (Option ((List Int) × Int × Int)))) × Unit) => [.val (fz (eV eI)) v_load, .val (fz eI) v_bound, .val (obR T.C_Search (fr_Search_2 T.C_Search P w)) s1049, .val (fz eI) s1023.2, .nil]) (s0 := s1023.1) (XI.list (XO.frz (XO.call (G := G_pours_of) (r := r_pours_of) (m := mt_pours_of) (XG.cons (XB.own (XB.proj (f := (eV eI)) (g := fun (x : ((List Int) × Int × (Option Int) × (Option ((List Int) × Int × Int)))) => x.1) 0 (XB.op o_ixL (XB.fld (i := 2) rfl (fat_Search_rows T.C_Search P w) vw_ow T.k_Search T.f_Search_rows) (XB.v (i := 3) rfl)) XB.int (fun _ => rfl) (fun _ => rfl))) XG.nil)) (frz_ow frz_fz))) (.keep (.keep (.keep (.keep (.drop .nil))))) (fun s1049 => (XTg.name (i := 4) rfl)) (fun x1058 s1049 => (Y.ifTE1 (M := (fun (s1064 : ((List ((List Int) × Bool)) × (List ((List Int) × Int × (Option Int) × (Option ((List Int) × Int × Int)))) × Unit)) => [.val (fz (eV eI)) v_load, .val (fz eI) v_bound, .val (obR T.C_Search (fr_Search_2 T.C_Search P w)) s1064, .val (fz eI) s1023.2, .val (fz (e3 (eV eI) eI eI)) x1058])) (XTE.tB (XEO.frz (XEO.meth (i := 2) (f := "come_to") rfl (show ("come_to" : Str) ∉ (["known", "rows"] : List Str) by decide) (XEO.callI (G := (G_Search__come_to T.C_Search P w)) (G' := (GI_Search__come_to T.C_Search P w)) (r := r_Search__come_to) (m := mt_Search__come_to) (fun t s => (s, t.1, t.2.1, ())) (fun _ s y => y) (XEG.ptr (i := 2) rfl (XEG.dat (XE.of s1049 (XB.v (i := 3) rfl) rfl) (fun s1060 => (XEG.dat (XE.of s1060 (XB.v (i := 4) rfl) rfl) (fun s1061 => (XEG.nil s1061 rfl)))))) (fun _ _ => (.ptr rfl (.dat (.dat .nil)))) (fun _ _ _ => (.ptr (.dat (.dat .nil)) rfl rfl)))) frz_fz)) (fun s1063 => (Y.retE (M := (fun (s1068 : ((List ((List Int) × Bool)) × (List ((List Int) × Int × (Option Int) × (Option ((List Int) × Int × Int)))) × Unit)) => [.val (fz (eV eI)) v_load, .val (fz eI) v_bound, .val (obR T.C_Search (fr_Search_2 T.C_Search P w)) s1068, .val (fz eI) s1023.2, .val (fz (e3 (eV eI) eI eI)) x1058])) (XE.own (XEO.frz (XEO.some (XEO.meth (i := 2) (f := "plan_to") rfl (show ("plan_to" : Str) ∉ (["known", "rows"] : List Str) by decide) (XEO.callI (G := (G_Search__plan_to T.C_Search P w)) (G' := (GI_Search__plan_to T.C_Search P w)) (r := r_Search__plan_to) (m := mt_Search__plan_to) (fun t s => (s, t.1, ())) (fun _ s y => y) (XEG.ptr (i := 2) rfl (XEG.dat (XE.of s1063 (XB.op o_I0 (XB.cl1 o_lenL (XB.fld (i := 2) rfl (fat_Search_rows T.C_Search P w) vw_ow T.k_Search T.f_Search_rows)) XB.int) rfl) (fun s1066 => (XEG.nil s1066 rfl)))) (fun _ _ => (.ptr rfl (.dat .nil))) (fun _ _ _ => (.ptr (.dat .nil) rfl rfl))))) (frz_owO (frz_ow frz_fz)))))) (fun s1063 => (Y.nx (s := s1063) (.keep (.keep (.keep (.keep (.drop .nil)))))))))) (fun s1049 => (Y.aug (i := 3) rfl XB.int (fun v_place => (Y.nx (s := (s1049, v_place)) (.keep (.keep (.keep (.keep (.drop .nil))))))) rfl))))) (fun s1023 => (Y.ret (XB.own (XB.cast (f := (eO (eL (e3 (eV eI) eI eI)))) XB.non (fun (t1070 : Unit) => (none : (Option (List ((List Int) × Int × Int))))) (fun _ => rfl))))))) rfl)) rfl))) ?_
  unfold b_fewest_pours
  simp only [bind_ok, chk_ok, Res.bind_assoc]
theorem ok_law_order (T : Tx K mg) : FnOk P w K mg base (L2.CX P w) 2 T.a_law_order T.fd_law_order ["_law_cell_here", "_law_many"] (spP K mg G_law_order r_law_order mt_law_order) := by
  refine fn_ok (n := 3) r_law_order (fun t => b_law_order t.1 t.2.1) T.F_law_order sc_law_order (fun _ => by unfold mt_law_order m_law_order; rfl) (fun _ => rfl) (fun _ => rfl) fun t cdv A outer s H E hr => ?_
  obtain ⟨v_law_cell_here, v_law_many, _⟩ := t
  refine ⟨_, (pss_cons (ps_set (i := 2) sc_law_order.nd rfl (Or.inl rfl) (pe_listRg rfl rfl T.b_list (prg_1 rfl T.b_range (pv 1))))
      (pss_cons (ps_set (i := 3) sc_law_order.nd rfl (Or.inl rfl) (pe_lst pa_nil))
      (pss_cons (ps_for (passes_of rfl) rfl (piL (K := K) rfl (pe_callS (ok_law_draws T) (hr.mono (by decide)) (by rfl) T.g_law_draws T.F_law_draws.kp T.n_law_draws (passAt (takes_of rfl rfl rfl rfl)) (pa_cons (pv 0) (pa_cons (pv 1) pa_nil)))) (pg_name (i := 4) sc_law_order.nd rfl (Or.inl rfl)) (pss_cons (ps_expr (pe_bm PySem.F.plainAttrs_list PySem.F.slot_list_append PySem.F.type_list_append mt_append (pv 3) (pa_cons (kBm (K := K) rfl PySem.F.plainAttrs_list PySem.F.slot_list_pop PySem.F.type_list_pop mt_popAt (pv 2) (pa_cons (pe_op op_mod (pv 4) (pe_callB (kLen (K := K) rfl) (by rfl) T.b_len (by decide +kernel) (pa_cons (pv 2) pa_nil))) pa_nil)) pa_nil))) pss_nil))
      (pss_cons (ps_ret (pv 3))
      pss_nil)))), ?_⟩
  refine Y.eqM ((Y.asgO (i := 2) (XO.lrg (XB.v (i := 1) rfl)) (fun v_law_left => (Y.asgO (i := 3) (XO.lstG (r := (fz eI)) XG.nil (fun t => []) (fun _ => rfl) 0) (fun v_law_order_here => (Y.seq (Y.for0 (N1 := fun s1195 : (List Int) × (List Int) => [.val (fz eI) v_law_cell_here, .val (fz eI) v_law_many, .val (ow (fz eI)) s1195.1, .val (ow (fz eI)) s1195.2, .nil]) (s0 := (v_law_left, v_law_order_here)) (XI.list (XO.frz (XO.call (G := G_law_draws) (r := r_law_draws) (m := mt_law_draws) (XG.cons (XB.own (XB.v (i := 0) rfl)) (XG.cons (XB.own (XB.v (i := 1) rfl)) XG.nil))) (frz_ow frz_fz))) (.keep (.keep (.keep (.keep (.drop .nil))))) (fun s1195 => (XTg.name (i := 4) rfl)) (fun x1197 s1195 => (Y.appE (M := (fun (s1201 : (List Int)) => [.val (fz eI) v_law_cell_here, .val (fz eI) v_law_many, .val (ow (fz eI)) s1201, .val (ow (fz eI)) s1195.2, .val (fz eI) x1197])) (i := 3) (xs := fun s1198 => s1195.2) rfl (XE.own (XE.map (fun z => z) (fun _ => rfl) (XE.popAt (XP.var (i := 2) rfl) (XB.op o_mod (XB.v (i := 4) rfl) (XB.cl1 o_lenL (XB.vL (i := 2) rfl)))))) (fun _ => rfl) (fun v_law_order_here s1198 => (Y.nx (s := (s1198, v_law_order_here)) (.keep (.keep (.keep (.keep (.drop .nil)))))))))) (fun s1195 => (Y.retV (i := 3) rfl)))) rfl)) rfl)) ?_
  unfold b_law_order
  simp only [bind_ok, chk_ok, Res.bind_assoc]
theorem ok_law_good (T : Tx K mg) : FnOk P w K mg base (L2.CX P w) 7 T.a_law_good T.fd_law_good ["_law_load_here", "_law_cell_here"] (spP K mg G_law_good r_law_good mt_law_good) := by
  refine fn_ok (n := 11) r_law_good (fun t => b_law_good t.1 t.2.1) T.F_law_good sc_law_good (fun _ => by unfold mt_law_good m_law_good; rfl) (fun _ => rfl) (fun _ => rfl) fun t cdv A outer s H E hr => ?_
  obtain ⟨v_law_load_here, v_law_cell_here, _⟩ := t
  refine ⟨_, (pss_cons (ps_set (i := 2) sc_law_good.nd rfl (Or.inl rfl) (pe_callS (ok_fewest_pours T) (hr.mono (by decide)) (by rfl) T.g_fewest_pours T.F_fewest_pours.kp T.n_fewest_pours (passAt (takes_of rfl rfl rfl rfl)) (pa_cons (pv 0) (pa_cons pe_int pa_nil))))
      (pss_cons (ps_set (i := 3) sc_law_good.nd rfl (Or.inl rfl) (pe_callS (ok_law_order T) (hr.mono (by decide)) (by rfl) T.g_law_order T.F_law_order.kp T.n_law_order (passAt (takes_of rfl rfl rfl rfl)) (pa_cons (pv 1) (pa_cons (pe_callB (kLen (K := K) rfl) (by rfl) T.b_len (by decide +kernel) (pa_cons (pv 0) pa_nil)) pa_nil))))
      (pss_cons (ps_set (i := 4) sc_law_good.nd rfl (Or.inl rfl) (pe_callTy (kTuple (K := K) rfl) (by rfl) T.b_tuple (by decide +kernel) (pa_cons (pe_lc (own := [("_law_tape", 9)]) (g := gName 9) (tt := tYes) rfl sc_law_good.nd (piL (K := K) rfl (pv 3)) (blkOk_by (N := nm_law_good) (sc := defScope s_law_good) (by decide +kernel)) (fun _ _ _ _ _ => (pg_name (i := 9) sc_law_good.nd rfl (Or.inl rfl))) (fun _ _ _ _ _ => pts_nil) (fun _ _ _ _ _ => (pe_ix (kIxT (K := K) rfl) (pv 0) (pv 9) (fun _ _ => rfl)))) pa_nil)))
      (pss_cons (ps_set (i := 5) sc_law_good.nd rfl (Or.inl rfl) (pe_callS (ok_fewest_pours T) (hr.mono (by decide)) (by rfl) T.g_fewest_pours T.F_fewest_pours.kp T.n_fewest_pours (passAt (takes_of rfl rfl rfl rfl)) (pa_cons (pv 4) (pa_cons pe_int pa_nil))))
      (pss_cons (ps_if (pt_cmpR op_ne (pe_cmpR op_isN (pv 2) pe_non (nomark _)) (pe_cmpR op_isN (pv 5) pe_non (nomark _)) (nomark _)) (pss_cons (ps_ret pe_bl) pss_nil) pss_nil)
      (pss_cons (ps_for (passes_of rfl) rfl (piL (K := K) rfl (pe_lst (pa_cons pe_int (pa_cons pe_int (pa_cons pe_int (pa_cons pe_int (pa_cons pe_int (pa_cons (pe_callB (call_min2 rfl) (by rfl) T.b_min (by decide +kernel) (pa_cons pe_int (pa_cons (pe_callB (kLen (K := K) rfl) (by rfl) T.b_len (by decide +kernel) (pa_cons (pe_orT (pv 2) (pe_one (pe_lst pa_nil))) pa_nil)) pa_nil))) pa_nil)))))))) (pg_name (i := 6) sc_law_good.nd rfl (Or.inl rfl)) (pss_cons (ps_set (i := 7) sc_law_good.nd rfl (Or.inl rfl) (pv 2)) (pss_cons (ps_if (PW.pt (pw_and (pt_cmpR op_notN (pv 2) pe_non (nomark _)) (pw_and1 (pt_cmpR op_gt (pe_callB (kLen (K := K) rfl) (by rfl) T.b_len (by decide +kernel) (pa_cons (pv 2) pa_nil)) (pv 6) (nomark _))))) (pss_cons (ps_set (i := 7) sc_law_good.nd rfl (Or.inl rfl) pe_non) pss_nil) pss_nil) (pss_cons (ps_set (i := 8) sc_law_good.nd rfl (Or.inl rfl) (pe_callS (ok_fewest_pours T) (hr.mono (by decide)) (by rfl) T.g_fewest_pours T.F_fewest_pours.kp T.n_fewest_pours (passAt (takes_of rfl rfl rfl rfl)) (pa_cons (pv 0) (pa_cons (pv 6) pa_nil)))) (pss_cons (ps_if (PW.pt (pw_or (pt_cmpR (kNeP (K := K) rfl (hu100 hr)) (pv 8) (pv 7) (nomark _)) (pw_or1 (pt_cmpR op_ne (pe_cmpR op_isN (pv 8) pe_non (nomark _)) (pe_cmpR op_isN (pv 7) pe_non (nomark _)) (nomark _))))) (pss_cons (ps_ret pe_bl) pss_nil) pss_nil) pss_nil)))))
      (pss_cons (ps_if (pt_cmpR op_isN (pv 2) pe_non (nomark _)) (pss_cons (ps_ret pe_bl) pss_nil) pss_nil)
      (pss_cons (ps_if (PW.pt (pw_or (pt_cmpR op_ne (pe_callB (kLen (K := K) rfl) (by rfl) T.b_len (by decide +kernel) (pa_cons (pv 5) pa_nil)) (pe_callB (kLen (K := K) rfl) (by rfl) T.b_len (by decide +kernel) (pa_cons (pv 2) pa_nil)) (nomark _)) (pw_or1 (pt_cmpR op_ne (pe_callB (kSum (K := K) rfl rfl) (by rfl) T.b_sum (by decide +kernel) (pa_cons (pe_callS (ok_load_behind T) (hr.mono (by decide)) (by rfl) T.g_load_behind T.F_load_behind.kp T.n_load_behind (passAt (takes_of rfl rfl rfl rfl)) (pa_cons (pv 4) (pa_cons (pv 5) pa_nil))) pa_nil)) pe_int (nomark _))))) (pss_cons (ps_ret pe_bl) pss_nil) pss_nil)
      (pss_cons (ps_if (PW.pt (pw_and (pt_cmpR (kNeP (K := K) rfl (hu100 hr)) (pv 2) (pe_lst pa_nil) (nomark _)) (pw_and1 (pt_cmpR (kNeP (K := K) rfl (hu100 hr)) (pe_callS (ok_fewest_pours T) (hr.mono (by decide)) (by rfl) T.g_fewest_pours T.F_fewest_pours.kp T.n_fewest_pours (passAt (takes_of rfl rfl rfl rfl)) (pa_cons (pe_callS (ok_load_behind T) (hr.mono (by decide)) (by rfl) T.g_load_behind T.F_load_behind.kp T.n_load_behind (passAt (takes_of rfl rfl rfl rfl)) (pa_cons (pv 0) (pa_cons (pe_slice (kSlL (K := K) rfl) (pv 2) po_none (po_some pe_int)) pa_nil))) (pa_cons pe_int pa_nil))) (pe_slice (kSlL (K := K) rfl) (pv 2) (po_some pe_int) po_none) (nomark _))))) (pss_cons (ps_ret pe_bl) pss_nil) pss_nil)
      (pss_cons (ps_set (i := 9) sc_law_good.nd rfl (Or.inl rfl) (pe_ix (kIxL (K := K) rfl) (pv 3) pe_int (fun _ _ => rfl)))
      (pss_cons (ps_if (PW.pt (pw_or (pt_cmpR op_eq (pe_ix (kIxT (K := K) rfl) (pv 0) (pv 9) (fun _ _ => rfl)) pe_int (nomark _)) (pw_or1 (pt_cmpR op_gt (pe_callB (kLen (K := K) rfl) (by rfl) T.b_len (by decide +kernel) (pa_cons (pv 2) pa_nil)) pe_int (nomark _))))) (pss_cons (ps_ret pe_bl) pss_nil) pss_nil)
      (pss_cons (ps_setLc (i := 10) (own := [("_law_number", 12)]) (g := gName 12) (tt := tYes) rfl sc_law_good.nd rfl rfl (sw_true rfl rfl rfl (by decide +kernel)) (piT (K := K) rfl (pv 0)) (blkOk_by (N := nm_law_good) (sc := defScope s_law_good) (by decide +kernel)) (fun _ _ _ _ _ => (pg_name (i := 12) sc_law_good.nd rfl (Or.inl rfl))) (fun _ _ _ _ _ => pts_nil) (fun _ _ _ _ _ => (pe_op op_add (pv 12) pe_int)))
      (pss_cons (ps_asg (pe_op op_sub (pe_ix (kIxT (K := K) rfl) (pv 0) (pv 9) (fun _ _ => rfl)) pe_int) (pg_sub (pv 10) (pv 9) set_list))
      (pss_cons (ps_set (i := 11) sc_law_good.nd rfl (Or.inl rfl) (pe_callS (ok_fewest_pours T) (hr.mono (by decide)) (by rfl) T.g_fewest_pours T.F_fewest_pours.kp T.n_fewest_pours (passAt (takes_of rfl rfl rfl rfl)) (pa_cons (pe_callTy (kTuple (K := K) rfl) (by rfl) T.b_tuple (by decide +kernel) (pa_cons (pv 10) pa_nil)) (pa_cons pe_int pa_nil))))
      (pss_cons (ps_ret (pe_and (pe_cmpR op_notN (pv 11) pe_non (nomark _)) (pe_one (pe_cmpR op_le (pe_callB (kLen (K := K) rfl) (by rfl) T.b_len (by decide +kernel) (pa_cons (pv 11) pa_nil)) (pe_op op_add (pe_callB (kLen (K := K) rfl) (by rfl) T.b_len (by decide +kernel) (pa_cons (pv 2) pa_nil)) pe_int) (nomark _)))))
      pss_nil))))))))))))))), ?_⟩
  refine Y.eqM ((Y.asg (i := 2) (XO.view (XO.call (G := G_fewest_pours) (r := r_fewest_pours) (m := mt_fewest_pours) (XG.cons (XB.own (XB.v (i := 0) rfl)) (XG.cons (XB.own XB.int) XG.nil))) vw_fz) (fun v_law_found => (Y.asg (i := 3) (XO.frz (XO.call (G := G_law_order) (r := r_law_order) (m := mt_law_order) (XG.cons (XB.own (XB.v (i := 1) rfl)) (XG.cons (XB.own (XB.cl1 o_lenV (XB.v (i := 0) rfl))) XG.nil))) (frz_ow frz_fz)) (fun v_law_order_here => (Y.asg (i := 4) (XB.cl1 o_tupleL (XO.view (XO.lc (vs := [9]) (XI.list (XB.v (i := 3) rfl)) (XTg.name (i := 9) rfl) (fun x950 => XT.yes) (fun x950 => (XB.own (XB.op o_ixV (XB.v (i := 0) rfl) (XB.v (i := 9) rfl)))) (fun _ _ _ _ _ h => h)) vw_ow)) (fun v_law_other => (Y.asg (i := 5) (XO.view (XO.call (G := G_fewest_pours) (r := r_fewest_pours) (m := mt_fewest_pours) (XG.cons (XB.own (XB.v (i := 4) rfl)) (XG.cons (XB.own XB.int) XG.nil))) vw_fz) (fun v_law_turned => (Y.ifT (XT.tst (XB.op o_neB (XB.op o_isN (XB.v (i := 2) rfl) XB.non) (XB.op o_isN (XB.v (i := 5) rfl) XB.non))) (Y.ret (XB.own XB.bl)) (Y.seq (Y.for0 (N1 := fun s968 : (Option (List ((List Int) × Int × Int))) => [.val (fz (eV eI)) v_law_load_here, .val (fz eI) v_law_cell_here, .val (fz (eO (eL (e3 (eV eI) eI eI)))) s968, .val (fz (eL eI)) v_law_order_here, .val (fz (eV eI)) v_law_other, .val (fz (eO (eL (e3 (eV eI) eI eI)))) v_law_turned, .nil, .nil, .nil, .nil, .nil, .nil, .nil]) (s0 := v_law_found) (XI.list (XO.frz (XO.lst (n := 6) (e := eI) (XA.cons XB.int (XA.cons XB.int (XA.cons XB.int (XA.cons XB.int (XA.cons XB.int (XA.cons (XB.cl2 o_min2 XB.int (XB.cl1 o_lenL (XB.le (XB.orL (XB.v (i := 2) rfl) (XO.frz (XO.lstG (r := (fz (e3 (eV eI) eI eI))) XG.nil (fun t => []) (fun _ => rfl) 0) (frz_ow frz_fz))) le_DL))) XA.nil)))))) (fun t => [t.1, t.2.1, t.2.2.1, t.2.2.2.1, t.2.2.2.2.1, t.2.2.2.2.2.1]) (fun _ => rfl)) (frz_ow frz_fz))) (.keep (.keep (.keep (.keep (.keep (.keep (.drop (.drop (.drop (.drop (.drop (.drop (.drop .nil))))))))))))) (fun s968 => (XTg.name (i := 6) rfl)) (fun x987 s968 => (Y.asg (i := 7) (XB.v (i := 2) rfl) (fun v_law_due => (Y.seq (N1 := fun j991 : (Option (List ((List Int) × Int × Int))) × (Option (List ((List Int) × Int × Int))) => [.val (fz (eV eI)) v_law_load_here, .val (fz eI) v_law_cell_here, .val (fz (eO (eL (e3 (eV eI) eI eI)))) j991.1, .val (fz (eL eI)) v_law_order_here, .val (fz (eV eI)) v_law_other, .val (fz (eO (eL (e3 (eV eI) eI eI)))) v_law_turned, .val (fz eI) x987, .val (fz (eO (eL (e3 (eV eI) eI eI)))) j991.2, .nil, .nil, .nil, .nil, .nil]) (Y.if0 (XT.and (XT.tst (XB.op o_notN (XB.v (i := 2) rfl) XB.non)) (XT.tst (XB.op o_B0 (XB.cl1 o_lenL (XB.le (XB.unopt (XB.v (i := 2) rfl)) le_DL)) (XB.v (i := 6) rfl)))) (Y.unopt (i := 2) rfl (fun v_law_found_992 => (Y.asg (i := 7) XB.non (fun v_law_due => (Y.nx (s := ((some v_law_found_992), (none : (Option (List ((List Int) × Int × Int)))))) (.keep (.keep (.as rfl (.keep (.keep (.keep (.keep (.as rfl (.drop (.drop (.drop (.drop (.drop .nil))))))))))))))) rfl))) (Y.nx (s := (s968, v_law_due)) (.keep (.keep (.keep (.keep (.keep (.keep (.keep (.keep (.drop (.drop (.drop (.drop (.drop .nil))))))))))))))) (fun j991 => (Y.asg (i := 8) (XO.view (XO.call (G := G_fewest_pours) (r := r_fewest_pours) (m := mt_fewest_pours) (XG.cons (XB.own (XB.v (i := 0) rfl)) (XG.cons (XB.own (XB.v (i := 6) rfl)) XG.nil))) vw_fz) (fun v_law_told => (Y.ifT (XT.or (XT.tst (XB.op (o_neA (e := (eO (eL (e3 (eV eI) eI eI)))) (f := (eO (eL (e3 (eV eI) eI eI))))) (XB.le (XB.v (i := 8) rfl) le_DH) (XB.le (XB.v (i := 7) rfl) le_DH))) (XT.tst (XB.op o_neB (XB.op o_isN (XB.v (i := 8) rfl) XB.non) (XB.op o_isN (XB.v (i := 7) rfl) XB.non)))) (Y.ret (XB.own XB.bl)) (Y.nx (s := j991.1) (.keep (.keep (.keep (.keep (.keep (.keep (.drop (.drop (.drop (.drop (.drop (.drop (.drop .nil)))))))))))))))) rfl)))) rfl))) (fun s968 => (Y.ifT (XT.tst (XB.op o_isN (XB.v (i := 2) rfl) XB.non)) (Y.ret (XB.own XB.bl)) (Y.unopt (i := 2) rfl (fun v_law_found_995 => (Y.ifT (XT.or (XT.tst (XB.op o_neI (XB.cl1 o_lenL (XB.le (XB.unopt (XB.v (i := 5) rfl)) le_DL)) (XB.cl1 o_lenL (XB.le (XB.v (i := 2) rfl) le_DL)))) (XT.tst (XB.op o_neI (XB.cl1 o_sumV (XO.view (XO.call (G := G_load_behind) (r := r_load_behind) (m := mt_load_behind) (XG.cons (XB.own (XB.v (i := 4) rfl)) (XG.cons (XB.own (XB.unopt (XB.v (i := 5) rfl))) XG.nil))) vw_fz)) XB.int))) (Y.ret (XB.own XB.bl)) (Y.ifT (XT.and (XT.tst (XB.op o_neT (XB.le (XB.v (i := 2) rfl) le_DH) (XO.view (XO.lstG (r := (fz (e3 (eV eI) eI eI))) XG.nil (fun t => []) (fun _ => rfl) 0) (Vw.le vw_ow le_LH)))) (XT.tst (XB.op (o_neA (e := (eO (eL (e3 (eV eI) eI eI)))) (f := (eL (e3 (eV eI) eI eI)))) (XB.le (XO.view (XO.call (G := G_fewest_pours) (r := r_fewest_pours) (m := mt_fewest_pours) (XG.cons (XB.own (XO.view (XO.call (G := G_load_behind) (r := r_load_behind) (m := mt_load_behind) (XG.cons (XB.own (XB.v (i := 0) rfl)) (XG.cons (XB.own (XO.frz (XO.slL (XB.le (XB.v (i := 2) rfl) le_DL) .none (.some XB.int)) (frz_ow frz_fz))) XG.nil))) vw_fz)) (XG.cons (XB.own XB.int) XG.nil))) vw_fz) le_DH) (XO.view (XO.slL (XB.le (XB.v (i := 2) rfl) le_DL) (.some XB.int) .none) (Vw.le vw_ow le_LH))))) (Y.ret (XB.own XB.bl)) (Y.asg (i := 9) (XB.op o_ixL (XB.le (XB.v (i := 3) rfl) le_DL) XB.int) (fun v_law_tape => (Y.ifT (XT.or (XT.tst (XB.op o_eqI (XB.op o_ixV (XB.v (i := 0) rfl) (XB.v (i := 9) rfl)) XB.int)) (XT.tst (XB.op o_B0 (XB.cl1 o_lenL (XB.le (XB.v (i := 2) rfl) le_DL)) XB.int))) (Y.ret (XB.own XB.bl)) (Y.asgO (i := 10) (XO.lc (vs := [12]) (XI.tup (XB.v (i := 0) rfl)) (XTg.name (i := 12) rfl) (fun x1013 => XT.yes) (fun x1013 => (XB.own (XB.op o_I0 (XB.v (i := 12) rfl) XB.int))) (fun _ _ _ _ _ h => h)) (fun v_law_wide => (Y.mset (XB.own (XB.op o_I0 (XB.op o_ixV (XB.v (i := 0) rfl) (XB.v (i := 9) rfl)) XB.int)) (XP.var (i := 10) rfl) (XB.v (i := 9) rfl) (fun v_law_wide => (Y.asg (i := 11) (XO.view (XO.call (G := G_fewest_pours) (r := r_fewest_pours) (m := mt_fewest_pours) (XG.cons (XB.own (XB.cl1 o_tupleL (XB.vL (i := 10) rfl))) (XG.cons (XB.own XB.int) XG.nil))) vw_fz) (fun v_law_more => (Y.ret (XB.own (XB.andV (XB.op o_notN (XB.v (i := 11) rfl) XB.non) (XB.op o_B0 (XB.cl1 o_lenL (XB.le (XB.unopt (XB.v (i := 11) rfl)) le_DL)) (XB.op o_I0 (XB.cl1 o_lenL (XB.le (XB.v (i := 2) rfl) le_DL)) XB.int)))))) rfl)))) rfl))) rfl)))))))))) rfl)) rfl)) rfl)) rfl)) ?_
  unfold b_law_good
  simp only [bind_ok, chk_ok, Res.bind_assoc]
theorem ok_law (T : Tx K mg) : FnOk P w K mg base (L2.CX P w) 8 T.a_law T.fd_law ["_law_script"] (spP K mg G_law r_law mt_law) := by
  refine fn_ok (n := 2) r_law (fun t => b_law t.1) T.F_law sc_law (fun _ => by unfold mt_law m_law; rfl) (fun _ => rfl) (fun _ => rfl) fun t cdv A outer s H E hr => ?_
  obtain ⟨v_law_script, _⟩ := t
  refine ⟨_, (pss_cons (ps_for (passes_of rfl) rfl (piL (K := K) rfl (pe_lst (pa_cons (pe_callS (ok_law_cell T) (hr.mono (by decide)) (by rfl) T.g_law_cell T.F_law_cell.kp T.n_law_cell (passAt (takes_of rfl rfl rfl rfl)) (pa_cons (pv 0) (pa_cons pe_int pa_nil))) (pa_cons (pe_callS (ok_law_cell T) (hr.mono (by decide)) (by rfl) T.g_law_cell T.F_law_cell.kp T.n_law_cell (passAt (takes_of rfl rfl rfl rfl)) (pa_cons (pv 0) (pa_cons pe_int pa_nil))) pa_nil)))) (pg_name (i := 1) sc_law.nd rfl (Or.inl rfl)) (pss_cons (ps_set (i := 2) sc_law.nd rfl (Or.inl rfl) (pe_callS (ok_law_load T) (hr.mono (by decide)) (by rfl) T.g_law_load T.F_law_load.kp T.n_law_load (passAt (takes_of rfl rfl rfl rfl)) (pa_cons (pe_op op_fdiv (pv 1) pe_int) (pa_cons (pe_op op_add pe_int (pe_op op_mod (pv 1) pe_int)) (pa_cons pe_int pa_nil))))) (pss_cons (ps_if (pt_not (pt_val (pe_callS (ok_law_good T) (hr.mono (by decide)) (by rfl) T.g_law_good T.F_law_good.kp T.n_law_good (passAt (takes_of rfl rfl rfl rfl)) (pa_cons (pv 2) (pa_cons (pe_op op_add (pe_op op_mul (pe_op op_fdiv (pv 1) pe_int) pe_int) pe_int) pa_nil))))) (pss_cons (ps_ret pe_bl) pss_nil) pss_nil) pss_nil)))
      (pss_cons (ps_ret pe_bl)
      pss_nil)), ?_⟩
  refine Y.eqM ((Y.seq (Y.for0 (N1 := fun s898 : Unit => [.val (fz (eL eI)) v_law_script, .nil, .nil]) (s0 := ()) (XI.list (XO.frz (XO.lst (n := 2) (e := eI) (XA.cons (XO.view (XO.call (G := G_law_cell) (r := r_law_cell) (m := mt_law_cell) (XG.cons (XB.own (XB.v (i := 0) rfl)) (XG.cons (XB.own XB.int) XG.nil))) vw_fz) (XA.cons (XO.view (XO.call (G := G_law_cell) (r := r_law_cell) (m := mt_law_cell) (XG.cons (XB.own (XB.v (i := 0) rfl)) (XG.cons (XB.own XB.int) XG.nil))) vw_fz) XA.nil)) (fun t => [t.1, t.2.1]) (fun _ => rfl)) (frz_ow frz_fz))) (.keep (.drop (.drop .nil))) (fun s898 => (XTg.name (i := 1) rfl)) (fun x900 s898 => (Y.asg (i := 2) (XO.view (XO.call (G := G_law_load) (r := r_law_load) (m := mt_law_load) (XG.cons (XB.own (XB.opc (XB.v (i := 1) rfl) XB.int (fun _ => ⟨by decide, by decide⟩))) (XG.cons (XB.own (XB.op o_I0 XB.int (XB.opc (XB.v (i := 1) rfl) XB.int (fun _ => by decide)))) (XG.cons (XB.own XB.int) XG.nil)))) vw_fz) (fun v_law_load_here => (Y.ifT (XT.not (XT.tB (XO.view (XO.call (G := G_law_good) (r := r_law_good) (m := mt_law_good) (XG.cons (XB.own (XB.v (i := 2) rfl)) (XG.cons (XB.own (XB.op o_I0 (XB.opc (XB.opc (XB.v (i := 1) rfl) XB.int (fun _ => ⟨by decide, by decide⟩)) XB.int (fun _ => .inr ⟨by decide, by decide⟩)) XB.int)) XG.nil))) vw_fz))) (Y.ret (XB.own XB.bl)) (Y.nx (s := ()) (.keep (.drop (.drop .nil)))))) rfl))) (fun s898 => (Y.ret (XB.own XB.bl))))) ?_
  unfold b_law
  simp only [bind_ok, chk_ok, Res.bind_assoc]
end
end G

set_option Elab.async false
set_option linter.all false
set_option maxRecDepth 100000
set_option maxHeartbeats 4000000
set_option autoImplicit false
namespace G
open PySem PySem.Spec PyProof.Rows L2 TP
theorem min_of (l : List Int) (h : l ≠ []) : ∃ m, extL (Ordl.lt eI) false l = some m ∧ m ∈ l ∧ ∀ y ∈ l, m ≤ y := by
  obtain ⟨m, _, e, h1, h2⟩ := min_ok (lt := Ordl.lt eI) h
  refine ⟨m, e, h1, fun y hy => ?_⟩
  have : decide (y < m) = false := h2 y hy
  have := of_decide_eq_false this
  omega
theorem ix_get {α : Type} {xs : List α} {i : Int} (d : α) (h0 : 0 ≤ i) (h1 : i < xs.length) : ixQ xs i = some (xs.getD i.toNat d) := by
  rw [ixQ_ok h0 h1, List.getD_eq_getElem?_getD, List.getElem?_eq_getElem (by omega)]
  rfl
def gI (l : List Int) (x : Int) : Int := l.getD x.toNat 0
theorem ix_gI {l : List Int} {i : Int} (h0 : 0 ≤ i) (h1 : i < l.length) : ixQ l i = some (gI l i) := ix_get 0 h0 h1
theorem gI_map (n : Nat) (f : Int → Int) (x : Int) (h0 : 0 ≤ x) (h1 : x < n) : gI ((rangeL 0 n).map f) x = f x := by
  unfold gI rangeL
  have : x.toNat < n := by omega
  rw [List.getD_eq_getElem?_getD, List.map_map, List.getElem?_map, List.getElem?_range (by omega)]
  show f (0 + (x.toNat : Int)) = f x
  congr 1
  omega
theorem gI_out (l : List Int) (x : Int) (h : (l.length : Int) ≤ x) : gI l x = 0 := by
  unfold gI
  rw [List.getD_eq_getElem?_getD, List.getElem?_eq_none (by omega)]
  rfl
theorem gI_nat {l : List Int} {i : Nat} (h : i < l.length) : gI l i = l[i] := by
  unfold gI
  rw [List.getD_eq_getElem?_getD, Int.toNat_natCast, List.getElem?_eq_getElem h]
  rfl
theorem list_gI (l : List Int) : (rangeL 0 l.length).map (gI l) = l := by
  apply List.ext_getElem
  · rw [List.length_map, len_range]
    omega
  · intro i h1 h2
    have e := gI_map l.length (gI l) i (by omega) (by omega)
    rw [gI_nat h1, gI_nat h2] at e
    exact e
abbrev Pour := List Int × Int × Int
structure PourOk (n : Int) (p : Pour) : Prop where
  ne : p.1 ≠ []
  le : p.1.length ≤ 5
  asc : p.1.Pairwise (· < ·)
  rng : ∀ t ∈ p.1, 0 ≤ t ∧ t < n
  to0 : 0 ≤ p.2.1
  to1 : p.2.1 < n
  nin : p.2.1 ∉ p.1
  pos : 0 < p.2.2
/-- the load behind a pour -/
def aft (l : List Int) (p : Pour) : List Int := l.mapIdx fun i x => if (i : Int) ∈ p.1 then x - p.2.2 else if (i : Int) = p.2.1 then x + p.2.2 else x
/-- there are as many as it wants -/
def Can (l : List Int) (p : Pour) : Prop := ∀ (i : Nat) (h : i < l.length), (i : Int) ∈ p.1 → p.2.2 ≤ l[i]
def Doable : List Int → List Pour → Prop
  | _, [] => True
  | l, p :: ps => PourOk l.length p ∧ Can l p ∧ Doable (aft l p) ps
theorem aft_len (l : List Int) (p : Pour) : (aft l p).length = l.length := by
  unfold aft
  rw [List.length_mapIdx]
theorem aft_get (l : List Int) (p : Pour) (i : Nat) (h : i < (aft l p).length) : (aft l p)[i] = if (i : Int) ∈ p.1 then l[i]'(by rw [aft_len] at h; exact h) - p.2.2 else if (i : Int) = p.2.1 then l[i]'(by rw [aft_len] at h; exact h) + p.2.2 else l[i]'(by rw [aft_len] at h; exact h) := by
  simp only [aft, List.getElem_mapIdx]
theorem afts_len : ∀ (ps : List Pour) (l : List Int), (ps.foldl aft l).length = l.length
  | [], l => rfl
  | p :: ps, l => by rw [List.foldl_cons, afts_len ps, aft_len]
theorem doable_app : ∀ {ps qs : List Pour} {l : List Int}, Doable l (ps ++ qs) ↔ Doable l ps ∧ Doable (ps.foldl aft l) qs
  | [], qs, l => by
    rw [List.nil_append]
    exact ⟨fun h => ⟨trivial, h⟩, fun h => h.2⟩
  | p :: ps, qs, l => by
    constructor
    · rintro ⟨h1, h2, h3⟩
      have := doable_app.mp h3
      exact ⟨⟨h1, h2, this.1⟩, this.2⟩
    · rintro ⟨⟨h1, h2, h3⟩, h4⟩
      exact ⟨h1, h2, doable_app.mpr ⟨h3, h4⟩⟩
theorem aft_nn {l : List Int} {p : Pour} (h0 : ∀ x ∈ l, 0 ≤ x) (hp : 0 ≤ p.2.2) (h : Can l p) : ∀ x ∈ aft l p, 0 ≤ x := fun x hx => by
  unfold aft at hx
  obtain ⟨i, hi, e⟩ := List.getElem_of_mem hx
  rw [List.length_mapIdx] at hi
  rw [List.getElem_mapIdx] at e
  have a := h0 l[i] (List.getElem_mem hi)
  subst e
  split
  · rename_i c
    have := h i hi c
    omega
  · split <;> omega
/-- one pour k times is k pours of one -/
theorem aft_more (l : List Int) (f : List Int) (to a b : Int) : aft (aft l (f, to, a)) (f, to, b) = aft l (f, to, a + b) := by
  unfold aft
  refine List.ext_getElem? fun i => ?_
  simp only [List.getElem?_mapIdx, Option.map_map]
  cases l[i]? with
  | none => rfl
  | some x =>
    simp only [Option.map_some]
    congr 1
    by_cases c : (i : Int) ∈ f
    · simp only [c, if_true, Function.comp]
      omega
    · simp only [c, if_false, Function.comp]
      by_cases d : (i : Int) = to
      · simp only [d, if_true, Function.comp]
        omega
      · simp only [d, if_false, Function.comp]
theorem pour_one {n : Int} {p : Pour} (h : PourOk n p) : PourOk n (p.1, p.2.1, 1) := ⟨h.ne, h.le, h.asc, h.rng, h.to0, h.to1, h.nin, by dsimp only; omega⟩
theorem doable_rep {n : Int} {f : List Int} {to : Int} (ho : PourOk n (f, to, 1)) : ∀ (k : Nat) (l : List Int), (l.length : Int) = n → Can l (f, to, (k : Int)) → Doable l (List.replicate k (f, to, 1)) ∧ (List.replicate k (f, to, 1)).foldl aft l = aft l (f, to, (k : Int))
  | 0, l, _, _ => ⟨trivial, by
    show l = aft l (f, to, 0)
    unfold aft
    refine List.ext_getElem? fun i => ?_
    rw [List.getElem?_mapIdx]
    cases l[i]? with
    | none => rfl
    | some x => simp⟩
  | k + 1, l, hl, hc => by
    have c1 : Can l (f, to, 1) := fun i hi hm => by
      have := hc i hi hm
      dsimp only at this ⊢
      omega
    have c2 : Can (aft l (f, to, 1)) (f, to, (k : Int)) := fun i hi hm => by
      rw [aft_len] at hi
      have := hc i hi hm
      have hm' : (i : Int) ∈ f := hm
      rw [aft_get, if_pos hm']
      dsimp only at this ⊢
      omega
    obtain ⟨g1, g2⟩ := doable_rep ho k (aft l (f, to, 1)) (by rw [aft_len]; exact hl) c2
    rw [List.replicate_succ]
    refine ⟨⟨by rw [hl]; exact ho, c1, g1⟩, ?_⟩
    rw [List.foldl_cons, g2, aft_more]
    congr 2
    have : (1 : Int) + (k : Int) = ((k + 1 : Nat) : Int) := by omega
    rw [this]
theorem mapIdx_set (l : List Int) (f : Nat → Int → Int) (i : Nat) (y : Int) (g : Nat → Int → Int) (h1 : ∀ j x, j ≠ i → g j x = f j x) (h2 : ∀ x, l[i]? = some x → g i x = y) : (l.mapIdx f).set i y = l.mapIdx g := by
  refine List.ext_getElem? fun j => ?_
  rw [List.getElem?_mapIdx]
  by_cases e : i = j
  · subst e
    by_cases hi : i < l.length
    · rw [List.getElem?_set_self (by rw [List.length_mapIdx]; exact hi), List.getElem?_eq_getElem hi]
      simp only [Option.map_some]
      rw [h2 _ (List.getElem?_eq_getElem hi)]
    · rw [List.getElem?_eq_none (by rw [List.length_set, List.length_mapIdx]; omega), List.getElem?_eq_none (by omega)]
      rfl
  · rw [List.getElem?_set_ne e, List.getElem?_mapIdx]
    cases l[j]? with
    | none => rfl
    | some x =>
      simp only [Option.map_some]
      rw [h1 j x (fun k => e k.symm)]
theorem below_ok (x n : Int) : m_is_below x n = .ok (decide (0 ≤ x) && decide (x < n)) := by
  unfold m_is_below b_is_below
  simp only [chain_ok, andR_ok, bind_ok]
  rfl
theorem froms_ok {n : Int} {p : Pour} (h : PourOk n p) : m_are_froms p.1 n = .ok true := by
  refine ret_eq ?_
  unfold m_are_froms b_are_froms
  refine ret_fin ?_
  have h1 := len_pos h.ne
  have h2 := h.le
  rw [decide_eq_false (show ¬((p.1.length : Int) < 1) by omega), decide_eq_false (show ¬((5 : Int) < p.1.length) by omega)]
  simp only [orR_ok, Bool.not_true, Bool.or_self, ifR_f, bind_ok]
  refine ret_flb (ret_for (fun (d t : List Int) (s : Int) => d ++ t = p.1 ∧ ∀ y ∈ t, s < y) ?_ ?_ _ [] _ ⟨rfl, fun y hy => by have := h.rng y hy; omega⟩)
  · rintro d x t s ⟨e, hs⟩
    have hx : x ∈ p.1 := by rw [← e]; simp
    have hr := h.rng x hx
    have hsx := hs x List.mem_cons_self
    rw [below_ok, decide_eq_true hr.1, decide_eq_true hr.2, decide_eq_false (show ¬x ≤ s by omega)]
    simp only [bind_ok, orR_ok, Bool.and_self, Bool.not_true, Bool.or_self, ifR_f]
    refine ret_ok ⟨by rw [List.append_assoc]; exact e, fun y hy => ?_⟩
    have := h.asc
    rw [← e] at this
    exact (List.pairwise_cons.mp (List.pairwise_append.mp this).2.1).1 y hy
  · rintro d s _
    exact ret_ok rfl
theorem is_pour_ok {n : Int} {p : Pour} (h : PourOk n p) : m_is_pour p n = .ok true := by
  unfold m_is_pour b_is_pour
  rw [froms_ok h, below_ok, decide_eq_true h.to0, decide_eq_true h.to1, decide_eq_false h.nin, decide_eq_true h.pos]
  rfl
theorem loadb_ok (l : List Int) (plan : List Pour) (h : Doable l plan) : m_load_behind l plan = .ok (plan.foldl aft l) := by
  refine ret_eq ?_
  unfold m_load_behind b_load_behind
  refine ret_fin ?_
  simp only [bind_ok]
  refine ret_flb (ret_for (fun (d t : List (Int × Pour)) (s : List Int) => Doable s (t.map Prod.snd) ∧ (t.map Prod.snd).foldl aft s = plan.foldl aft l) ?_ ?_ _ [] _ ⟨by rw [zip_map_snd]; exact h, by rw [zip_map_snd]⟩)
  · rintro d ⟨j, p⟩ t s ⟨⟨ho, hc, hd⟩, e⟩
    dsimp only
    dsimp only at ho hc hd e
    rw [is_pour_ok ho]
    simp only [bind_ok, Bool.not_true, ifR_f]
    refine ret_flb (ret_for (fun (d t : List Int) (s2 : List Int) => d ++ t = p.1 ∧ s2 = s.mapIdx fun i x => if (i : Int) ∈ d then x - p.2.2 else x) ?_ ?_ _ [] _ ⟨rfl, by
      refine List.ext_getElem? fun j => ?_
      rw [List.getElem?_mapIdx]
      cases s[j]? <;> simp⟩)
    · rintro d x t s2 ⟨e, hs⟩
      have hx : x ∈ p.1 := by rw [← e]; simp
      have hr := ho.rng x hx
      have nd : x ∉ d := fun k => by
        have := asc_nodup ho.asc
        rw [← e] at this
        exact (List.nodup_append.mp this).2.2 x k x (by simp) rfl
      have sl : s2.length = s.length := by rw [hs, List.length_mapIdx]
      have ex : ((x.toNat : Nat) : Int) = x := by omega
      have val : s2[x.toNat]'(by omega) = s[x.toNat]'(by omega) := by
        subst hs
        rw [List.getElem_mapIdx]
        simp [ex, nd]
      have can := hc x.toNat (by omega) (by rw [ex]; exact hx)
      rw [ixQ_ok (by omega) (by omega), getQ_ok (by omega) (by omega), val]
      simp only [bind_ok, chk_ok]
      rw [decide_eq_false (by omega), ifR_f]
      refine ret_ok ⟨by rw [List.append_assoc]; exact e, ?_⟩
      subst hs
      refine mapIdx_set s _ _ _ _ (fun j y hj => ?_) fun y hy => ?_
      · have : (j : Int) ≠ x := fun k => hj (by omega)
        simp [this]
      · rw [List.getElem?_eq_getElem (by omega)] at hy
        have hy' := Option.some.inj hy
        simp [ex, nd, hy']
    · rintro d s2 ⟨e2, hs⟩
      rw [List.append_nil] at e2
      subst e2
      have sl : s2.length = s.length := by rw [hs, List.length_mapIdx]
      have t0 := ho.to0
      have t1 := ho.to1
      have ex : ((p.2.1.toNat : Nat) : Int) = p.2.1 := by omega
      dsimp only
      rw [getQ_ok (by omega) (by omega)]
      simp only [bind_ok, chk_ok]
      have ea : s2.set p.2.1.toNat (s2[p.2.1.toNat]'(by omega) + p.2.2) = aft s p := by
        subst hs
        unfold aft
        refine mapIdx_set s _ _ _ _ (fun j y hj => ?_) fun y hy => ?_
        · have : (j : Int) ≠ p.2.1 := fun k => hj (by omega)
          simp [this]
        · rw [List.getElem?_eq_getElem (by omega)] at hy
          have hy' := Option.some.inj hy
          rw [List.getElem_mapIdx]
          simp [ex, ho.nin, hy']
      rw [ea]
      exact ret_ok ⟨hd, e⟩
  · rintro d s ⟨_, e⟩
    exact ret_ok e
/-! ### rising rows, the pours of a load -/
abbrev ltW : List Int → List Int → Bool := Ordl.lt (eV eI)
def rrF (ns : List Int) : List (List Int) := ns.foldl (fun found k => found ++ found.map (· ++ [k])) [[]]
theorem rr_app (ns : List Int) (k : Int) : rrF (ns ++ [k]) = rrF ns ++ (rrF ns).map (· ++ [k]) := by
  unfold rrF
  rw [List.foldl_append]
  rfl
theorem rr_ind {P : List Int → Prop} (h0 : P []) (h1 : ∀ ns k, P ns → P (ns ++ [k])) (ns : List Int) : P ns := by
  have : ∀ (n : Nat) (ns : List Int), ns.length = n → P ns := by
    intro n
    induction n with
    | zero =>
      intro ns h
      rw [List.length_eq_zero_iff.mp h]
      exact h0
    | succ n ih =>
      intro ns h
      have hn : ns ≠ [] := fun z => by rw [z] at h; cases h
      rw [← List.dropLast_concat_getLast hn]
      exact h1 _ _ (ih _ (by rw [List.length_dropLast, h]; rfl))
  exact this _ ns rfl
theorem rr_len (ns : List Int) : (rrF ns).length = 2 ^ ns.length := rr_ind (P := fun ns => (rrF ns).length = 2 ^ ns.length) rfl (fun ns k h => by
  rw [rr_app, List.length_append, List.length_map, h, List.length_append, List.length_singleton, Nat.pow_succ]
  omega) ns
theorem rr_sub (ns : List Int) : ∀ f ∈ rrF ns, f.Sublist ns := rr_ind (P := fun ns => ∀ f ∈ rrF ns, f.Sublist ns) (fun f hf => by
  have : f = [] := by simpa [rrF] using hf
  rw [this]
  exact .refl _) (fun ns k h f hf => by
  rw [rr_app] at hf
  rcases List.mem_append.mp hf with q | q
  · exact (h f q).trans (List.sublist_append_left _ _)
  · obtain ⟨g, hg, rfl⟩ := List.mem_map.mp q
    exact List.Sublist.append (h g hg) (.refl _)) ns
theorem rr_head (ns : List Int) : ∃ t, rrF ns = [] :: t := rr_ind (P := fun ns => ∃ t, rrF ns = [] :: t) ⟨[], rfl⟩ (fun ns k h => by
  obtain ⟨t, e⟩ := h
  rw [rr_app, e]
  exact ⟨_, rfl⟩) ns
theorem rr_le {d t ns : List Int} {x : Int} (h : d ++ x :: t = ns) (h6 : ns.length ≤ 6) : (rrF d).length ≤ 64 ∧ d.length < 6 := by
  have := congrArg List.length h
  rw [List.length_append, List.length_cons] at this
  have hd : d.length < 6 := by omega
  rw [rr_len]
  exact ⟨Nat.le_trans (Nat.pow_le_pow_right (by omega) (show d.length ≤ 6 by omega)) (by decide), hd⟩
theorem rr_one {x : Int} {s : List (List Int)} (h : s.length ≤ 64) (hf : ∀ f ∈ s, f.length ≤ 64) : lcR (fun _ => Res.ok true) (fun (y : List Int) => chk (catQ y [x])) s = .ok (s.map (· ++ [x])) := by
  rw [lcR_filter (p := fun _ => true) (g := fun y => y ++ [x]) (fun _ _ => rfl) (fun y hy _ => by
    rw [catQ_ok (by have := hf y hy; rw [List.length_singleton]; omega)]
    rfl) (by show _ ≤ 16777216; omega), List.filter_eq_self.mpr (fun _ _ => rfl)]
theorem sub_len {f ns : List Int} (h : f.Sublist ns) (h6 : ns.length ≤ 6) : f.length ≤ 6 := Nat.le_trans h.length_le h6
theorem rising_ok (ns : List Int) (h6 : ns.length ≤ 6) : m_rising_rows ns = .ok (rrF ns) := by
  refine ret_eq ?_
  unfold m_rising_rows b_rising_rows
  refine ret_fin ?_
  simp only [bind_ok]
  refine ret_flb (ret_for (fun (d t : List Int) (s : List (List Int)) => d ++ t = ns ∧ s = rrF d) ?_ ?_ _ [] _ ⟨rfl, rfl⟩)
  · rintro d x t s ⟨e, rfl⟩
    obtain ⟨h1, h2⟩ := rr_le e h6
    rw [rr_one h1 fun f hf => by have := (rr_sub d f hf).length_le; omega]
    simp only [bind_ok]
    rw [catQ_ok (by rw [List.length_map]; omega)]
    simp only [bind_ok, chk_ok]
    refine ret_ok ⟨by rw [List.append_assoc]; exact e, (rr_app d x).symm⟩
  · rintro d s ⟨e, rfl⟩
    rw [List.append_nil] at e
    rw [e]
    exact ret_ok rfl
def szP (n : Int) (f : List Int) : Bool := decide ((2 : Int) ≤ (f.length : Int)) && decide ((f.length : Int) < n)
def setsF (n : Int) : List (List Int) := sortL ltW ((rrF (rangeL 0 n)).filter (szP n))
theorem range6 {n : Int} (h0 : 0 ≤ n) (h6 : n ≤ 6) : (rangeL 0 n).length ≤ 6 := by
  rw [len_range]
  omega
theorem sets_filter (n : Int) : (sortL ltW (rrF (rangeL 0 n))).filter (szP n) = setsF n :=
  asc_unique (lt := ltW) (List.Pairwise.sublist List.filter_sublist (sort_asc _)) (sort_asc _) (((sortL_perm _).filter _).trans (sortL_perm _).symm)
theorem range_asc (n : Int) : (rangeL 0 n).Pairwise (· < ·) := by
  unfold rangeL
  refine List.pairwise_map.mpr (List.Pairwise.imp (fun {a b} h => ?_) List.pairwise_lt_range)
  omega
structure SetOk (n : Int) (f : List Int) : Prop where
  two : 2 ≤ f.length
  lt : (f.length : Int) < n
  asc : f.Pairwise (· < ·)
  rng : ∀ t ∈ f, 0 ≤ t ∧ t < n
theorem sets_mem {n : Int} {f : List Int} (h : f ∈ setsF n) : SetOk n f := by
  unfold setsF at h
  have := (sortL_perm _).mem_iff.mp h
  obtain ⟨h1, h2⟩ := List.mem_filter.mp this
  have hs := rr_sub _ f h1
  unfold szP at h2
  rw [Bool.and_eq_true] at h2
  have a := of_decide_eq_true h2.1
  exact ⟨by omega, of_decide_eq_true h2.2, List.Pairwise.sublist hs (range_asc n), fun t ht => mem_range.mp (hs.mem ht)⟩
theorem sets_len {n : Int} (h0 : 0 ≤ n) (h6 : n ≤ 6) : (setsF n).length ≤ 64 := by
  unfold setsF
  rw [(sortL_perm _).length_eq]
  refine Nat.le_trans (List.length_filter_le _ _) ?_
  rw [rr_len]
  exact Nat.le_trans (Nat.pow_le_pow_right (by omega) (range6 h0 h6)) (by decide)
/-- the least number of the tapes f -/
def mnZ (l f : List Int) : Int := (extL (Ordl.lt eI) false (f.map (gI l))).getD 0
theorem mnZ_ok (l f : List Int) (h : f ≠ []) : extL (Ordl.lt eI) false (f.map (gI l)) = some (mnZ l f) ∧ (∃ t ∈ f, gI l t = mnZ l f) ∧ ∀ t ∈ f, mnZ l f ≤ gI l t := by
  obtain ⟨m, e, h1, h2⟩ := min_of (f.map (gI l)) (by simpa using h)
  have em : mnZ l f = m := by
    unfold mnZ
    rw [e]
    rfl
  rw [em]
  obtain ⟨t, ht, et⟩ := List.mem_map.mp h1
  exact ⟨e, ⟨t, ht, et⟩, fun t ht => h2 _ (List.mem_map_of_mem ht)⟩
theorem lc_gI (l f : List Int) (h : ∀ t ∈ f, 0 ≤ t ∧ t < (l.length : Int)) (h6 : f.length ≤ 100) : lcR (fun _ => Res.ok true) (fun (x : Int) => chk (ixQ l x)) f = .ok (f.map (gI l)) := by
  rw [lcR_filter (p := fun _ => true) (g := gI l) (fun _ _ => rfl) (fun x hx _ => by
    rw [ix_gI (h x hx).1 (h x hx).2]
    rfl) (by show _ ≤ 16777216; omega), List.filter_eq_self.mpr (fun _ _ => rfl)]
def toP (f : List Int) (to : Int) : Bool := !decide (to ∈ f)
def pz1 (l f : List Int) (to : Int) : List Pour := (rangeL 1 (mnZ l f + 1)).map fun t => (f, to, t)
def pzF (l f : List Int) : List Pour := ((rangeL 0 l.length).filter (toP f)).flatMap (pz1 l f)
def PZ (l : List Int) : List Pour := (setsF l.length).flatMap (pzF l)
theorem flat_le {α β : Type} {n : Nat} (f : α → List β) : ∀ ls : List α, (∀ l ∈ ls, (f l).length ≤ n) → (ls.flatMap f).length ≤ n * ls.length
  | [], _ => Nat.zero_le _
  | l :: ls, h => by
    rw [List.flatMap_cons, List.length_append, List.length_cons, Nat.mul_succ]
    have := flat_le f ls fun x hx => h x (List.mem_cons_of_mem _ hx)
    have := h l List.mem_cons_self
    omega
/-- loads of few tapes with no great numbers -/
structure LdOk (l : List Int) : Prop where
  l3 : 3 ≤ l.length
  l6 : l.length ≤ 6
  nn : ∀ x ∈ l, 0 ≤ x
  le : ∀ x ∈ l, x ≤ 1000
theorem gI_mem {l : List Int} {t : Int} (h0 : 0 ≤ t) (h1 : t < l.length) : gI l t ∈ l := by
  unfold gI
  rw [List.getD_eq_getElem?_getD, List.getElem?_eq_getElem (by omega)]
  exact List.getElem_mem _
theorem mnZ_le {l f : List Int} (hl : LdOk l) (hf : SetOk l.length f) : 0 ≤ mnZ l f ∧ mnZ l f ≤ 1000 := by
  have hn : f ≠ [] := fun z => by have := hf.two; rw [z] at this; simp at this
  obtain ⟨_, ⟨t, ht, e⟩, _⟩ := mnZ_ok l f hn
  have := hf.rng t ht
  have m := gI_mem this.1 this.2
  rw [← e]
  exact ⟨hl.nn _ m, hl.le _ m⟩
theorem pz1_len {l f : List Int} (hl : LdOk l) (hf : SetOk l.length f) (to : Int) : (pz1 l f to).length ≤ 1000 := by
  unfold pz1
  rw [List.length_map, len_range]
  have := mnZ_le hl hf
  omega
theorem pzF_len {l f : List Int} (hl : LdOk l) (hf : SetOk l.length f) (d : List Int) (hd : d.length ≤ 6) : ((d.filter (toP f)).flatMap (pz1 l f)).length ≤ 6000 := by
  have := flat_le (pz1 l f) (d.filter (toP f)) fun to _ => pz1_len hl hf to
  have := List.length_filter_le (toP f) d
  omega
theorem range_len6 {l : List Int} (hl : LdOk l) : (rangeL 0 l.length).length ≤ 6 := by
  rw [len_range]
  have := hl.l6
  omega
theorem PZ_part {l : List Int} (hl : LdOk l) (d : List (List Int)) (hd : ∀ f ∈ d, SetOk l.length f) (h64 : d.length ≤ 64) : (d.flatMap (pzF l)).length ≤ 384000 := by
  have := flat_le (pzF l) d fun f hf => pzF_len hl (hd f hf) _ (range_len6 hl)
  omega
theorem set_ne {n : Int} {f : List Int} (h : SetOk n f) : f ≠ [] := fun z => by have := h.two; rw [z] at this; simp at this
theorem pre_len {α : Type} {d t l : List α} (h : d ++ t = l) : d.length ≤ l.length := by
  rw [← h, List.length_append]
  omega
theorem pours_ok (l : List Int) (hl : LdOk l) : m_pours_of l = .ok (PZ l) := by
  refine ret_eq ?_
  unfold m_pours_of b_pours_of
  refine ret_fin ?_
  simp only [bind_ok]
  have l6 := hl.l6
  rw [rgQ_ok (by omega) (by omega)]
  simp only [bind_ok, chk_ok]
  have r6 := range_len6 hl
  rw [rising_ok _ r6]
  simp only [bind_ok, chk_ok]
  obtain ⟨t0, e0⟩ := rr_head (rangeL 0 (l.length : Int))
  rw [e0, sortE_ok, ← e0]
  simp only [bind_ok, chk_ok]
  have sf := sets_filter (l.length : Int)
  refine ret_flb (ret_for (fun (d t : List (List Int)) (s : List Pour) => d ++ t = sortL ltW (rrF (rangeL 0 (l.length : Int))) ∧ s = (d.filter (szP l.length)).flatMap (pzF l)) ?_ ?_ _ [] _ ⟨rfl, rfl⟩)
  · rintro d f t s ⟨e, rfl⟩
    have pre : ∀ g ∈ d.filter (szP l.length), SetOk l.length g := fun g hg => by
      refine sets_mem ?_
      rw [← sf, ← e, List.filter_append]
      exact List.mem_append_left _ hg
    have prl : (d.filter (szP l.length)).length ≤ 64 := by
      have := sets_len (n := (l.length : Int)) (by omega) (by omega)
      rw [← sf, ← e, List.filter_append, List.length_append] at this
      omega
    have sl := PZ_part hl _ pre prl
    rw [chain_ok]
    show Ret (Res.flb (ifR (Res.ok (szP l.length f)) _ _) _) _
    cases c : szP l.length f with
    | false =>
      simp only [ifR_f]
      refine ret_flb (ret_ok (ret_ok ⟨by rw [List.append_assoc]; exact e, ?_⟩))
      rw [List.filter_append, List.filter_cons_of_neg (by rw [c]; exact Bool.false_ne_true), List.filter_nil, List.append_nil]
    | true =>
      have hf : SetOk l.length f := by
        refine sets_mem ?_
        rw [← sf, ← e, List.filter_append, List.filter_cons_of_pos c]
        exact List.mem_append_right _ List.mem_cons_self
      simp only [ifR_t]
      have f6 : f.length ≤ 100 := by have := hf.lt; omega
      rw [lc_gI l f hf.rng f6]
      simp only [bind_ok]
      rw [(mnZ_ok l f (set_ne hf)).1]
      simp only [bind_ok, chk_ok]
      rw [okRange_ok (by omega) (by omega) (by omega) (by omega)]
      simp only [bind_ok, chk_ok]
      have mz := mnZ_le hl hf
      refine ret_flb (ret_flb (ret_for (fun (d2 t2 : List Int) (s2 : List Pour) => d2 ++ t2 = rangeL 0 (l.length : Int) ∧ s2 = (d.filter (szP l.length)).flatMap (pzF l) ++ (d2.filter (toP f)).flatMap (pz1 l f)) ?_ ?_ _ [] _ ⟨rfl, by rw [List.filter_nil, List.flatMap_nil, List.append_nil]⟩))
      · rintro d2 to t2 s2 ⟨e2, rfl⟩
        have p6 := pre_len (d := d2) (t := to :: t2) e2
        have pl := pzF_len hl hf d2 (by omega)
        have p1 := pz1_len hl hf to
        show Ret (Res.flb (ifR (Res.ok (toP f to)) _ _) _) _
        cases c2 : toP f to with
        | false =>
          simp only [ifR_f]
          refine ret_flb (ret_ok (ret_ok ⟨by rw [List.append_assoc]; exact e2, ?_⟩))
          rw [List.filter_append, List.filter_cons_of_neg (by rw [c2]; exact Bool.false_ne_true), List.filter_nil, List.append_nil]
        | true =>
          simp only [ifR_t]
          rw [okRange_ok (by omega) (by omega) (by omega) (by omega)]
          simp only [bind_ok, chk_ok]
          rw [lcR_filter (p := fun _ => true) (g := fun t => ((f, to, t) : Pour)) (fun _ _ => rfl) (fun _ _ _ => rfl) (by show _ ≤ 16777216; rw [len_range]; omega), List.filter_eq_self.mpr (fun _ _ => rfl)]
          simp only [bind_ok]
          rw [catQ_ok (by
            rw [List.length_append]
            have : ((rangeL 1 (mnZ l f + 1)).map fun t => ((f, to, t) : Pour)).length ≤ 1000 := p1
            omega)]
          simp only [bind_ok, chk_ok]
          refine ret_flb (ret_ok (ret_ok ⟨by rw [List.append_assoc]; exact e2, ?_⟩))
          rw [List.filter_append, List.filter_cons_of_pos c2, List.filter_nil, List.flatMap_append, List.flatMap_cons, List.flatMap_nil, List.append_nil, List.append_assoc]
          rfl
      · rintro d2 s2 ⟨e2, rfl⟩
        rw [List.append_nil] at e2
        refine ret_ok (ret_ok ⟨by rw [List.append_assoc]; exact e, ?_⟩)
        rw [List.filter_append, List.filter_cons_of_pos c, List.filter_nil, List.flatMap_append, List.flatMap_cons, List.flatMap_nil, List.append_nil, e2]
        rfl
  · rintro d s ⟨e, rfl⟩
    rw [List.append_nil] at e
    rw [e, sf]
    exact ret_ok rfl
/-- what a pour of these is -/
theorem PZ_mem {l : List Int} (hl : LdOk l) {p : Pour} (h : p ∈ PZ l) : PourOk l.length p ∧ Can l p ∧ 2 ≤ p.1.length := by
  obtain ⟨f, hf, h1⟩ := List.mem_flatMap.mp h
  have sf := sets_mem hf
  obtain ⟨to, ht, h2⟩ := List.mem_flatMap.mp h1
  obtain ⟨h3, h4⟩ := List.mem_filter.mp ht
  obtain ⟨t0, t1⟩ := mem_range.mp h3
  obtain ⟨t, h5, rfl⟩ := List.mem_map.mp h2
  obtain ⟨k0, k1⟩ := mem_range.mp h5
  have l6 := hl.l6
  have lt := sf.lt
  refine ⟨⟨set_ne sf, by dsimp only; omega, sf.asc, sf.rng, t0, t1, fun hm => ?_, by dsimp only; omega⟩, fun i hi hm => ?_, sf.two⟩
  · unfold toP at h4
    have hm' : to ∈ f := hm
    rw [decide_eq_true hm'] at h4
    cases h4
  · have := (mnZ_ok l f (set_ne sf)).2.2 i hm
    have e : gI l (i : Int) = l[i] := by
      unfold gI
      rw [List.getD_eq_getElem?_getD, Int.toNat_natCast, List.getElem?_eq_getElem hi]
      rfl
    rw [e] at this
    dsimp only
    omega
/-- it ends well, or with an exception that is known -/
def RetX {α : Type} (m : Res α) (P : α → Prop) (Q : Exn → Prop) : Prop := (∃ x, m = .ok x ∧ P x) ∨ ∃ e, m = .er e ∧ Q e
section
variable {α β τ1 τ ι : Type}
theorem rx_ret {m : Res α} {P : α → Prop} {Q : Exn → Prop} (h : Ret m P) : RetX m P Q := .inl h
theorem rx_ok {x : α} {P : α → Prop} {Q : Exn → Prop} (h : P x) : RetX (.ok x) P Q := .inl ⟨x, rfl, h⟩
theorem rx_er {e : Exn} {P : α → Prop} {Q : Exn → Prop} (h : Q e) : RetX (.er e : Res α) P Q := .inr ⟨e, rfl, h⟩
theorem rx_bind {m : Res α} {f : α → Res β} {P : β → Prop} {Q : Exn → Prop} (h : RetX m (fun x => RetX (f x) P Q) Q) : RetX (m.bind f) P Q := by
  rcases h with ⟨x, rfl, h⟩ | ⟨e, rfl, h⟩
  · exact h
  · exact .inr ⟨e, rfl, h⟩
theorem rx_flb {m : Res (Fl α β τ1)} {k : τ1 → Res (Fl α β τ)} {P : Fl α β τ → Prop} {Q : Exn → Prop} (h : RetX m (fun fl => match fl with
    | .nx s => RetX (k s) P Q
    | .rt x => P (.rt x)
    | .bk s => P (.bk s)
    | .ct s => P (.ct s)) Q) : RetX (m.flb k) P Q := by
  rcases h with ⟨fl, rfl, h⟩ | ⟨e, rfl, h⟩
  · cases fl with
    | nx s => exact h
    | rt x => exact .inl ⟨_, rfl, h⟩
    | bk s => exact .inl ⟨_, rfl, h⟩
    | ct s => exact .inl ⟨_, rfl, h⟩
  · exact .inr ⟨e, rfl, h⟩
theorem rx_for {f : ι → τ1 → Res (Fl α τ1 τ1)} {P : Fl α β τ1 → Prop} {Q : Exn → Prop} (I : List ι → List ι → τ1 → Prop)
    (step : ∀ d x t s, I d (x :: t) s → RetX (f x s) (fun fl => match fl with
      | .nx s' => I (d ++ [x]) t s'
      | .ct s' => I (d ++ [x]) t s'
      | .bk s' => P (.nx s')
      | .rt r => P (.rt r)) Q)
    (fin : ∀ d s, I d [] s → P (.nx s)) : ∀ (xs d : List ι) (s : τ1), I d xs s → RetX (forR f xs s) P Q
  | [], d, s, h => .inl ⟨_, rfl, fin d s h⟩
  | x :: xs, d, s, h => by
    rcases step d x xs s h with ⟨fl, e, k⟩ | ⟨e, ee, k⟩
    · rw [forR, e]
      cases fl with
      | nx s' => exact rx_for I step fin xs _ s' k
      | ct s' => exact rx_for I step fin xs _ s' k
      | bk s' => exact .inl ⟨_, rfl, k⟩
      | rt r => exact .inl ⟨_, rfl, k⟩
    · rw [forR, ee]
      exact .inr ⟨e, rfl, k⟩
end
/-! ### many phases -/
section
variable {α β τ1 : Type}
theorem rx_while {c : τ1 → Res Bool} {f : τ1 → Res (Fl α τ1 τ1)} {P : Fl α β τ1 → Prop} {Q : Exn → Prop} (I : τ1 → Prop) (μ : τ1 → Nat)
    (step : ∀ s, I s → RetX (c s) (fun b => if b = true then RetX (f s) (fun fl => (match fl with
      | .nx s' => I s' ∧ μ s' < μ s
      | .ct s' => I s' ∧ μ s' < μ s
      | .bk s' => P (.nx s')
      | .rt r => P (.rt r))) Q else P (.nx s)) Q) : ∀ (n : Nat) (s : τ1), I s → μ s < n → RetX (whileR c f n s) P Q
  | 0, s, _, h => absurd h (Nat.not_lt_zero _)
  | n + 1, s, h, hn => by
    rcases step s h with ⟨b, e, k⟩ | ⟨x, e, k⟩
    · rw [whileR, e]
      cases b with
      | false => exact .inl ⟨_, rfl, k⟩
      | true =>
        rcases (show RetX (f s) _ Q from k) with ⟨fl, e2, k2⟩ | ⟨x, e2, k2⟩
        · rw [e2]
          cases fl with
          | nx s' => exact rx_while I μ step n s' k2.1 (by omega)
          | ct s' => exact rx_while I μ step n s' k2.1 (by omega)
          | bk s' => exact .inl ⟨_, rfl, k2⟩
          | rt r => exact .inl ⟨_, rfl, k2⟩
        · rw [e2]
          exact .inr ⟨x, rfl, k2⟩
    · rw [whileR, e]
      exact .inr ⟨x, rfl, k⟩
end
theorem rx_fin {α β τ : Type} {m : Res (Fl α β τ)} {P : α → Prop} {Q : Exn → Prop} (h : RetX m (fun fl => match fl with
    | .rt x => P x
    | _ => False) Q) : RetX (Res.fin m) P Q := by
  rcases h with ⟨fl, rfl, h⟩ | ⟨e, rfl, h⟩
  · cases fl with
    | rt x => exact .inl ⟨x, rfl, h⟩
    | nx s => exact h.elim
    | bk s => exact h.elim
    | ct s => exact h.elim
  · exact .inr ⟨e, rfl, h⟩
theorem rx_ifD {α : Type} {c : Prop} [Decidable c] {x y : Res α} {P : α → Prop} {Q : Exn → Prop} (h1 : c → RetX x P Q) (h2 : ¬c → RetX y P Q) : RetX (ifR (.ok (decide c)) x y) P Q := by
  by_cases h : c
  · rw [decide_eq_true h, ifR_t]
    exact h1 h
  · rw [decide_eq_false h, ifR_f]
    exact h2 h
/-! ### the search, level by level -/
theorem sum_setI : ∀ (l : List Int) (i : Nat) (h : i < l.length) (y : Int), (l.set i y).sum = l.sum - l[i] + y
  | x :: l, 0, h, y => by
    rw [List.set_cons_zero, List.sum_cons, List.sum_cons]
    show y + l.sum = x + l.sum - x + y
    omega
  | x :: l, i + 1, h, y => by
    rw [List.set_cons_succ, List.sum_cons, List.sum_cons, sum_setI l i (by simpa using h) y]
    show x + (l.sum - l[i]'(by simpa using h) + y) = x + l.sum - l[i]'(by simpa using h) + y
    omega
theorem sub_sum (l : List Int) (t : Int) (ds : List Int) : ds.Nodup → (∀ x ∈ ds, 0 ≤ x ∧ x < (l.length : Int)) → (l.mapIdx fun i x => if (i : Int) ∈ ds then x - t else x).sum = l.sum - t * ds.length :=
  rr_ind (P := fun ds => ds.Nodup → (∀ x ∈ ds, 0 ≤ x ∧ x < (l.length : Int)) → (l.mapIdx fun i x => if (i : Int) ∈ ds then x - t else x).sum = l.sum - t * ds.length) (fun _ _ => by
    have : (l.mapIdx fun i x => if (i : Int) ∈ ([] : List Int) then x - t else x) = l := by
      refine List.ext_getElem? fun j => ?_
      rw [List.getElem?_mapIdx]
      cases l[j]? <;> simp
    rw [this]
    simp) (fun d x ih nd hr => by
    have nd' := List.nodup_append.mp nd
    have hx := hr x (by simp)
    have nx : x ∉ d := fun k => nd'.2.2 x k x (by simp) rfl
    have ex : ((x.toNat : Nat) : Int) = x := by omega
    have e := mapIdx_set l (fun i y => if (i : Int) ∈ d then y - t else y) x.toNat (l[x.toNat]'(by omega) - t) (fun i y => if (i : Int) ∈ d ++ [x] then y - t else y) (fun j y hj => by
      have : (j : Int) ≠ x := fun k => hj (by omega)
      simp [this]) fun y hy => by
      rw [List.getElem?_eq_getElem (by omega)] at hy
      have hy' := Option.some.inj hy
      simp [ex, nx, hy']
    rw [← e, sum_setI _ _ (by rw [List.length_mapIdx]; omega), ih nd'.1 fun y hy => hr y (List.mem_append_left _ hy), List.getElem_mapIdx, List.length_append, List.length_singleton]
    have e2 : (if ((x.toNat : Nat) : Int) ∈ d then l[x.toNat]'(by omega) - t else l[x.toNat]'(by omega)) = l[x.toNat]'(by omega) := by
      rw [ex, if_neg nx]
    rw [e2]
    have e3 : t * ((d.length + 1 : Nat) : Int) = t * d.length + t := by
      rw [show ((d.length + 1 : Nat) : Int) = (d.length : Int) + 1 by omega, Int.mul_add, Int.mul_one]
    rw [e3]
    omega) ds
theorem aft_sum (l : List Int) (p : Pour) (ho : PourOk l.length p) : (aft l p).sum = l.sum - p.2.2 * p.1.length + p.2.2 := by
  have t0 := ho.to0
  have t1 := ho.to1
  have ex : ((p.2.1.toNat : Nat) : Int) = p.2.1 := by omega
  have e := mapIdx_set l (fun i x => if (i : Int) ∈ p.1 then x - p.2.2 else x) p.2.1.toNat (l[p.2.1.toNat]'(by omega) + p.2.2) (fun i x => if (i : Int) ∈ p.1 then x - p.2.2 else if (i : Int) = p.2.1 then x + p.2.2 else x) (fun j y hj => by
    have : (j : Int) ≠ p.2.1 := fun k => hj (by omega)
    simp [this]) fun y hy => by
    rw [List.getElem?_eq_getElem (by omega)] at hy
    have hy' := Option.some.inj hy
    simp [ex, ho.nin, hy']
  unfold aft
  rw [← e, sum_setI _ _ (by rw [List.length_mapIdx]; omega), sub_sum l p.2.2 p.1 (asc_nodup ho.asc) ho.rng, List.getElem_mapIdx]
  have e2 : (if ((p.2.1.toNat : Nat) : Int) ∈ p.1 then l[p.2.1.toNat]'(by omega) - p.2.2 else l[p.2.1.toNat]'(by omega)) = l[p.2.1.toNat]'(by omega) := by
    rw [ex, if_neg ho.nin]
  rw [e2]
  omega
theorem mem_leS : ∀ {l : List Int}, (∀ y ∈ l, 0 ≤ y) → 0 ≤ l.sum ∧ ∀ y ∈ l, y ≤ l.sum
  | [], _ => ⟨Int.le_refl _, fun _ h => nomatch h⟩
  | x :: l, h => by
    obtain ⟨h1, h2⟩ := mem_leS (l := l) fun y hy => h y (List.mem_cons_of_mem _ hy)
    have hx := h x List.mem_cons_self
    rw [List.sum_cons]
    refine ⟨by omega, fun y hy => ?_⟩
    rcases List.mem_cons.mp hy with z | z
    · omega
    · have := h2 y z
      omega
abbrev Item := List Int × List Pour
inductive Out where
  | go (L : List Item)
  | done (pl : List Pour)
  | many
def Out.bind (o : Out) (f : List Item → Out) : Out := match o with
  | .go L => f L
  | .done pl => .done pl
  | .many => .many
def expF (x : Item) : List Pour → List Item → Out
  | [], L => .go L
  | p :: ps, L => if aft x.1 p ∈ L.map (·.1) then expF x ps L else if L.length = 4000 then .many else if (aft x.1 p).sum = 1 then .done (x.2 ++ [p]) else expF x ps (L ++ [(aft x.1 p, x.2 ++ [p])])
def lvlF : List Item → List Item → Out
  | [], L => .go L
  | x :: xs, L => (expF x (PZ x.1) L).bind (lvlF xs)
def srF : Nat → List Item → List Item → Out
  | 0, _, L => .go L
  | k + 1, line, L => (lvlF line L).bind fun L' => srF k (L'.drop L.length) L'
theorem srF_nil : ∀ (k : Nat) (L : List Item), srF k [] L = .go L
  | 0, _ => rfl
  | k + 1, L => by
    show srF k (L.drop L.length) L = .go L
    rw [List.drop_length]
    exact srF_nil k L
structure LOk (n : Nat) (S : Int) (L : List Item) : Prop where
  pos : 1 ≤ L.length
  it : ∀ x ∈ L, x.1.length = n ∧ (∀ y ∈ x.1, 0 ≤ y) ∧ x.1.sum ≤ S
  tl : ∀ x ∈ L.drop 1, x.1.sum < S
  nd : (L.map (·.1)).Nodup
  pl : ∀ x ∈ L, x.2.length < L.length
  le : L.length ≤ 4000
section
variable {n : Nat} {S : Int} {L : List Item} {x : Item}
theorem LOk.ld (h : LOk n S L) (h3 : 3 ≤ n) (h6 : n ≤ 6) (hS : S ≤ 1000) (hx : x ∈ L) : LdOk x.1 := by
  obtain ⟨a, b, c⟩ := h.it x hx
  exact ⟨by omega, by omega, b, fun y hy => by have := (mem_leS b).2 y hy; omega⟩
theorem aft_less {l : List Int} {p : Pour} (ho : PourOk l.length p) (h2 : 2 ≤ p.1.length) : (aft l p).sum < l.sum := by
  rw [aft_sum l p ho]
  have := ho.pos
  have : p.2.2 * 2 ≤ p.2.2 * (p.1.length : Int) := Int.mul_le_mul_of_nonneg_left (by omega) (by omega)
  omega
theorem LOk.add (h : LOk n S L) (h3 : 3 ≤ n) (h6 : n ≤ 6) (hS : S ≤ 1000) (hx : x ∈ L) {p : Pour} (hp : p ∈ PZ x.1) (hn : aft x.1 p ∉ L.map (·.1)) (hl : L.length ≠ 4000) : LOk n S (L ++ [(aft x.1 p, x.2 ++ [p])]) := by
  obtain ⟨ho, hc, h2⟩ := PZ_mem (h.ld h3 h6 hS hx) hp
  obtain ⟨a, b, c⟩ := h.it x hx
  have hp0 := ho.pos
  have ls := aft_less ho h2
  have le := h.le
  have hpos := h.pos
  have new : (aft x.1 p).length = n ∧ (∀ y ∈ aft x.1 p, 0 ≤ y) ∧ (aft x.1 p).sum ≤ S := ⟨by rw [aft_len]; exact a, aft_nn b (by omega) hc, by omega⟩
  refine ⟨by rw [List.length_append]; omega, fun y hy => ?_, fun y hy => ?_, ?_, fun y hy => ?_, by rw [List.length_append, List.length_singleton]; omega⟩
  · rcases List.mem_append.mp hy with z | z
    · exact h.it y z
    · rw [List.mem_singleton] at z
      rw [z]
      exact new
  · rw [List.drop_append_of_le_length hpos] at hy
    rcases List.mem_append.mp hy with z | z
    · exact h.tl y z
    · rw [List.mem_singleton] at z
      rw [z]
      dsimp only
      omega
  · rw [List.map_append, List.map_singleton]
    refine List.nodup_append.mpr ⟨h.nd, (by simp), fun a ha b hb z => ?_⟩
    rw [List.mem_singleton] at hb
    rw [z, hb] at ha
    exact hn ha
  · rw [List.length_append, List.length_singleton]
    rcases List.mem_append.mp hy with z | z
    · have := h.pl y z
      omega
    · rw [List.mem_singleton] at z
      rw [z]
      have := h.pl x hx
      dsimp only
      rw [List.length_append, List.length_singleton]
      omega
end
theorem LOk.one {l : List Int} (nn : ∀ y ∈ l, 0 ≤ y) : LOk l.length l.sum [(l, [])] where
  pos := Nat.le_refl _
  it := fun x hx => by
    rw [List.mem_singleton] at hx
    rw [hx]
    exact ⟨rfl, nn, Int.le_refl _⟩
  tl := fun x hx => (nomatch hx)
  nd := by simp
  pl := fun x hx => by
    rw [List.mem_singleton] at hx
    rw [hx]
    exact Nat.zero_lt_one
  le := by show 1 ≤ 4000; omega
/-- the dict of what is known -/
def kn (L : List Item) : List (List Int × Bool) := L.map fun x => (x.1, true)
theorem kn_len (L : List Item) : (kn L).length = L.length := List.length_map _
theorem kn_mem (L : List Item) (b : List Int) : (dgQ (kn L) b).isSome = decide (b ∈ L.map (·.1)) := by
  have e : (kn L).map (·.1) = L.map (·.1) := by
    unfold kn
    rw [List.map_map]
    rfl
  rw [← e]
  unfold dgQ
  rw [Option.isSome_map, Bool.eq_iff_iff, List.find?_isSome, decide_eq_true_iff]
  constructor
  · rintro ⟨x, hx, e⟩
    exact List.mem_map.mpr ⟨x, hx, of_decide_eq_true e⟩
  · intro h
    obtain ⟨x, hx, e⟩ := List.mem_map.mp h
    exact ⟨x, hx, decide_eq_true e⟩
theorem kn_put (L : List Item) (b : List Int) (pl : List Pour) (h : b ∉ L.map (·.1)) : dpV (kn L) b true = kn (L ++ [(b, pl)]) := by
  unfold dpV
  rw [if_neg (by rw [kn_mem, decide_eq_false h]; exact Bool.false_ne_true)]
  unfold kn
  rw [List.map_append]
  rfl
def outD : Out → PyData
  | .go _ => eN ()
  | .done pl => eL (e3 (eV eI) eI eI) pl
  | .many => eS "many"
/-! ### what a plan told is -/
/-- pours that can be done, one behind the other, by the pours of each load -/
def Pth (l : List Int) : List Pour → List Int → Prop
  | [], b => b = l
  | p :: ps, b => p ∈ PZ l ∧ Pth (aft l p) ps b
theorem Pth.snoc {p : Pour} : ∀ {ps : List Pour} {l b : List Int}, Pth l ps b → p ∈ PZ b → Pth l (ps ++ [p]) (aft b p)
  | [], l, b, h, hp => by
    have e : b = l := h
    rw [e] at hp ⊢
    exact ⟨hp, rfl⟩
  | q :: ps, l, b, h, hp => ⟨h.1, h.2.snoc hp⟩
theorem Pth.end_ : ∀ {ps : List Pour} {l b : List Int}, Pth l ps b → ps.foldl aft l = b
  | [], l, b, h => Eq.symm h
  | q :: ps, l, b, h => h.2.end_
/-- where a plan was found, its items are such -/
def InvO (I J : Item → Prop) (n : Nat) : Out → Prop
  | .go L' => (∀ y ∈ L', I y) ∧ ∀ y ∈ L'.drop n, J y
  | .done pl => ∃ b, (I (b, pl) ∧ J (b, pl)) ∧ b.sum = 1
  | .many => True
theorem expF_inv {I J : Item → Prop} {x : Item} {n : Nat} : ∀ (ps : List Pour) (L : List Item), (∀ p ∈ ps, I (aft x.1 p, x.2 ++ [p]) ∧ J (aft x.1 p, x.2 ++ [p])) → n ≤ L.length → (∀ y ∈ L, I y) → (∀ y ∈ L.drop n, J y) → InvO I J n (expF x ps L)
  | [], L, _, _, h1, h2 => ⟨h1, h2⟩
  | p :: ps, L, hp, hn, h1, h2 => by
    have hq := hp p List.mem_cons_self
    have ht := fun q hq => hp q (List.mem_cons_of_mem _ hq)
    show InvO I J n (if _ then _ else _)
    split
    · exact expF_inv ps L ht hn h1 h2
    · split
      · trivial
      · split
        · rename_i c
          exact ⟨_, hq, c⟩
        · refine expF_inv ps _ ht (by rw [List.length_append]; omega) (fun y hy => ?_) fun y hy => ?_
          · rcases List.mem_append.mp hy with z | z
            · exact h1 y z
            · rw [List.mem_singleton] at z
              rw [z]
              exact hq.1
          · rw [List.drop_append_of_le_length hn] at hy
            rcases List.mem_append.mp hy with z | z
            · exact h2 y z
            · rw [List.mem_singleton] at z
              rw [z]
              exact hq.2
theorem expF_pre {x : Item} : ∀ (ps : List Pour) (L L' : List Item), expF x ps L = .go L' → L <+: L'
  | [], L, L', h => by
    cases h
    exact List.prefix_refl _
  | p :: ps, L, L', h => by
    have h' : (if aft x.1 p ∈ L.map (·.1) then expF x ps L else if L.length = 4000 then .many else if (aft x.1 p).sum = 1 then .done (x.2 ++ [p]) else expF x ps (L ++ [(aft x.1 p, x.2 ++ [p])])) = Out.go L' := h
    split at h'
    · exact expF_pre ps L L' h'
    · split at h'
      · cases h'
      · split at h'
        · cases h'
        · exact (List.prefix_append _ _).trans (expF_pre ps _ L' h')
theorem lvlF_inv {I J : Item → Prop} {n : Nat} : ∀ (line L : List Item), (∀ x ∈ line, ∀ p ∈ PZ x.1, I (aft x.1 p, x.2 ++ [p]) ∧ J (aft x.1 p, x.2 ++ [p])) → n ≤ L.length → (∀ y ∈ L, I y) → (∀ y ∈ L.drop n, J y) → InvO I J n (lvlF line L)
  | [], L, _, _, h1, h2 => ⟨h1, h2⟩
  | x :: xs, L, hx, hn, h1, h2 => by
    have e := expF_inv (x := x) (PZ x.1) L (hx x List.mem_cons_self) hn h1 h2
    show InvO I J n ((expF x (PZ x.1) L).bind (lvlF xs))
    cases c : expF x (PZ x.1) L with
    | go L' =>
      rw [c] at e
      exact lvlF_inv xs L' (fun y hy => hx y (List.mem_cons_of_mem _ hy)) (Nat.le_trans hn (expF_pre _ _ _ c).length_le) e.1 e.2
    | done pl =>
      rw [c] at e
      exact e
    | many => trivial
theorem srF_inv {I : Item → Prop} (hI : ∀ x, I x → ∀ p ∈ PZ x.1, I (aft x.1 p, x.2 ++ [p])) : ∀ (k B : Nat) (line L : List Item), (∀ x ∈ line, I x ∧ x.2.length + k ≤ B) → (∀ y ∈ L, I y) → ∀ pl, srF k line L = .done pl → ∃ b, I (b, pl) ∧ b.sum = 1 ∧ pl.length ≤ B
  | 0, B, line, L, _, _, pl, h => by cases h
  | k + 1, B, line, L, h1, h2, pl, h => by
    have e := lvlF_inv (I := I) (J := fun y => I y ∧ y.2.length + k ≤ B) (n := L.length) line L (fun x hx p hp => by
      have a := hI x (h1 x hx).1 p hp
      refine ⟨a, a, ?_⟩
      have := (h1 x hx).2
      dsimp only
      rw [List.length_append, List.length_singleton]
      omega) (Nat.le_refl _) h2 (by
      rw [List.drop_length]
      exact fun y hy => nomatch hy)
    have h' : (lvlF line L).bind (fun L' => srF k (L'.drop L.length) L') = .done pl := h
    cases c : lvlF line L with
    | go L' =>
      rw [c] at e h'
      exact srF_inv hI k B _ L' e.2 e.1 pl h'
    | done pl' =>
      rw [c] at e h'
      cases h'
      obtain ⟨b, ⟨a1, _, a2⟩, a3⟩ := e
      exact ⟨b, a1, a3, by dsimp only at a2; omega⟩
    | many =>
      rw [c] at h'
      cases h'
/-- a plan told: no more pours than the bound, each to be done, to one run -/
theorem srF_plan (l : List Int) (B : Nat) (pl : List Pour) (h : srF B [(l, [])] [(l, [])] = .done pl) : ∃ b, Pth l pl b ∧ b.sum = 1 ∧ pl.length ≤ B :=
  srF_inv (I := fun x => Pth l x.2 x.1) (fun x hx p hp => hx.snoc hp) B B _ _ (fun x hx => by
    rw [List.mem_singleton] at hx
    rw [hx]
    exact ⟨rfl, by simp⟩) (fun x hx => by
    rw [List.mem_singleton] at hx
    rw [hx]
    rfl) pl h
abbrev CAPR {α : Type} : Res α := Res.bad
/-! ### the program's search -/
abbrev Row := List Int × Int × Option Int × Option Pour
structure RwOk (rows : List Row) (L : List Item) : Prop where
  len : rows.length = L.length
  at_ : ∀ (i : Nat) (r : Row) (x : Item), rows[i]? = some r → L[i]? = some x → r.1 = x.1 ∧ r.2.1 = (x.2.length : Int) ∧ ((r.2.2.1 = none ∧ x.2 = []) ∨ ∃ (j : Nat) (q : Pour) (y : Item), j < i ∧ r.2.2.1 = some (j : Int) ∧ r.2.2.2 = some q ∧ L[j]? = some y ∧ x.2 = y.2 ++ [q])
theorem RwOk.one (l : List Int) : RwOk [(l, 0, none, none)] [(l, [])] where
  len := rfl
  at_ := fun i r x h1 h2 => by
    cases i with
    | zero =>
      cases h1
      cases h2
      exact ⟨rfl, rfl, .inl ⟨rfl, rfl⟩⟩
    | succ i => simp at h1
theorem RwOk.add {rows : List Row} {L : List Item} (h : RwOk rows L) {k : Nat} {x : Item} (hx : L[k]? = some x) (b : List Int) (p : Pour) : RwOk (rows ++ [(b, (x.2.length : Int) + 1, some (k : Int), some p)]) (L ++ [(b, x.2 ++ [p])]) where
  len := by rw [List.length_append, List.length_append, h.len]; rfl
  at_ := fun i r y h1 h2 => by
    have hk : k < L.length := by
      rcases Nat.lt_or_ge k L.length with q | q
      · exact q
      · rw [List.getElem?_eq_none q] at hx
        cases hx
    by_cases c : i < L.length
    · rw [List.getElem?_append_left (by rw [h.len]; exact c)] at h1
      rw [List.getElem?_append_left c] at h2
      obtain ⟨a1, a2, a3⟩ := h.at_ i r y h1 h2
      refine ⟨a1, a2, a3.imp id ?_⟩
      rintro ⟨j, q, z, e1, e2, e3, e4, e5⟩
      exact ⟨j, q, z, e1, e2, e3, by rw [List.getElem?_append_left (by omega)]; exact e4, e5⟩
    · rw [List.getElem?_append_right (by rw [h.len]; omega)] at h1
      rw [List.getElem?_append_right (by omega)] at h2
      have e0 : i - L.length = 0 := by
        rcases Nat.eq_zero_or_pos (i - L.length) with q | q
        · exact q
        · rw [List.getElem?_eq_none (by rw [List.length_singleton]; exact q)] at h2
          cases h2
      rw [h.len, e0] at h1
      rw [e0] at h2
      cases h1
      cases h2
      refine ⟨rfl, ?_, .inr ⟨k, p, x, by omega, rfl, rfl, by rw [List.getElem?_append_left hk]; exact hx, rfl⟩⟩
      dsimp only
      rw [List.length_append, List.length_singleton]
      omega
theorem RwOk.row {rows : List Row} {L : List Item} (h : RwOk rows L) {k : Nat} {x : Item} (hx : L[k]? = some x) : ∃ r, rows[k]? = some r ∧ ixQ rows (k : Int) = some r ∧ k < L.length ∧ x ∈ L := by
  have hk : k < L.length := by
    rcases Nat.lt_or_ge k L.length with q | q
    · exact q
    · rw [List.getElem?_eq_none q] at hx
      cases hx
  have hr : k < rows.length := by rw [h.len]; exact hk
  refine ⟨rows[k], List.getElem?_eq_getElem hr, ?_, hk, List.mem_of_getElem? hx⟩
  rw [ixQ_ok (by omega) (by omega)]
  simp
theorem sinit_ok (l : List Int) : m_Search____init () l = .ok ((), (kn [(l, [])], [(l, 0, none, none)], ())) := by
  unfold m_Search____init b_Search____init
  rfl
section
variable {n : Nat} {S : Int} {L : List Item} {rows : List Row}
theorem come_ok (h : LOk n S L) (hr : RwOk rows L) (h3 : 3 ≤ n) (h6 : n ≤ 6) (hS : S ≤ 1000) {k : Nat} {x : Item} (hx : L[k]? = some x) {p : Pour} (hp : p ∈ PZ x.1) :
    m_Search__come_to (kn L, rows, ()) (k : Int) p = if aft x.1 p ∈ L.map (·.1) then .ok (false, (kn L, rows, ())) else if L.length = 4000 then CAPR else
      .ok (decide ((aft x.1 p).sum = 1), (kn (L ++ [(aft x.1 p, x.2 ++ [p])]), rows ++ [(aft x.1 p, (x.2.length : Int) + 1, some (k : Int), some p)], ())) := by
  obtain ⟨r, r1, r2, r3, r4⟩ := hr.row hx
  obtain ⟨a1, a2, _⟩ := hr.at_ k r x r1 hx
  obtain ⟨ho, hc, h2⟩ := PZ_mem (h.ld h3 h6 hS r4) hp
  have le := h.le
  unfold m_Search__come_to b_Search__come_to
  rw [r2]
  simp only [bind_ok, chk_ok]
  rw [a1, a2, loadb_ok x.1 [p] ⟨ho, hc, trivial⟩]
  simp only [bind_ok, List.foldl_cons, List.foldl_nil]
  rw [kn_mem]
  by_cases c1 : aft x.1 p ∈ L.map (·.1)
  · rw [if_pos c1, decide_eq_true c1, ifR_t]
    rfl
  · rw [if_neg c1, decide_eq_false c1, ifR_f, hr.len]
    by_cases c2 : L.length = 4000
    · rw [if_pos c2, decide_eq_true (by omega), ifR_t]
      rfl
    · rw [if_neg c2, decide_eq_false (by omega), ifR_f, dputQ_ok (by rw [kn_len]; omega)]
      simp only [bind_ok, chk_ok]
      rw [appQ_ok (by rw [hr.len]; omega)]
      simp only [bind_ok, chk_ok]
      rw [kn_put L _ (x.2 ++ [p]) c1]
      rfl
theorem plan_ok (h : LOk n S L) (hr : RwOk rows L) {k : Nat} {x : Item} (hx : L[k]? = some x) : m_Search__plan_to (kn L, rows, ()) (k : Int) = .ok (x.2, (kn L, rows, ())) := by
  refine ret_eq ?_
  unfold m_Search__plan_to b_Search__plan_to
  refine ret_fin ?_
  simp only [bind_ok]
  have le := h.le
  obtain ⟨_, _, _, hk, hm⟩ := hr.row hx
  have xl := h.pl x hm
  refine ret_flb (ret_while (fun s : Int × List Pour => ∃ (i : Nat) (y : Item), s.1 = (i : Int) ∧ L[i]? = some y ∧ y.2 ++ s.2.reverse = x.2) (fun s => s.1.toNat) ?_ _ _ ⟨k, x, rfl, hx, by simp⟩ (by show ((k : Int)).toNat < 1000000; omega))
  rintro ⟨i0, acc⟩ ⟨i, y, rfl, hy, e⟩
  dsimp only at e ⊢
  obtain ⟨r, r1, r2, r3, r4⟩ := hr.row hy
  obtain ⟨a1, a2, a3⟩ := hr.at_ i r y r1 hy
  rw [r2]
  simp only [bind_ok, chk_ok]
  have al := congrArg List.length e
  rw [List.length_append, List.length_reverse] at al
  rcases a3 with ⟨b1, b2⟩ | ⟨j, q, z, b1, b2, b3, b4, b5⟩
  · rw [b1]
    refine ret_ok ?_
    rw [if_neg (by simp)]
    rw [b2, List.nil_append] at e
    exact ret_ok (by rw [e])
  · rw [b2, b3]
    refine ret_ok ?_
    rw [if_pos (by rfl)]
    simp only [optQ, bind_ok, chk_ok]
    rw [appQ_ok (by omega)]
    simp only [bind_ok, chk_ok]
    refine ret_ok ⟨⟨j, z, rfl, b4, ?_⟩, ?_⟩
    · rw [b5] at e
      rw [List.reverse_append, ← e]
      simp
    · show ((j : Int)).toNat < ((i : Int)).toNat
      omega
end
def outP : Out → Option (Option (List Pour))
  | .go _ => some none
  | .done pl => some (some pl)
  | .many => none
theorem pre_at {L L' : List Item} (h : L <+: L') {i : Nat} (hi : i < L.length) : L'[i]? = L[i]? := by
  obtain ⟨t, rfl⟩ := h
  rw [List.getElem?_append_left hi]
theorem pre_take {L L' : List Item} (h : L <+: L') {b : Nat} (hb : b ≤ L.length) : L'.take b = L.take b := by
  obtain ⟨t, rfl⟩ := h
  rw [List.take_append_of_le_length hb]
theorem few_ok (l : List Int) (B : Int) (Q : Exn → Prop) (B0 : 0 ≤ B) (h3 : 3 ≤ l.length) (h6 : l.length ≤ 6) (nn : ∀ y ∈ l, 0 ≤ y) (hS : l.sum ≤ 1000) (hs : l.sum ≠ 1)
    (hcap : ∀ L, LOk l.length l.sum L → L.length = 4000 → srF B.toNat [(l, [])] [(l, [])] = .many → ∀ (α : Type) (P : α → Prop), RetX (CAPR : Res α) P Q) :
    RetX (m_fewest_pours l B) (fun r => outP (srF B.toNat [(l, [])] [(l, [])]) = some r) Q := by
  unfold m_fewest_pours b_fewest_pours
  refine rx_fin ?_
  rw [decide_eq_false hs, ifR_f, sinit_ok]
  simp only [bind_ok]
  generalize ht : srF B.toNat [(l, [])] [(l, [])] = total at hcap ⊢
  refine rx_flb (rx_while (fun s : (List (List Int × Bool) × List Row × Unit) × Int => ∃ (L : List Item) (rows : List Row) (k b kk : Nat), s = ((kn L, rows, ()), (k : Int)) ∧ LOk l.length l.sum L ∧ RwOk rows L ∧ k ≤ b ∧ b ≤ L.length ∧
      (lvlF ((L.take b).drop k) L).bind (fun M => srF kk (M.drop b) M) = total ∧ (∀ (i : Nat) (x : Item), k ≤ i → i < b → L[i]? = some x → x.2.length + kk + 1 = B.toNat) ∧ (∀ (i : Nat) (x : Item), b ≤ i → L[i]? = some x → x.2.length + kk = B.toNat)) (fun s => 5000 - s.2.toNat) ?_ _ _ ⟨[(l, [])], [(l, 0, none, none)], 0, 0, B.toNat, rfl, LOk.one nn, RwOk.one l, Nat.le_refl _, Nat.zero_le _, ht, fun i x h1 h2 => absurd h2 (Nat.not_lt_zero _), fun i x _ hx => ?_⟩ (by show 5000 - 0 < 1000000; omega))
  rotate_left
  · have : x = (l, []) := by
      cases i with
      | zero => cases hx; rfl
      | succ i => simp at hx
    rw [this]
    simp
  rintro s ⟨L, rows, k, b0, kk0, rfl, hL, hr, kb0, bL0, tot0, lo0, hi0⟩
  -- the next level, if one is at its end
  have up : ∃ b kk, k ≤ b ∧ b ≤ L.length ∧ (lvlF ((L.take b).drop k) L).bind (fun M => srF kk (M.drop b) M) = total ∧ (∀ (i : Nat) (x : Item), k ≤ i → i < b → L[i]? = some x → x.2.length + kk + 1 = B.toNat) ∧ (∀ (i : Nat) (x : Item), b ≤ i → L[i]? = some x → x.2.length + kk = B.toNat) ∧ (k < b ∨ (Out.go L = total ∧ (k = L.length ∨ ∀ x, L[k]? = some x → x.2.length = B.toNat))) := by
    by_cases c : k < b0
    · exact ⟨b0, kk0, kb0, bL0, tot0, lo0, hi0, .inl c⟩
    · have e : k = b0 := by omega
      subst e
      have e0 : (L.take k).drop k = [] := List.drop_eq_nil_of_le (by rw [List.length_take]; omega)
      rw [e0] at tot0
      cases kk0 with
      | zero =>
        refine ⟨k, 0, kb0, bL0, by rw [e0]; exact tot0, lo0, hi0, .inr ⟨tot0, ?_⟩⟩
        exact .inr fun x hx => hi0 k x (Nat.le_refl _) hx
      | succ kk =>
        have t2 : (lvlF (L.drop k) L).bind (fun M => srF kk (M.drop L.length) M) = total := tot0
        refine ⟨L.length, kk, bL0, Nat.le_refl _, by rw [List.take_length]; exact t2, fun i x h1 h2 hx => ?_, fun i x h1 hx => ?_, ?_⟩
        · have := hi0 i x h1 hx
          omega
        · rw [List.getElem?_eq_none h1] at hx
          cases hx
        · by_cases c2 : k < L.length
          · exact .inl c2
          · have e : k = L.length := by omega
            subst e
            rw [List.drop_length] at t2
            have t3 : srF kk (L.drop L.length) L = total := t2
            rw [List.drop_length, srF_nil] at t3
            exact .inr ⟨t3, .inl rfl⟩
  clear tot0 lo0 hi0 kb0 bL0
  obtain ⟨b, kk, kb, bL, tot, lo, hi, alt⟩ := up
  dsimp only
  have le := hL.le
  rcases alt with kb1 | ⟨tg, alt⟩
  rotate_left
  · -- it ends
    have ec : andR (Res.ok (decide ((k : Int) < (rows.length : Int)))) (Res.bind (Res.bind (chk (ixQ rows (k : Int))) fun t => Res.ok t.2.1) fun t => Res.ok (decide (t < B))) = .ok false := by
      rw [hr.len]
      by_cases c : k < L.length
      · obtain ⟨x, hx⟩ : ∃ x, L[k]? = some x := ⟨L[k], List.getElem?_eq_getElem c⟩
        obtain ⟨r, r1, r2, _, _⟩ := hr.row hx
        obtain ⟨a1, a2, _⟩ := hr.at_ k r x r1 hx
        have := alt.resolve_left (by omega) x hx
        rw [r2, decide_eq_true (by omega)]
        show Res.ok (decide (r.2.1 < B)) = _
        rw [a2, decide_eq_false (by omega)]
      · rw [decide_eq_false (by omega)]
        rfl
    rw [ec]
    refine rx_ok ?_
    rw [if_neg Bool.false_ne_true]
    show RetX (Res.ok (Fl.rt none)) _ _
    refine rx_ok ?_
    show outP total = some none
    rw [← tg]
    rfl
  · have kL : k < L.length := by omega
    obtain ⟨x, hx⟩ : ∃ x, L[k]? = some x := ⟨L[k], List.getElem?_eq_getElem kL⟩
    obtain ⟨r, r1, r2, _, hm⟩ := hr.row hx
    obtain ⟨a1, a2, _⟩ := hr.at_ k r x r1 hx
    have dx := lo k x (Nat.le_refl _) kb1 hx
    have ec : andR (Res.ok (decide ((k : Int) < (rows.length : Int)))) (Res.bind (Res.bind (chk (ixQ rows (k : Int))) fun t => Res.ok t.2.1) fun t => Res.ok (decide (t < B))) = .ok true := by
      rw [hr.len, r2, decide_eq_true (by omega)]
      show Res.ok (decide (r.2.1 < B)) = _
      rw [a2, decide_eq_true (by omega)]
    rw [ec]
    refine rx_ok ?_
    rw [if_pos rfl, r2]
    simp only [bind_ok, chk_ok]
    have ld := hL.ld h3 h6 hS hm
    rw [a1, pours_ok x.1 ld]
    simp only [bind_ok]
    have sp : (L.take b).drop k = x :: (L.take b).drop (k + 1) := by
      have hk : k < (L.take b).length := by rw [List.length_take]; omega
      rw [List.drop_eq_getElem_cons hk]
      congr 1
      rw [List.getElem_take]
      have := List.getElem?_eq_getElem kL
      rw [hx] at this
      exact (Option.some.inj this).symm
    rw [sp] at tot
    generalize hK : (fun M => (lvlF ((L.take b).drop (k + 1)) M).bind (fun M => srF kk (M.drop b) M)) = K
    have tot1 : (expF x (PZ x.1) L).bind K = total := by
      rw [← tot, ← hK]
      show _ = ((expF x (PZ x.1) L).bind (lvlF ((L.take b).drop (k + 1)))).bind _
      cases expF x (PZ x.1) L <;> rfl
    refine rx_flb (rx_for (fun (d3 t3 : List Pour) (s3 : List (List Int × Bool) × List Row × Unit) => d3 ++ t3 = PZ x.1 ∧ ∃ (L' : List Item) (rows' : List Row), s3 = (kn L', rows', ()) ∧ (expF x t3 L').bind K = total ∧ LOk l.length l.sum L' ∧ RwOk rows' L' ∧ L <+: L' ∧ ∀ (i : Nat) (y : Item), L.length ≤ i → L'[i]? = some y → y.2.length = x.2.length + 1) ?_ ?_ _ [] _ ⟨rfl, L, rows, rfl, tot1, hL, hr, List.prefix_refl _, fun i y h1 hy => ?_⟩)
    rotate_left
    · rintro d3 s3 ⟨e3, L3, rows3, rfl, f1, f2, f3, f4, f5⟩
      refine rx_ok ⟨⟨L3, rows3, k + 1, b, kk, rfl, f2, f3, by omega, Nat.le_trans bL f4.length_le, ?_, fun i y i1 i2 hy => ?_, fun i y i1 hy => ?_⟩, ?_⟩
      · rw [pre_take f4 bL]
        have f1' : K L3 = total := f1
        rw [← hK] at f1'
        exact f1'
      · rw [pre_at f4 (by omega)] at hy
        exact lo i y (by omega) i2 hy
      · by_cases c : i < L.length
        · rw [pre_at f4 c] at hy
          exact hi i y i1 hy
        · have := f5 i y (by omega) hy
          omega
      · show 5000 - ((k : Int) + 1).toNat < 5000 - ((k : Int)).toNat
        omega
    · rw [List.getElem?_eq_none h1] at hy
      cases hy
    · rintro d3 p t3 s3 ⟨e3, L3, rows3, rfl, f1, f2, f3, f4, f5⟩
      have hp : p ∈ PZ x.1 := by rw [← e3]; simp
      have hx3 : L3[k]? = some x := by rw [pre_at f4 kL]; exact hx
      have le3 := f2.le
      unfold ifE
      rw [come_ok f2 f3 h3 h6 hS hx3 hp]
      by_cases c1 : aft x.1 p ∈ L3.map (·.1)
      · rw [if_pos c1]
        simp only [bind_ok]
        rw [if_neg Bool.false_ne_true]
        refine rx_ok ⟨by rw [List.append_assoc]; exact e3, L3, rows3, rfl, ?_, f2, f3, f4, f5⟩
        rw [← f1]
        show _ = (if _ then _ else _ : Out).bind _
        rw [if_pos c1]
      · rw [if_neg c1]
        by_cases c2 : L3.length = 4000
        · rw [if_pos c2]
          have tm : total = .many := by
            rw [← f1]
            show (if _ then _ else _ : Out).bind _ = _
            rw [if_neg c1, if_pos c2]
            rfl
          exact rx_bind (rx_bind (hcap L3 f2 c2 tm _ _))
        · rw [if_neg c2]
          simp only [bind_ok]
          have hm3 : x ∈ L3 := List.mem_of_getElem? hx3
          have f2' := f2.add h3 h6 hS hm3 hp c1 c2
          have f3' := f3.add hx3 (aft x.1 p) p
          by_cases c3 : (aft x.1 p).sum = 1
          · rw [if_pos (decide_eq_true c3)]
            have eL : (((rows3 ++ [(aft x.1 p, (x.2.length : Int) + 1, some (k : Int), some p)]).length : Nat) : Int) - 1 = ((L3.length : Nat) : Int) := by
              rw [List.length_append, List.length_singleton, f3.len]
              omega
            rw [eL, plan_ok f2' f3' (k := L3.length) (x := (aft x.1 p, x.2 ++ [p])) (by rw [List.getElem?_append_right (Nat.le_refl _), Nat.sub_self]; rfl)]
            simp only [bind_ok]
            refine rx_ok ?_
            show outP total = some (some (x.2 ++ [p]))
            rw [← f1]
            show outP ((if _ then _ else _ : Out).bind _) = _
            rw [if_neg c1, if_neg c2, if_pos c3]
            rfl
          · rw [if_neg (by rw [decide_eq_false c3]; exact Bool.false_ne_true)]
            refine rx_ok ⟨by rw [List.append_assoc]; exact e3, L3 ++ [(aft x.1 p, x.2 ++ [p])], _, rfl, ?_, f2', f3', f4.trans (List.prefix_append _ _), fun i y i1 hy => ?_⟩
            · rw [← f1]
              show _ = (if _ then _ else _ : Out).bind _
              rw [if_neg c1, if_neg c2, if_neg c3]
            · by_cases c : i < L3.length
              · rw [List.getElem?_append_left c] at hy
                exact f5 i y i1 hy
              · rw [List.getElem?_append_right (by omega)] at hy
                have e0 : i - L3.length = 0 := by
                  rcases Nat.eq_zero_or_pos (i - L3.length) with q | q
                  · exact q
                  · rw [List.getElem?_eq_none (by rw [List.length_singleton]; exact q)] at hy
                    cases hy
                rw [e0] at hy
                cases hy
                dsimp only
                rw [List.length_append, List.length_singleton]
/-! ### few loads there are -/
def allL (m : Int) : Nat → List (List Int)
  | 0 => [[]]
  | n + 1 => (rangeL 0 m).flatMap fun x => (allL m n).map (x :: ·)
theorem allL_mem (m : Int) : ∀ (n : Nat) (l : List Int), l.length = n → (∀ y ∈ l, 0 ≤ y ∧ y < m) → l ∈ allL m n
  | 0, l, h, _ => by
    rw [List.length_eq_zero_iff.mp h]
    exact List.mem_singleton.mpr rfl
  | n + 1, [], h, _ => by cases h
  | n + 1, x :: l, h, hl => by
    have hx := hl x List.mem_cons_self
    exact List.mem_flatMap.mpr ⟨x, mem_range.mpr hx, List.mem_map.mpr ⟨l, allL_mem m n l (by simpa using h) fun y hy => hl y (List.mem_cons_of_mem _ hy), rfl⟩⟩
theorem allL_len (m : Int) : ∀ n : Nat, (allL m n).length ≤ m.toNat ^ n
  | 0 => Nat.le_refl _
  | n + 1 => by
    have := flat_le (n := m.toNat ^ n) (fun x => (allL m n).map (x :: ·)) (rangeL 0 m) fun x _ => by
      rw [List.length_map]
      exact allL_len m n
    rw [len_range, Int.sub_zero] at this
    exact this
theorem few_loads {n : Nat} {S : Int} {L : List Item} (h : LOk n S L) (h4 : n ≤ 4) (hS : S ≤ 7) : L.length < 4000 := by
  have nd : ((L.drop 1).map (·.1)).Nodup := List.Nodup.sublist ((List.drop_sublist 1 L).map _) h.nd
  have sub : ∀ l ∈ (L.drop 1).map (·.1), l ∈ allL 7 n := fun l hl => by
    obtain ⟨x, hx, rfl⟩ := List.mem_map.mp hl
    obtain ⟨a, b, c⟩ := h.it x (List.mem_of_mem_drop hx)
    have t := h.tl x hx
    refine allL_mem 7 n x.1 a fun y hy => ⟨b y hy, ?_⟩
    have := (mem_leS b).2 y hy
    omega
  have le := nodup_len nd sub
  have l2 := allL_len 7 n
  have l3 : (7 : Int).toNat ^ n ≤ 7 ^ 4 := Nat.pow_le_pow_right (by decide) h4
  have l4 : (7 : Nat) ^ 4 = 2401 := by decide
  rw [List.length_map, List.length_drop] at le
  omega
theorem few_loadsG {n : Nat} {S : Int} {L : List Item} (h : LOk n S L) (hS : S.toNat ^ n ≤ 3900) : L.length < 4000 := by
  have nd : ((L.drop 1).map (·.1)).Nodup := List.Nodup.sublist ((List.drop_sublist 1 L).map _) h.nd
  have sub : ∀ l ∈ (L.drop 1).map (·.1), l ∈ allL S n := fun l hl => by
    obtain ⟨x, hx, rfl⟩ := List.mem_map.mp hl
    obtain ⟨a, b, c⟩ := h.it x (List.mem_of_mem_drop hx)
    have t := h.tl x hx
    refine allL_mem S n x.1 a fun y hy => ⟨b y hy, ?_⟩
    have := (mem_leS b).2 y hy
    omega
  have le := nodup_len nd sub
  have l2 := allL_len S n
  rw [List.length_map, List.length_drop] at le
  omega
structure LdS (n : Nat) (l : List Int) : Prop where
  len : l.length = n
  l3 : 3 ≤ n
  l6 : n ≤ 6
  nn : ∀ x ∈ l, 0 ≤ x
  sum : l.sum ≤ 1000
theorem LdS.ok {n : Nat} {l : List Int} (h : LdS n l) : LdOk l := ⟨by rw [h.len]; exact h.l3, by rw [h.len]; exact h.l6, h.nn, fun x hx => by
  have := (mem_leS h.nn).2 x hx
  have := h.sum
  omega⟩
theorem LdS.aft {n : Nat} {l : List Int} (h : LdS n l) {p : Pour} (hp : p ∈ PZ l) : LdS n (aft l p) := by
  obtain ⟨ho, hc, h2⟩ := PZ_mem h.ok hp
  have := aft_less ho h2
  have hs := h.sum
  have hp0 := ho.pos
  exact ⟨by rw [aft_len]; exact h.len, h.l3, h.l6, aft_nn h.nn (by omega) hc, by omega⟩
theorem pth_lds {n : Nat} : ∀ {ps : List Pour} {l b : List Int}, LdS n l → Pth l ps b → LdS n b
  | [], l, b, h, e => by
    have e' : b = l := e
    rw [e']
    exact h
  | p :: ps, l, b, h, e => pth_lds (h.aft e.1) e.2
theorem pth_doable {n : Nat} : ∀ {ps : List Pour} {l b : List Int}, LdS n l → Pth l ps b → Doable l ps
  | [], l, b, h, e => trivial
  | p :: ps, l, b, h, e => by
    obtain ⟨ho, hc, h2⟩ := PZ_mem h.ok e.1
    exact ⟨ho, hc, pth_doable (h.aft e.1) e.2⟩
theorem few_sum1 (l : List Int) (B : Int) (h : l.sum = 1) : m_fewest_pours l B = .ok (some []) := by
  unfold m_fewest_pours b_fewest_pours
  rw [decide_eq_true h, ifR_t]
  rfl
/-! ### the search leaves nothing out -/
def No1 (L : List Item) : Prop := ∀ y ∈ L, y.1.sum ≠ 1
theorem pre_map {L L' : List Item} (h : L <+: L') {b : List Int} (hb : b ∈ L.map (·.1)) : b ∈ L'.map (·.1) := by
  obtain ⟨t, rfl⟩ := h
  rw [List.map_append]
  exact List.mem_append_left _ hb
theorem expF_go {x : Item} : ∀ (ps : List Pour) (L L' : List Item), expF x ps L = .go L' → No1 L → No1 L' ∧ ∀ p ∈ ps, aft x.1 p ∈ L'.map (·.1)
  | [], L, L', h, h1 => by
    cases h
    exact ⟨h1, fun p hp => nomatch hp⟩
  | p :: ps, L, L', h, h1 => by
    have h' : (if aft x.1 p ∈ L.map (·.1) then expF x ps L else if L.length = 4000 then .many else if (aft x.1 p).sum = 1 then .done (x.2 ++ [p]) else expF x ps (L ++ [(aft x.1 p, x.2 ++ [p])])) = Out.go L' := h
    split at h'
    · rename_i c
      obtain ⟨a1, a2⟩ := expF_go ps L L' h' h1
      refine ⟨a1, fun q hq => ?_⟩
      rcases List.mem_cons.mp hq with rfl | hq
      · exact pre_map (expF_pre _ _ _ h') c
      · exact a2 q hq
    · split at h'
      · cases h'
      · split at h'
        · cases h'
        · rename_i c
          obtain ⟨a1, a2⟩ := expF_go ps _ L' h' (fun y hy => by
            rcases List.mem_append.mp hy with z | z
            · exact h1 y z
            · rw [List.mem_singleton] at z
              rw [z]
              exact c)
          refine ⟨a1, fun q hq => ?_⟩
          rcases List.mem_cons.mp hq with rfl | hq
          · exact pre_map (expF_pre _ _ _ h') (by rw [List.map_append]; exact List.mem_append_right _ List.mem_cons_self)
          · exact a2 q hq
theorem lvlF_go : ∀ (line L L' : List Item), lvlF line L = .go L' → No1 L → No1 L' ∧ L <+: L' ∧ ∀ x ∈ line, ∀ p ∈ PZ x.1, aft x.1 p ∈ L'.map (·.1)
  | [], L, L', h, h1 => by
    cases h
    exact ⟨h1, List.prefix_refl _, fun x hx => nomatch hx⟩
  | x :: xs, L, L', h, h1 => by
    have h' : (expF x (PZ x.1) L).bind (lvlF xs) = .go L' := h
    cases c : expF x (PZ x.1) L with
    | go L1 =>
      rw [c] at h'
      obtain ⟨a1, a2⟩ := expF_go _ _ _ c h1
      obtain ⟨b1, b2, b3⟩ := lvlF_go xs L1 L' h' a1
      refine ⟨b1, (expF_pre _ _ _ c).trans b2, fun y hy p hp => ?_⟩
      rcases List.mem_cons.mp hy with rfl | hy
      · exact pre_map b2 (a2 p hp)
      · exact b3 y hy p hp
    | done pl =>
      rw [c] at h'
      cases h'
    | many =>
      rw [c] at h'
      cases h'
theorem srF_full : ∀ (k m : Nat) (L : List Item) (x b : List Int) (ps : List Pour), (∀ y ∈ L.take m, ∀ p ∈ PZ y.1, aft y.1 p ∈ L.map (·.1)) → No1 L → x ∈ L.map (·.1) → Pth x ps b → b.sum = 1 → ps.length ≤ k → ∀ L', srF k (L.drop m) L ≠ .go L'
  | k, m, L, x, b, [], _, h1, hx, hp, hb, _, L', _ => by
    have e : b = x := hp
    obtain ⟨y, hy, ey⟩ := List.mem_map.mp hx
    have ey : y.1 = x := ey
    exact h1 y hy (by rw [ey, ← e]; exact hb)
  | 0, _, _, _, _, p :: ps, _, _, _, _, _, hl, _, _ => by simp at hl
  | k + 1, m, L, x, b, p :: ps, hc, h1, hx, hp, hb, hl, L', h => by
    have h' : (lvlF (L.drop m) L).bind (fun L1 => srF k (L1.drop L.length) L1) = .go L' := h
    cases c : lvlF (L.drop m) L with
    | go L1 =>
      rw [c] at h'
      obtain ⟨b1, b2, b3⟩ := lvlF_go _ _ _ c h1
      have cl : ∀ y ∈ L, ∀ p ∈ PZ y.1, aft y.1 p ∈ L1.map (·.1) := fun y hy p hp => by
        rw [← List.take_append_drop m L] at hy
        rcases List.mem_append.mp hy with z | z
        · exact pre_map b2 (hc y z p hp)
        · exact b3 y z p hp
      obtain ⟨y, hy, ey⟩ := List.mem_map.mp hx
      have ey : y.1 = x := ey
      refine srF_full k L.length L1 (aft x p) b ps (fun y hy => ?_) b1 (by rw [← ey]; exact cl y hy p (by rw [ey]; exact hp.1)) hp.2 hb (by rw [List.length_cons] at hl; omega) L' h'
      obtain ⟨t, rfl⟩ := b2
      rw [List.take_left'  rfl] at hy
      exact cl y hy
    | done pl =>
      rw [c] at h'
      cases h'
    | many =>
      rw [c] at h'
      cases h'
theorem rr_mem (ns : List Int) : ∀ f, f.Sublist ns → f ∈ rrF ns := rr_ind (P := fun ns => ∀ f, f.Sublist ns → f ∈ rrF ns) (fun f hf => by
  rw [List.sublist_nil.mp hf]
  exact List.mem_cons_self) (fun ns k h f hf => by
  rw [rr_app]
  obtain ⟨f1, f2, rfl, h1, h2⟩ := List.sublist_append_iff.mp hf
  cases h2 with
  | cons _ h2 =>
    rw [List.sublist_nil.mp h2, List.append_nil]
    exact List.mem_append_left _ (h f1 h1)
  | cons_cons _ h2 =>
    rw [List.sublist_nil.mp h2]
    exact List.mem_append_right _ (List.mem_map_of_mem (h f1 h1))) ns
theorem pz_in {l : List Int} {p : Pour} (ho : PourOk l.length p) (hc : Can l p) (h2 : 2 ≤ p.1.length) (hs : p.1.Sublist (rangeL 0 l.length)) : p ∈ PZ l := by
  have to0 := ho.to0
  have to1 := ho.to1
  have hr : p.2.1 ∈ rangeL 0 l.length := mem_range.mpr ⟨to0, to1⟩
  have hl : (p.1.length : Int) < l.length := by
    have := hs.length_le
    rw [len_range] at this
    by_cases c : p.1.length = l.length
    · have := hs.eq_of_length (by rw [len_range]; omega)
      exact absurd (by rw [this]; exact hr) ho.nin
    · omega
  refine List.mem_flatMap.mpr ⟨p.1, ?_, List.mem_flatMap.mpr ⟨p.2.1, List.mem_filter.mpr ⟨hr, ?_⟩, List.mem_map.mpr ⟨p.2.2, mem_range.mpr ⟨?_, ?_⟩, rfl⟩⟩⟩
  · unfold setsF
    refine (sortL_perm _).mem_iff.mpr (List.mem_filter.mpr ⟨rr_mem _ _ hs, ?_⟩)
    unfold szP
    rw [decide_eq_true (show (2 : Int) ≤ p.1.length by omega), decide_eq_true hl]
    rfl
  · unfold toP
    rw [decide_eq_false ho.nin]
    rfl
  · have := ho.pos
    omega
  · obtain ⟨_, ⟨t, ht, et⟩, _⟩ := mnZ_ok l p.1 ho.ne
    have hr := ho.rng t ht
    have := hc t.toNat (by omega) (by rw [show ((t.toNat : Nat) : Int) = t by omega]; exact ht)
    rw [← gI_nat, show ((t.toNat : Nat) : Int) = t by omega, et] at this
    omega
/-! ### the first plan in the order of pours -/
def bst : Nat → List Int → Option (List Pour)
  | 0, l => if l.sum = 1 then some [] else none
  | k + 1, l => (PZ l).findSome? fun p => (bst k (aft l p)).map (p :: ·)
def bf (k : Nat) (line : List Item) : Option (List Pour) := line.findSome? fun x => (bst k x.1).map (x.2 ++ ·)
theorem bf_cons {k : Nat} {x : Item} {xs : List Item} : bf k (x :: xs) = ((bst k x.1).map (x.2 ++ ·)).or (bf k xs) := by
  unfold bf
  rw [List.findSome?_cons]
  cases (bst k x.1).map (x.2 ++ ·) <;> rfl
theorem bf_app {k : Nat} : ∀ {A B : List Item}, bf k (A ++ B) = (bf k A).or (bf k B)
  | [], B => rfl
  | x :: A, B => by rw [List.cons_append, bf_cons, bf_cons, bf_app, Option.or_assoc]
theorem bf_none {k : Nat} {A : List Item} : bf k A = none ↔ ∀ x ∈ A, bst k x.1 = none := by
  unfold bf
  rw [List.findSome?_eq_none_iff]
  constructor
  · exact fun h x hx => by simpa using h x hx
  · exact fun h x hx => by simpa using h x hx
theorem bst0_none {l : List Int} (h : l.sum ≠ 1) : bst 0 l = none := if_neg h
/-- the plans that begin with x's, one pour of ps next -/
def pf (k : Nat) (x : Item) (ps : List Pour) : Option (List Pour) := ps.findSome? fun p => (bst k (aft x.1 p)).map fun r => x.2 ++ p :: r
theorem pf_cons {k : Nat} {x : Item} {p : Pour} {ps : List Pour} : pf k x (p :: ps) = ((bst k (aft x.1 p)).map fun r => x.2 ++ p :: r).or (pf k x ps) := by
  unfold pf
  rw [List.findSome?_cons]
  cases (bst k (aft x.1 p)).map fun r => x.2 ++ p :: r <;> rfl
theorem pf_all (k : Nat) (x : Item) : pf k x (PZ x.1) = (bst (k + 1) x.1).map (x.2 ++ ·) := by
  show _ = ((PZ x.1).findSome? fun p => (bst k (aft x.1 p)).map (p :: ·)).map (x.2 ++ ·)
  unfold pf
  rw [List.map_findSome?]
  congr 1
  funext p
  simp only [Function.comp]
  rw [Option.map_map]
  rfl
theorem expF_bf {k : Nat} {x : Item} {n0 : Nat} : ∀ (ps : List Pour) (L L' : List Item), expF x ps L = .go L' → n0 ≤ L.length → (∀ y ∈ L.take n0, bst k y.1 = none) → bf k (L'.drop n0) = (bf k (L.drop n0)).or (pf k x ps)
  | [], L, L', h, _, _ => by
    cases h
    rw [show pf k x [] = none from rfl, Option.or_none]
  | p :: ps, L, L', h, hn, h0 => by
    have h' : (if aft x.1 p ∈ L.map (·.1) then expF x ps L else if L.length = 4000 then .many else if (aft x.1 p).sum = 1 then .done (x.2 ++ [p]) else expF x ps (L ++ [(aft x.1 p, x.2 ++ [p])])) = Out.go L' := h
    rw [pf_cons]
    split at h'
    · rename_i c
      rw [expF_bf ps L L' h' hn h0]
      cases e : bst k (aft x.1 p) with
      | none => rfl
      | some r =>
        obtain ⟨y, hy, ey⟩ := List.mem_map.mp c
        have ey : y.1 = aft x.1 p := ey
        have hd : y ∈ L.drop n0 := by
          rw [← List.take_append_drop n0 L] at hy
          rcases List.mem_append.mp hy with z | z
          · have := h0 y z
            rw [ey, e] at this
            cases this
          · exact z
        cases q : bf k (L.drop n0) with
        | none =>
          have := bf_none.mp q y hd
          rw [ey, e] at this
          cases this
        | some r => rfl
    · split at h'
      · cases h'
      · split at h'
        · cases h'
        · rw [expF_bf ps _ L' h' (by rw [List.length_append]; omega) (by rw [List.take_append_of_le_length hn]; exact h0), List.drop_append_of_le_length hn, bf_app, bf_cons, show bf k [] = none from rfl, Option.or_none, Option.or_assoc]
          congr 2
          dsimp only
          congr 1
          funext r
          rw [List.append_assoc]
          rfl
theorem lvlF_bf {k : Nat} {n0 : Nat} : ∀ (line L L' : List Item), lvlF line L = .go L' → n0 ≤ L.length → (∀ y ∈ L.take n0, bst k y.1 = none) → bf k (L'.drop n0) = (bf k (L.drop n0)).or (bf (k + 1) line)
  | [], L, L', h, _, _ => by
    cases h
    rw [show bf (k + 1) [] = none from rfl, Option.or_none]
  | x :: xs, L, L', h, hn, h0 => by
    have h' : (expF x (PZ x.1) L).bind (lvlF xs) = .go L' := h
    cases c : expF x (PZ x.1) L with
    | go L1 =>
      rw [c] at h'
      obtain ⟨t, rfl⟩ := expF_pre _ _ _ c
      rw [lvlF_bf xs _ L' h' (by rw [List.length_append]; omega) (by rw [List.take_append_of_le_length hn]; exact h0), expF_bf _ _ _ c hn h0, bf_cons, ← pf_all, Option.or_assoc]
    | done pl =>
      rw [c] at h'
      cases h'
    | many =>
      rw [c] at h'
      cases h'
theorem expF_d1 {x : Item} : ∀ (ps : List Pour) (L : List Item), No1 L → match expF x ps L with
    | .go _ => pf 0 x ps = none
    | .done pl => pf 0 x ps = some pl
    | .many => True
  | [], L, _ => rfl
  | p :: ps, L, h1 => by
    show match (if aft x.1 p ∈ L.map (·.1) then expF x ps L else if L.length = 4000 then .many else if (aft x.1 p).sum = 1 then .done (x.2 ++ [p]) else expF x ps (L ++ [(aft x.1 p, x.2 ++ [p])])) with
    | .go _ => pf 0 x (p :: ps) = none
    | .done pl => pf 0 x (p :: ps) = some pl
    | .many => True
    rw [pf_cons]
    by_cases c : aft x.1 p ∈ L.map (·.1)
    · rw [if_pos c]
      obtain ⟨y, hy, ey⟩ := List.mem_map.mp c
      have ey : y.1 = aft x.1 p := ey
      rw [bst0_none (by rw [← ey]; exact h1 y hy)]
      exact expF_d1 ps L h1
    · rw [if_neg c]
      by_cases c2 : L.length = 4000
      · rw [if_pos c2]
        trivial
      · rw [if_neg c2]
        by_cases c3 : (aft x.1 p).sum = 1
        · rw [if_pos c3]
          rw [show bst 0 (aft x.1 p) = some [] from if_pos c3]
          rfl
        · rw [if_neg c3, bst0_none c3]
          exact expF_d1 ps _ fun y hy => by
            rcases List.mem_append.mp hy with z | z
            · exact h1 y z
            · rw [List.mem_singleton] at z
              rw [z]
              exact c3
theorem lvlF_d1 : ∀ (line L : List Item), No1 L → match lvlF line L with
    | .go _ => bf 1 line = none
    | .done pl => bf 1 line = some pl
    | .many => True
  | [], L, _ => rfl
  | x :: xs, L, h1 => by
    have e := expF_d1 (x := x) (PZ x.1) L h1
    show match (expF x (PZ x.1) L).bind (lvlF xs) with
    | .go _ => bf 1 (x :: xs) = none
    | .done pl => bf 1 (x :: xs) = some pl
    | .many => True
    rw [bf_cons, ← pf_all]
    cases c : expF x (PZ x.1) L with
    | go L1 =>
      rw [c] at e
      have e' : pf 0 x (PZ x.1) = none := e
      rw [e']
      exact lvlF_d1 xs L1 (expF_go _ _ _ c h1).1
    | done pl =>
      rw [c] at e
      have e' : pf 0 x (PZ x.1) = some pl := e
      rw [e']
      rfl
    | many => trivial
theorem old_none {m J : Nat} {L : List Item} (hc : ∀ y ∈ L.take m, ∀ p ∈ PZ y.1, aft y.1 p ∈ L.map (·.1)) (h1 : No1 L) (hl : ∀ j, j ≤ J → bf j (L.drop m) = none) : ∀ j, j ≤ J → ∀ y ∈ L, bst j y.1 = none
  | 0, _, y, hy => bst0_none (h1 y hy)
  | j + 1, hj, y, hy => by
    rw [← List.take_append_drop m L] at hy
    rcases List.mem_append.mp hy with z | z
    · show (PZ y.1).findSome? _ = none
      rw [List.findSome?_eq_none_iff]
      intro p hp
      obtain ⟨w, hw, ew⟩ := List.mem_map.mp (hc y z p hp)
      have ew : w.1 = aft y.1 p := ew
      rw [← ew, old_none hc h1 hl j (by omega) w hw]
      rfl
    · exact bf_none.mp (hl (j + 1) hj) y z
theorem srF_dfs : ∀ (k m : Nat) (L : List Item), m ≤ L.length → (∀ y ∈ L.take m, ∀ p ∈ PZ y.1, aft y.1 p ∈ L.map (·.1)) → No1 L → match srF k (L.drop m) L with
    | .go _ => ∀ j, j ≤ k → bf j (L.drop m) = none
    | .done pl => ∃ d, d ≤ k ∧ bf d (L.drop m) = some pl ∧ ∀ j, j < d → bf j (L.drop m) = none
    | .many => True
  | 0, m, L, _, _, h1 => fun j hj => by
    rw [show j = 0 by omega]
    exact bf_none.mpr fun x hx => bst0_none (h1 x (List.mem_of_mem_drop hx))
  | k + 1, m, L, hm, hc, h1 => by
    have z0 : bf 0 (L.drop m) = none := bf_none.mpr fun x hx => bst0_none (h1 x (List.mem_of_mem_drop hx))
    have d1 := lvlF_d1 (L.drop m) L h1
    show match (lvlF (L.drop m) L).bind (fun L1 => srF k (L1.drop L.length) L1) with
    | .go _ => ∀ j, j ≤ k + 1 → bf j (L.drop m) = none
    | .done pl => ∃ d, d ≤ k + 1 ∧ bf d (L.drop m) = some pl ∧ ∀ j, j < d → bf j (L.drop m) = none
    | .many => True
    cases c : lvlF (L.drop m) L with
    | done pl =>
      rw [c] at d1
      have d1' : bf 1 (L.drop m) = some pl := d1
      exact ⟨1, by omega, d1', fun j hj => by rw [show j = 0 by omega]; exact z0⟩
    | many => trivial
    | go L1 =>
      obtain ⟨b1, b2, b3⟩ := lvlF_go _ _ _ c h1
      have cl : ∀ y ∈ L, ∀ p ∈ PZ y.1, aft y.1 p ∈ L1.map (·.1) := fun y hy p hp => by
        rw [← List.take_append_drop m L] at hy
        rcases List.mem_append.mp hy with z | z
        · exact pre_map b2 (hc y z p hp)
        · exact b3 y z p hp
      have le := b2.length_le
      have tk : L1.take L.length = L := by
        obtain ⟨t, rfl⟩ := b2
        exact List.take_left' rfl
      have ih := srF_dfs k L.length L1 le (by rw [tk]; exact cl) b1
      -- one level on
      have on1 : ∀ j, (∀ i, i ≤ j → bf i (L.drop m) = none) → bf j (L1.drop L.length) = bf (j + 1) (L.drop m) := fun j hj => by
        have := lvlF_bf (k := j) (n0 := L.length) (L.drop m) L L1 c (Nat.le_refl _) (by rw [List.take_length]; exact old_none hc h1 hj j (Nat.le_refl _))
        rw [this, List.drop_length]
        rfl
      have up : ∀ J, (∀ j, j < J → bf j (L1.drop L.length) = none) → ∀ j, j ≤ J → ∀ i, i ≤ j → bf i (L.drop m) = none := fun J hJ j => by
        induction j with
        | zero =>
          intro _ i hi
          rw [show i = 0 by omega]
          exact z0
        | succ j ihj =>
          intro hj i hi
          have hp := ihj (by omega)
          by_cases q : i ≤ j
          · exact hp i q
          · rw [show i = j + 1 by omega, ← on1 j hp]
            exact hJ j (by omega)
      show match srF k (L1.drop L.length) L1 with
      | .go _ => ∀ j, j ≤ k + 1 → bf j (L.drop m) = none
      | .done pl => ∃ d, d ≤ k + 1 ∧ bf d (L.drop m) = some pl ∧ ∀ j, j < d → bf j (L.drop m) = none
      | .many => True
      cases c2 : srF k (L1.drop L.length) L1 with
      | many => trivial
      | go L2 =>
        rw [c2] at ih
        have ih' : ∀ j, j ≤ k → bf j (L1.drop L.length) = none := ih
        exact fun j hj => up (k + 1) (fun i hi => ih' i (by omega)) j hj j (Nat.le_refl _)
      | done pl =>
        rw [c2] at ih
        obtain ⟨d, e1, e2, e3⟩ := ih
        have u := up d e3
        exact ⟨d + 1, by omega, by rw [← on1 d (u d (Nat.le_refl _))]; exact e2, fun j hj => u j (by omega) j (Nat.le_refl _)⟩
/-- the first of the shortest plans of no more than B pours -/
def fp (B : Nat) (l : List Int) : Option (List Pour) := (List.range (B + 1)).findSome? fun d => bst d l
theorem find_least {f : Nat → Option (List Pour)} {d : Nat} {pl : List Pour} (h : f d = some pl) (hn : ∀ j, j < d → f j = none) : ∀ n, d < n → (List.range n).findSome? f = some pl
  | 0, h => absurd h (by omega)
  | n + 1, hd => by
    rw [List.range_succ, List.findSome?_append]
    by_cases c : d < n
    · rw [find_least h hn n c]
      rfl
    · have e : d = n := by omega
      subst e
      rw [List.findSome?_eq_none_iff.mpr fun j hj => hn j (List.mem_range.mp hj), List.findSome?_cons, h]
      rfl
theorem fp_some {B : Nat} {l : List Int} {d : Nat} {pl : List Pour} (h : bst d l = some pl) (hn : ∀ j, j < d → bst j l = none) (hd : d ≤ B) : fp B l = some pl :=
  find_least (f := fun d => bst d l) h hn _ (by omega)
theorem fp_none {B : Nat} {l : List Int} (h : ∀ j, j ≤ B → bst j l = none) : fp B l = none :=
  List.findSome?_eq_none_iff.mpr fun j hj => h j (by have := List.mem_range.mp hj; omega)
theorem least_ex (f : Nat → Option (List Pour)) : ∀ n, (∀ j, j ≤ n → f j = none) ∨ ∃ d pl, d ≤ n ∧ f d = some pl ∧ ∀ j, j < d → f j = none
  | 0 => by
    cases c : f 0 with
    | none => exact .inl fun j hj => by rw [show j = 0 by omega]; exact c
    | some pl => exact .inr ⟨0, pl, Nat.le_refl _, c, fun j hj => absurd hj (by omega)⟩
  | n + 1 => by
    rcases least_ex f n with h | ⟨d, pl, h1, h2, h3⟩
    · cases c : f (n + 1) with
      | none =>
        refine .inl fun j hj => ?_
        by_cases q : j ≤ n
        · exact h j q
        · rw [show j = n + 1 by omega]
          exact c
      | some pl => exact .inr ⟨n + 1, pl, Nat.le_refl _, c, fun j hj => h j (by omega)⟩
    · exact .inr ⟨d, pl, by omega, h2, h3⟩
theorem fp_inv {B : Nat} {l : List Int} {pl : List Pour} (h : fp B l = some pl) : ∃ d, d ≤ B ∧ bst d l = some pl ∧ ∀ j, j < d → bst j l = none := by
  rcases least_ex (fun d => bst d l) B with q | ⟨d, pl', q1, q2, q3⟩
  · rw [fp_none q] at h
    cases h
  · rw [fp_some q2 q3 q1] at h
    cases h
    exact ⟨d, q1, q2, q3⟩
theorem fp_inv0 {B : Nat} {l : List Int} (h : fp B l = none) : ∀ j, j ≤ B → bst j l = none := by
  rcases least_ex (fun d => bst d l) B with q | ⟨d, pl', q1, q2, q3⟩
  · exact q
  · rw [fp_some q2 q3 q1] at h
    cases h
theorem srF_fp (l : List Int) (B : Nat) (hs : l.sum ≠ 1) (hm : srF B [(l, [])] [(l, [])] ≠ .many) : outP (srF B [(l, [])] [(l, [])]) = some (fp B l) := by
  have h := srF_dfs B 0 [(l, [])] (by simp) (fun y hy => nomatch hy) (fun y hy => by
    rw [List.mem_singleton] at hy
    rw [hy]
    exact hs)
  have e : ∀ d, bf d [(l, [])] = bst d l := fun d => by
    rw [bf_cons, show bf d [] = none from rfl, Option.or_none]
    dsimp only
    cases bst d l <;> rfl
  rw [List.drop_zero] at h
  cases c : srF B [(l, [])] [(l, [])] with
  | many => exact absurd c hm
  | go L =>
    rw [c] at h
    have h' : ∀ j, j ≤ B → bf j [(l, [])] = none := h
    rw [fp_none fun j hj => by rw [← e]; exact h' j hj]
    rfl
  | done pl =>
    rw [c] at h
    obtain ⟨d, h1, h2, h3⟩ := h
    rw [fp_some (by rw [← e]; exact h2) (fun j hj => by rw [← e]; exact h3 j hj) h1]
    rfl
theorem few_fp (l : List Int) (B : Int) (B0 : 0 ≤ B) (h3 : 3 ≤ l.length) (h6 : l.length ≤ 6) (nn : ∀ y ∈ l, 0 ≤ y) (hS : l.sum ≤ 1000) (hc : l.sum.toNat ^ l.length ≤ 3900) : m_fewest_pours l B = .ok (fp B.toNat l) := by
  by_cases hs : l.sum = 1
  · rw [few_sum1 l B hs, fp_some (d := 0) (pl := []) (if_pos hs) (fun j hj => absurd hj (by omega)) (by omega)]
  · rcases few_ok l B (fun _ => False) B0 h3 h6 nn hS hs (fun L hL e _ _ _ => by
      have := few_loadsG hL hc
      omega) with ⟨r, er, hr⟩ | ⟨_, _, h⟩
    · rw [er]
      rw [srF_fp l B.toNat hs (fun z => by rw [z] at hr; cases hr)] at hr
      cases hr
      rfl
    · exact h.elim
/-! ### plans of the load in another order -/
theorem bst_len : ∀ (d : Nat) (l : List Int) (pl : List Pour), bst d l = some pl → pl.length = d
  | 0, l, pl, h => by
    have h' : (if l.sum = 1 then some [] else none) = some pl := h
    split at h'
    · cases h'
      rfl
    · cases h'
  | d + 1, l, pl, h => by
    have h' : ((PZ l).findSome? fun p => (bst d (aft l p)).map (p :: ·)) = some pl := h
    obtain ⟨p, _, hp⟩ := List.exists_of_findSome?_eq_some h'
    obtain ⟨r, hr, rfl⟩ := Option.map_eq_some_iff.mp hp
    rw [List.length_cons, bst_len d _ r hr]
theorem bst_hd {d : Nat} {l : List Int} {pl : List Pour} (h : bst (d + 1) l = some pl) : ∃ p r, p ∈ PZ l ∧ pl = p :: r ∧ bst d (aft l p) = some r := by
  have h' : ((PZ l).findSome? fun p => (bst d (aft l p)).map (p :: ·)) = some pl := h
  obtain ⟨p, hm, hp⟩ := List.exists_of_findSome?_eq_some h'
  obtain ⟨r, hr, e⟩ := Option.map_eq_some_iff.mp hp
  exact ⟨p, r, hm, e.symm, hr⟩
theorem bst_up {d : Nat} {l : List Int} {p : Pour} (hp : p ∈ PZ l) (h : bst d (aft l p) ≠ none) : bst (d + 1) l ≠ none := fun z => by
  have z' : ((PZ l).findSome? fun p => (bst d (aft l p)).map (p :: ·)) = none := z
  exact h (by simpa using List.findSome?_eq_none_iff.mp z' p hp)
theorem bst_pth : ∀ (d : Nat) (l : List Int) (pl : List Pour), bst d l = some pl → ∃ b, Pth l pl b ∧ b.sum = 1
  | 0, l, pl, h => by
    have h' : (if l.sum = 1 then some [] else none) = some pl := h
    split at h'
    · rename_i c
      cases h'
      exact ⟨l, rfl, c⟩
    · cases h'
  | d + 1, l, pl, h => by
    obtain ⟨p, r, hp, rfl, hr⟩ := bst_hd h
    obtain ⟨b, h1, h2⟩ := bst_pth d _ r hr
    exact ⟨b, ⟨hp, h1⟩, h2⟩
theorem perm_lift {α β : Type} (f : α → β) {l1 l2 : List β} (h : l1.Perm l2) : ∀ ms : List α, ms.map f = l1 → ∃ ms2, ms.Perm ms2 ∧ ms2.map f = l2 := by
  induction h with
  | nil => exact fun ms e => ⟨ms, .refl _, e⟩
  | @cons x a b _ ih =>
    intro ms e
    cases ms with
    | nil => cases e
    | cons m ms =>
      rw [List.map_cons] at e
      injection e with e1 e2
      obtain ⟨ms2, p, q⟩ := ih ms e2
      exact ⟨m :: ms2, p.cons m, by rw [List.map_cons, q, e1]⟩
  | swap x y l =>
    intro ms e
    match ms, e with
    | m :: m2 :: ms, e =>
      rw [List.map_cons, List.map_cons] at e
      injection e with e1 e2
      injection e2 with e2 e3
      exact ⟨m2 :: m :: ms, .swap _ _ _, by rw [List.map_cons, List.map_cons, e1, e2, e3]⟩
  | trans _ _ ih1 ih2 =>
    intro ms e
    obtain ⟨m2, p, q⟩ := ih1 ms e
    obtain ⟨m3, p3, q3⟩ := ih2 m2 q
    exact ⟨m3, p.trans p3, q3⟩
theorem bperm_sum {xs ys : List Int} (h : xs.Perm ys) : xs.sum = ys.sum := by
  induction h with
  | nil => rfl
  | cons x _ ih => rw [List.sum_cons, List.sum_cons, ih]
  | swap x y l =>
    simp only [List.sum_cons]
    omega
  | trans _ _ a b => exact a.trans b
theorem aft_gI0 {l : List Int} {p : Pour} {j : Int} (j0 : 0 ≤ j) (j1 : j < l.length) : gI (aft l p) j = if j ∈ p.1 then gI l j - p.2.2 else if j = p.2.1 then gI l j + p.2.2 else gI l j := by
  have h := gI_nat (l := aft l p) (i := j.toNat) (by rw [aft_len]; omega)
  have h2 := gI_nat (l := l) (i := j.toNat) (by omega)
  rw [show ((j.toNat : Nat) : Int) = j by omega] at h h2
  rw [h, h2]
  unfold aft
  rw [List.getElem_mapIdx, show ((j.toNat : Nat) : Int) = j by omega]
theorem gI_mem0 {o : List Int} {i : Int} (i0 : 0 ≤ i) (i1 : i < o.length) : gI o i ∈ o := by
  have h := gI_nat (l := o) (i := i.toNat) (by omega)
  rw [show ((i.toNat : Nat) : Int) = i by omega] at h
  rw [h]
  exact List.getElem_mem _
theorem mem_gI0 {o : List Int} {x : Int} (h : x ∈ o) : ∃ i : Int, 0 ≤ i ∧ i < o.length ∧ gI o i = x := by
  obtain ⟨i, hi, e⟩ := List.mem_iff_getElem.mp h
  exact ⟨i, by omega, by omega, by rw [gI_nat hi]; exact e⟩
theorem gI_map0 {o : List Int} {f : Int → Int} {i : Int} (i0 : 0 ≤ i) (i1 : i < o.length) : gI (o.map f) i = f (gI o i) := by
  have h := gI_nat (l := o) (i := i.toNat) (by omega)
  have h2 := gI_nat (l := o.map f) (i := i.toNat) (by rw [List.length_map]; omega)
  rw [show ((i.toNat : Nat) : Int) = i by omega] at h h2
  rw [h, h2, List.getElem_map]
theorem gI_inj0 {o : List Int} (nd : o.Nodup) {i j : Int} (i0 : 0 ≤ i) (i1 : i < o.length) (j0 : 0 ≤ j) (j1 : j < o.length) (h : gI o i = gI o j) : i = j := by
  have h1 := gI_nat (l := o) (i := i.toNat) (by omega)
  have h2 := gI_nat (l := o) (i := j.toNat) (by omega)
  rw [show ((i.toNat : Nat) : Int) = i by omega] at h1
  rw [show ((j.toNat : Nat) : Int) = j by omega] at h2
  rw [h1, h2] at h
  have := (List.getElem_inj nd).mp h
  omega
theorem pz_perm {l l2 : List Int} (hl : LdOk l) (h : l.Perm l2) {p : Pour} (hp : p ∈ PZ l) : ∃ p2 ∈ PZ l2, (aft l p).Perm (aft l2 p2) := by
  obtain ⟨ho, hc, h2⟩ := PZ_mem hl hp
  obtain ⟨o, po, eo⟩ := perm_lift (gI l) h (rangeL 0 l.length) (list_gI l)
  have nd : o.Nodup := po.nodup_iff.mp (asc_nodup TP.range_asc)
  have mo : ∀ x, x ∈ o ↔ 0 ≤ x ∧ x < (l.length : Int) := fun x => po.mem_iff.symm.trans mem_range
  have ol : o.length = l.length := by
    rw [← po.length_eq, len_range]
    omega
  have ll : l2.length = l.length := h.length_eq.symm
  obtain ⟨tt, t0, t1, et⟩ := mem_gI0 ((mo p.2.1).mpr ⟨ho.to0, ho.to1⟩)
  have l6 := hl.l6
  have fm : ∀ i, i ∈ (rangeL 0 (l2.length : Int)).filter (fun i => decide (gI o i ∈ p.1)) ↔ (0 ≤ i ∧ i < (l2.length : Int)) ∧ gI o i ∈ p.1 := fun i => by
    rw [List.mem_filter, mem_range, decide_eq_true_iff]
  have nin : tt ∉ (rangeL 0 (l2.length : Int)).filter (fun i => decide (gI o i ∈ p.1)) := fun z => by
    have := ((fm tt).mp z).2
    rw [et] at this
    exact ho.nin this
  have len2 : 2 ≤ ((rangeL 0 (l2.length : Int)).filter (fun i => decide (gI o i ∈ p.1))).length := by
    have nd1 : p.1.Nodup := ho.asc.imp fun h => by omega
    have := nodup_len nd1 (ys := ((rangeL 0 (l2.length : Int)).filter (fun i => decide (gI o i ∈ p.1))).map (gI o)) fun x hx => by
      obtain ⟨i, i0, i1, ei⟩ := mem_gI0 ((mo x).mpr (ho.rng x hx))
      exact List.mem_map.mpr ⟨i, (fm i).mpr ⟨⟨i0, by omega⟩, by rw [ei]; exact hx⟩, ei⟩
    rw [List.length_map] at this
    omega
  have sub : ((rangeL 0 (l2.length : Int)).filter (fun i => decide (gI o i ∈ p.1))).Sublist (rangeL 0 (l2.length : Int)) := List.filter_sublist
  have le5 : ((rangeL 0 (l2.length : Int)).filter (fun i => decide (gI o i ∈ p.1))).length ≤ 5 := by
    have := sub.length_le
    rw [len_range] at this
    by_cases c : ((rangeL 0 (l2.length : Int)).filter (fun i => decide (gI o i ∈ p.1))).length = l2.length
    · have := sub.eq_of_length (by rw [len_range]; omega)
      exact absurd (by rw [this]; exact mem_range.mpr ⟨t0, by omega⟩) nin
    · omega
  have rngs : ∀ t ∈ (rangeL 0 (l2.length : Int)).filter (fun i => decide (gI o i ∈ p.1)), 0 ≤ t ∧ t < (l2.length : Int) := fun t ht => ((fm t).mp ht).1
  have asc : ((rangeL 0 (l2.length : Int)).filter (fun i => decide (gI o i ∈ p.1))).Pairwise (· < ·) := List.Pairwise.sublist sub TP.range_asc
  generalize hf : (rangeL 0 (l2.length : Int)).filter (fun i => decide (gI o i ∈ p.1)) = f2 at fm nin len2 sub le5 rngs asc
  have g2 : ∀ i : Int, 0 ≤ i → i < l2.length → gI l2 i = gI l (gI o i) := fun i i0 i1 => by
    rw [← eo]
    exact gI_map0 i0 (by omega)
  refine ⟨(f2, tt, p.2.2), pz_in ⟨fun z => by rw [show f2 = [] from z] at len2; simp at len2, le5, asc, rngs, t0, by dsimp only; omega, nin, ho.pos⟩ (fun i hi hm => ?_) len2 sub, ?_⟩
  · have hm' := (fm i).mp hm
    have e := gI_nat hi
    rw [← e, g2 i (by omega) (by omega)]
    have hr := ho.rng _ hm'.2
    have k := hc (gI o i).toNat (by omega) (by rw [show (((gI o i).toNat : Nat) : Int) = gI o i by omega]; exact hm'.2)
    have e2 := gI_nat (l := l) (i := (gI o i).toNat) (by omega)
    rw [show (((gI o i).toNat : Nat) : Int) = gI o i by omega] at e2
    rw [e2]
    exact k
  · have e1 : (rangeL 0 l.length).map (gI (aft l p)) = aft l p := by
      have := list_gI (aft l p)
      rw [aft_len] at this
      exact this
    have e2 : aft l2 (f2, tt, p.2.2) = o.map (gI (aft l p)) := by
      rw [← list_gI (aft l2 (f2, tt, p.2.2)), ← list_gI (o.map (gI (aft l p))), aft_len, List.length_map, show o.length = l2.length by omega]
      refine List.map_congr_left fun i hi => ?_
      obtain ⟨i0, i1⟩ := mem_range.mp hi
      have io := (mo _).mp (gI_mem0 (o := o) i0 (by omega))
      rw [gI_map0 i0 (by omega), aft_gI0 i0 i1, aft_gI0 io.1 io.2, g2 i i0 i1]
      dsimp only
      have c1 : i ∈ f2 ↔ gI o i ∈ p.1 := ⟨fun z => ((fm i).mp z).2, fun z => (fm i).mpr ⟨⟨i0, i1⟩, z⟩⟩
      have c2 : i = tt ↔ gI o i = p.2.1 := ⟨fun z => by rw [z, et], fun z => gI_inj0 nd i0 (by omega) t0 (by omega) (by rw [z, et])⟩
      by_cases d1 : gI o i ∈ p.1
      · rw [if_pos (c1.mpr d1), if_pos d1]
      · rw [if_neg (fun z => d1 (c1.mp z)), if_neg d1]
        by_cases d2 : gI o i = p.2.1
        · rw [if_pos (c2.mpr d2), if_pos d2]
        · rw [if_neg (fun z => d2 (c2.mp z)), if_neg d2]
    have pm := po.map (gI (aft l p))
    rw [e1] at pm
    rw [e2]
    exact pm
theorem bst_perm {n : Nat} : ∀ (d : Nat) (l l2 : List Int), LdS n l → l.Perm l2 → bst d l ≠ none → bst d l2 ≠ none
  | 0, l, l2, _, h, hb => by
    have c : l.sum = 1 := Classical.byContradiction fun z => hb (bst0_none z)
    have c2 : l2.sum = 1 := by
      rw [← c]
      exact bperm_sum h.symm
    show (if l2.sum = 1 then some [] else none) ≠ none
    rw [if_pos c2]
    exact fun z => nomatch z
  | d + 1, l, l2, hl, h, hb => by
    cases e : bst (d + 1) l with
    | none => exact absurd e hb
    | some pl =>
      obtain ⟨p, r, hp, _, hr⟩ := bst_hd e
      obtain ⟨p2, hp2, hq⟩ := pz_perm hl.ok h hp
      exact bst_up hp2 (bst_perm d _ _ (hl.aft hp) hq (by rw [hr]; exact fun z => nomatch z))
theorem cell_ok (s : List Int) (k : Int) (h : 0 ≤ k) : ∃ c, m_law_cell s k = .ok c := by
  unfold m_law_cell b_law_cell
  by_cases hk : k < s.length
  · rw [decide_eq_true hk, ifR_t, ixQ_ok h hk]
    exact ⟨_, rfl⟩
  · rw [decide_eq_false hk, ifR_f]
    exact ⟨_, rfl⟩
theorem draws_ok (c many : Int) (h0 : 0 ≤ many) (h1 : many ≤ 1000) : Ret (m_law_draws c many) fun l => (l.length : Int) = many ∧ ∀ x ∈ l, 0 ≤ x ∧ x < 33554432 := by
  unfold m_law_draws b_law_draws
  refine ret_fin ?_
  simp only [bind_ok]
  rw [okRange_ok (by omega) (by omega) (by omega) (by omega)]
  simp only [bind_ok, chk_ok]
  refine ret_flb (ret_for (fun (d t : List Int) (s : List Int × Int) => d ++ t = rangeL 0 many ∧ (s.1.length = d.length ∧ ∀ x ∈ s.1, 0 ≤ x ∧ x < 33554432) ∧ 0 ≤ s.2 ∧ s.2 < 4294967296) ?_ ?_ _ [] _ ⟨rfl, ⟨rfl, fun _ h => nomatch h⟩, by dsimp only; omega, by dsimp only; omega⟩)
  · rintro d x t ⟨l, n⟩ ⟨e, ⟨hl, hb⟩, n0, n1⟩
    have ha := range_at e
    dsimp only at hl hb n0 n1 ⊢
    have b1 : n.natAbs.log2 ≤ 39 := log2_of 39 (by omega) (by omega)
    have b2 : (7 * x).natAbs.log2 ≤ 39 := log2_of 39 (by omega) (by omega)
    have b3 : x.natAbs.log2 ≤ 39 := log2_of 39 (by omega) (by omega)
    rw [mulQ_ok (by omega), mulQ_ok (by omega)]
    simp only [bind_ok, chk_ok]
    have r0 := Int.emod_nonneg (n * n + 48271 * n + 7 * x * x + 1) (show (2147483647 : Int) ≠ 0 by omega)
    have r1 := Int.emod_lt_of_pos (n * n + 48271 * n + 7 * x * x + 1) (show (0 : Int) < 2147483647 by omega)
    generalize (n * n + 48271 * n + 7 * x * x + 1) % 2147483647 = r at r0 r1 ⊢
    rw [appQ_ok (by omega)]
    simp only [bind_ok, chk_ok]
    refine ret_ok ⟨by rw [List.append_assoc]; exact e, ⟨by rw [List.length_append, List.length_append, hl]; rfl, fun z hz => ?_⟩, by dsimp only; omega, by dsimp only; omega⟩
    rcases List.mem_append.mp hz with h | h
    · exact hb z h
    · rw [List.mem_singleton] at h
      subst h
      omega
  rintro d ⟨l, n⟩ ⟨e, ⟨hl, hb⟩, n0, n1⟩
  have he := range_end e
  dsimp only at hl hb ⊢
  generalize c * _ = left
  refine ret_flb (ret_for (fun (d t : List Int) (s : List Int × Int) => d ++ t = rangeL 0 many ∧ (s.1.length : Int) = many ∧ ∀ x ∈ s.1, 0 ≤ x ∧ x < 33554432) ?_ ?_ _ [] _ ⟨rfl, by dsimp only; omega, hb⟩)
  · rintro d x t ⟨l, n⟩ ⟨e, hl, hb⟩
    have ha := range_at e
    dsimp only at hl hb ⊢
    refine ret_flb (ret_ifD (fun _ => ?_) fun _ => ?_)
    · rw [setQ_ok (by omega) (by omega)]
      simp only [bind_ok, chk_ok]
      refine ret_ok (ret_ok ⟨by rw [List.append_assoc]; exact e, by dsimp only; rw [List.length_set]; exact hl, fun z hz => ?_⟩)
      rcases List.mem_or_eq_of_mem_set hz with h | h
      · exact hb z h
      · subst h
        omega
    · exact ret_ok (ret_ok ⟨by rw [List.append_assoc]; exact e, hl, hb⟩)
  · rintro d ⟨l, n⟩ ⟨e, hl, hb⟩
    exact ret_ok ⟨hl, hb⟩
theorem lload_ok (c t m : Int) (t0 : 1 ≤ t) (t1 : t ≤ 6) (m1 : 1 ≤ m) : Ret (m_law_load c t m) fun l => (l.length : Int) = t ∧ (∀ y ∈ l, 0 ≤ y) ∧ 1 ≤ l.sum ∧ l.sum ≤ m := by
  unfold m_law_load b_law_load
  refine ret_fin ?_
  obtain ⟨some_, es, sl, sb⟩ := draws_ok c 8 (by omega) (by omega)
  rw [es]
  simp only [bind_ok]
  rw [okRange_ok (by omega) (by omega) (by omega) (by omega)]
  simp only [bind_ok, chk_ok]
  have at_ : ∀ k : Int, 0 ≤ k → k < 8 → ∃ v, ixQ some_ k = some v ∧ 0 ≤ v := fun k k0 k1 => ⟨_, ixQ_ok k0 (by omega), (sb _ (List.getElem_mem _)).1⟩
  refine ret_flb (ret_for (fun (d r : List Int) (s : List Int × Int) => d ++ r = rangeL 0 t ∧ s.1.length = d.length ∧ (∀ y ∈ s.1, 0 ≤ y) ∧ s.1.sum + s.2 = m ∧ 0 ≤ s.2) ?_ ?_ _ [] _ ⟨rfl, rfl, fun _ h => (nomatch h), by simp, by dsimp only; omega⟩)
  · rintro d x r ⟨l, left⟩ ⟨e, hl, nn, hs, h0⟩
    have ra := range_at e
    dsimp only at hl nn hs h0 ⊢
    obtain ⟨v, ev, v0⟩ := at_ x (by omega) (by omega)
    obtain ⟨w, ew, w0⟩ := at_ 7 (by omega) (by omega)
    rw [ev, ew]
    simp only [bind_ok, chk_ok]
    obtain ⟨g, eg, g0⟩ : ∃ g, ixQ ([4, 8, 16, 41] : List Int) (w % 4) = some g ∧ 0 < g := by
      have : w % 4 = 0 ∨ w % 4 = 1 ∨ w % 4 = 2 ∨ w % 4 = 3 := by omega
      rcases this with h | h | h | h <;> rw [h]
      · exact ⟨4, ixQ_ok (by decide) (by decide), by decide⟩
      · exact ⟨8, ixQ_ok (by decide) (by decide), by decide⟩
      · exact ⟨16, ixQ_ok (by decide) (by decide), by decide⟩
      · exact ⟨41, ixQ_ok (by decide) (by decide), by decide⟩
    rw [eg]
    simp only [bind_ok, chk_ok]
    rw [modQ_ok g0]
    simp only [bind_ok, chk_ok]
    have r0 := Int.emod_nonneg v (show g ≠ 0 by omega)
    generalize hz : (if v % g < left then v % g else left) = z
    have z0 : 0 ≤ z ∧ z ≤ left := by
      rw [← hz]
      split <;> omega
    rw [appQ_ok (by omega)]
    simp only [bind_ok, chk_ok]
    rw [ixQ_ok (by omega) (by rw [List.length_append, List.length_singleton]; omega)]
    simp only [bind_ok, chk_ok]
    have ez : (l ++ [z])[x.toNat]'(by rw [List.length_append, List.length_singleton]; omega) = z := by
      rw [List.getElem_append_right (by omega)]
      simp
    rw [ez]
    refine ret_ok ⟨by rw [List.append_assoc]; exact e, by rw [List.length_append, List.length_append, hl]; rfl, fun y hy => ?_, ?_, by dsimp only; omega⟩
    · rcases List.mem_append.mp hy with h | h
      · exact nn y h
      · rw [List.mem_singleton] at h
        omega
    · dsimp only
      rw [List.sum_append]
      simp only [List.sum_cons, List.sum_nil]
      omega
  · rintro d ⟨l, left⟩ ⟨e, hl, nn, hs, h0⟩
    dsimp only at hl nn hs h0 ⊢
    have re := range_end e
    have sn := (mem_leS nn).1
    refine ret_flb (ret_ifD (fun c => ?_) fun c => ?_)
    · obtain ⟨w, ew, w0⟩ := at_ 6 (by omega) (by omega)
      rw [ew]
      simp only [bind_ok, chk_ok]
      rw [modQ_ok (by omega)]
      simp only [bind_ok, chk_ok]
      have r0 := Int.emod_nonneg w (show t ≠ 0 by omega)
      have r1 := Int.emod_lt_of_pos w (show 0 < t by omega)
      generalize w % t = k at r0 r1 ⊢
      rw [setQ_ok r0 (by omega)]
      simp only [bind_ok, chk_ok]
      have hk : k.toNat < l.length := by omega
      have lk := (mem_leS nn).2 _ (List.getElem_mem hk)
      have lk0 := nn _ (List.getElem_mem hk)
      refine ret_ok (ret_ok ⟨by rw [List.length_set]; omega, fun y hy => ?_, ?_, ?_⟩)
      · rcases List.mem_or_eq_of_mem_set hy with h | h
        · exact nn y h
        · omega
      · rw [sum_setI l k.toNat hk]
        omega
      · rw [sum_setI l k.toNat hk]
        omega
    · exact ret_ok (ret_ok ⟨by omega, nn, by omega, by omega⟩)
theorem erase_perm {α : Type} : ∀ {l : List α} {i : Nat} (h : i < l.length), (l[i] :: l.eraseIdx i).Perm l
  | x :: l, 0, _ => .refl _
  | x :: l, i + 1, h => by
    have := erase_perm (l := l) (i := i) (by simpa using h)
    rw [List.eraseIdx_cons_succ, List.getElem_cons_succ]
    exact (List.Perm.swap x _ _).trans (this.cons x)
theorem lorder_ok (c : Int) (n : Nat) (h6 : n ≤ 6) : Ret (m_law_order c n) fun o => o.Perm (rangeL 0 n) := by
  unfold m_law_order b_law_order
  refine ret_fin ?_
  rw [rgQ_ok (by omega) (by omega)]
  simp only [bind_ok, chk_ok]
  obtain ⟨l, el, hl, hb⟩ := draws_ok c n (by omega) (by omega)
  rw [el]
  simp only [bind_ok]
  refine ret_flb (ret_for (fun (d t : List Int) (s : List Int × List Int) => d ++ t = l ∧ (s.2 ++ s.1).Perm (rangeL 0 n) ∧ s.2.length = d.length) ?_ ?_ _ [] _ ⟨rfl, .refl _, rfl⟩)
  · rintro d x t ⟨left, ord⟩ ⟨e, hp, ho⟩
    dsimp only at hp ho ⊢
    have tl := hp.length_eq
    rw [List.length_append, len_range] at tl
    have dl := congrArg List.length e
    rw [List.length_append, List.length_cons] at dl
    rw [modQ_ok (by omega)]
    simp only [bind_ok, chk_ok]
    have j0 := Int.emod_nonneg x (show (left.length : Int) ≠ 0 by omega)
    have j1 := Int.emod_lt_of_pos x (show (0 : Int) < left.length by omega)
    generalize x % (left.length : Int) = j at j0 j1 ⊢
    rw [popQ_ok j0 j1 (by omega)]
    simp only [bind_ok, chk_ok]
    rw [appQ_ok (by omega)]
    simp only [bind_ok, chk_ok]
    refine ret_ok ⟨by rw [List.append_assoc]; exact e, ?_, ?_⟩
    · dsimp only
      rw [List.append_assoc, List.singleton_append]
      exact ((erase_perm (l := left) (i := j.toNat) (by omega)).append_left ord).trans hp
    · dsimp only
      rw [List.length_append, List.length_append, ho]
      rfl
  · rintro d ⟨left, ord⟩ ⟨e, hp, ho⟩
    rw [List.append_nil] at e
    subst e
    dsimp only at hp ho ⊢
    have tl := hp.length_eq
    rw [List.length_append, len_range] at tl
    have e0 : left = [] := List.length_eq_zero_iff.mp (by omega)
    subst e0
    rw [List.append_nil] at hp
    exact ret_ok hp
/-! ### the first of the shortest: bounds, order, tail -/
theorem fp_bound {l : List Int} {b B : Nat} (h : b ≤ B) : fp b l = (fp B l).bind fun pl => if b < pl.length then none else some pl := by
  cases c : fp B l with
  | none => exact fp_none fun j hj => fp_inv0 c j (by omega)
  | some pl =>
    obtain ⟨d, h1, h2, h3⟩ := fp_inv c
    have e := bst_len d l pl h2
    show _ = if b < pl.length then none else some pl
    by_cases q : b < pl.length
    · rw [if_pos q]
      exact fp_none fun j hj => h3 j (by omega)
    · rw [if_neg q]
      exact fp_some h2 h3 (by omega)
theorem fp_le {l : List Int} {d B : Nat} (h : bst d l ≠ none) (hd : d ≤ B) : ∃ pl, fp B l = some pl ∧ pl.length ≤ d := by
  cases c : fp B l with
  | none => exact absurd (fp_inv0 c d hd) h
  | some pl =>
    obtain ⟨e, h1, h2, h3⟩ := fp_inv c
    refine ⟨pl, rfl, ?_⟩
    have := bst_len e l pl h2
    by_cases q : d < e
    · exact absurd (h3 d q) h
    · omega
theorem fp_perm {n : Nat} {l l2 : List Int} (hl : LdS n l) (h : l.Perm l2) {B : Nat} {pl : List Pour} (hp : fp B l = some pl) : ∃ pl2, fp B l2 = some pl2 ∧ pl2.length ≤ pl.length := by
  obtain ⟨d, h1, h2, h3⟩ := fp_inv hp
  have e := bst_len d l pl h2
  rw [e]
  exact fp_le (bst_perm d l l2 hl h (by rw [h2]; exact fun z => nomatch z)) h1
theorem fp_tail {l : List Int} {B : Nat} {p : Pour} {r : List Pour} (h : fp B l = some (p :: r)) : p ∈ PZ l ∧ fp B (aft l p) = some r := by
  obtain ⟨d, h1, h2, h3⟩ := fp_inv h
  have e := bst_len d l _ h2
  obtain ⟨k, rfl⟩ : ∃ k, d = k + 1 := ⟨d - 1, by rw [List.length_cons] at e; omega⟩
  obtain ⟨p', r', hp, e2, hr⟩ := bst_hd h2
  cases e2
  refine ⟨hp, fp_some hr (fun j hj => ?_) (by omega)⟩
  have := h3 (j + 1) (by omega)
  exact Classical.byContradiction fun z => bst_up hp z this
theorem few7 (l : List Int) (B : Int) (B0 : 0 ≤ B) (h3 : 3 ≤ l.length) (h4 : l.length ≤ 4) (nn : ∀ y ∈ l, 0 ≤ y) (hS : l.sum ≤ 7) : m_fewest_pours l B = .ok (fp B.toNat l) :=
  few_fp l B B0 h3 (by omega) nn (by omega) (Nat.le_trans (Nat.pow_le_pow_left (show l.sum.toNat ≤ 7 by omega) _) (Nat.le_trans (Nat.pow_le_pow_right (by decide) h4) (by decide)))
theorem neO_self (r : Option (List Pour)) : neA (eO (eL (e3 (eV eI) eI eI)) r) (eO (eL (e3 (eV eI) eI eI)) r) = some false := by
  cases r with
  | none =>
    show neA PyData.none PyData.none = _
    unfold neA
    rfl
  | some pl =>
    show neA (eL (e3 (eV eI) eI eI) pl) (eL (e3 (eV eI) eI eI) pl) = _
    rw [neA_law]
    simp
/-! ### one pour ahead -/
def wid (l : List Int) (t : Int) : List Int := (l.map fun y => y + 1).set t.toNat (gI l t - 1)
def oth0 (n t : Int) : List Int := (rangeL 0 n).filter (· != t)
theorem wid_len (l : List Int) (t : Int) : (wid l t).length = l.length := by
  unfold wid
  rw [List.length_set, List.length_map]
theorem wid_gI {l : List Int} {t j : Int} (t0 : 0 ≤ t) (t1 : t < l.length) (j0 : 0 ≤ j) (j1 : j < l.length) : gI (wid l t) j = if j = t then gI l t - 1 else gI l j + 1 := by
  have h := gI_nat (l := wid l t) (i := j.toNat) (by rw [wid_len]; omega)
  have h2 := gI_nat (l := l) (i := j.toNat) (by omega)
  rw [show ((j.toNat : Nat) : Int) = j by omega] at h h2
  rw [h]
  unfold wid
  by_cases c : j = t
  · subst c
    rw [if_pos rfl, List.getElem_set_self]
  · rw [if_neg c, List.getElem_set_ne (by omega), List.getElem_map, h2]
theorem oth0_mem {n t i : Int} : i ∈ oth0 n t ↔ (0 ≤ i ∧ i < n) ∧ i ≠ t := by
  unfold oth0
  rw [List.mem_filter, mem_range, bne_iff_ne]
theorem wid_ok {l : List Int} {t : Int} (h3 : 3 ≤ l.length) (h6 : l.length ≤ 6) (nn : ∀ y ∈ l, 0 ≤ y) (t0 : 0 ≤ t) (t1 : t < l.length) (hp : 0 < gI l t) : (∀ y ∈ wid l t, 0 ≤ y) ∧ (wid l t).sum = l.sum + l.length - 2 ∧ (oth0 l.length t, t, (1 : Int)) ∈ PZ (wid l t) ∧ aft (wid l t) (oth0 l.length t, t, 1) = l := by
  have gn : ∀ j : Int, 0 ≤ j → j < l.length → 0 ≤ gI l j := fun j j0 j1 => nn _ (gI_mem0 j0 j1)
  have ln := wid_len l t
  have nnw : ∀ y ∈ wid l t, 0 ≤ y := fun y hy => by
    obtain ⟨j, j0, j1, rfl⟩ := mem_gI0 hy
    rw [wid_gI t0 t1 j0 (by omega)]
    have := gn j j0 (by omega)
    split <;> omega
  have len : (oth0 (l.length : Int) t).length = l.length - 1 := by
    have h := (asc_nodup (TP.range_asc (lo := 0) (hi := (l.length : Int)))).erase_eq_filter t
    unfold oth0
    rw [← h, List.length_erase_of_mem (mem_range.mpr ⟨t0, t1⟩), len_range]
    omega
  have sub : (oth0 (l.length : Int) t).Sublist (rangeL 0 (l.length : Int)) := List.filter_sublist
  have ok : PourOk ((wid l t).length : Int) (oth0 l.length t, t, (1 : Int)) := ⟨fun z => by
    have z' : oth0 (l.length : Int) t = [] := z
    rw [z'] at len
    simp at len
    omega, by dsimp only; omega, List.Pairwise.sublist sub TP.range_asc, fun i hi => by rw [ln]; exact (oth0_mem.mp hi).1, t0, by rw [ln]; exact t1, fun z => (oth0_mem.mp z).2 rfl, show (0 : Int) < 1 by decide⟩
  have e : aft (wid l t) (oth0 l.length t, t, 1) = l := by
    rw [← list_gI (aft (wid l t) (oth0 l.length t, t, 1)), aft_len, ln]
    conv => rhs; rw [← list_gI l]
    refine List.map_congr_left fun j hj => ?_
    obtain ⟨j0, j1⟩ := mem_range.mp hj
    rw [aft_gI0 j0 (by rw [ln]; exact j1), wid_gI t0 t1 j0 j1]
    dsimp only
    by_cases c : j = t
    · subst c
      rw [if_neg fun z => (oth0_mem.mp z).2 rfl, if_pos rfl, if_pos rfl]
      omega
    · rw [if_pos (oth0_mem.mpr ⟨⟨j0, j1⟩, c⟩), if_neg c]
      omega
  refine ⟨nnw, ?_, pz_in ok (fun i hi hm => ?_) (by dsimp only; omega) (by rw [ln]; exact sub), e⟩
  · have s := aft_sum (wid l t) (oth0 l.length t, t, 1) ok
    rw [e] at s
    dsimp only at s
    rw [len] at s
    omega
  · have hm' := oth0_mem.mp hm
    rw [← gI_nat hi, wid_gI t0 t1 (by omega) (by omega), if_neg hm'.2]
    have := gn i (by omega) (by omega)
    dsimp only
    omega
theorem good_ok (l : List Int) (c : Int) (h3 : 3 ≤ l.length) (h4 : l.length ≤ 4) (nn : ∀ y ∈ l, 0 ≤ y) (hS : l.sum ≤ 5) : m_law_good l c = .ok true := by
  refine ret_eq ?_
  unfold m_law_good b_law_good
  refine ret_fin ?_
  have ld : LdS l.length l := ⟨rfl, h3, by omega, nn, by omega⟩
  rw [few7 l 5 (by decide) h3 h4 nn (by omega)]
  simp only [bind_ok]
  obtain ⟨o, eo, po⟩ := lorder_ok c l.length (by omega)
  rw [eo]
  simp only [bind_ok]
  have mo : ∀ x, x ∈ o ↔ 0 ≤ x ∧ x < (l.length : Int) := fun x => po.mem_iff.trans mem_range
  have ol : o.length = l.length := by
    rw [po.length_eq, len_range]
    omega
  rw [lc_gI l o (fun t ht => (mo t).mp ht) (by omega)]
  simp only [bind_ok]
  have pl2 : l.Perm (o.map (gI l)) := by
    have := po.map (gI l)
    rw [list_gI] at this
    exact this.symm
  generalize o.map (gI l) = l2 at pl2 ⊢
  have ll2 := pl2.length_eq
  have nn2 : ∀ y ∈ l2, 0 ≤ y := fun y hy => nn y (pl2.mem_iff.mpr hy)
  have s2 := bperm_sum pl2
  have ld2 : LdS l2.length l2 := ⟨rfl, by omega, by omega, nn2, by omega⟩
  rw [few7 l2 5 (by decide) (by omega) (by omega) nn2 (by omega)]
  simp only [bind_ok]
  rw [show (5 : Int).toNat = 5 from rfl]
  have hN : (fp 5 l).isNone = (fp 5 l2).isNone := by
    cases a : fp 5 l with
    | none =>
      cases b : fp 5 l2 with
      | none => rfl
      | some q =>
        obtain ⟨r, er, _⟩ := fp_perm ld2 pl2.symm b
        rw [a] at er
        cases er
    | some p =>
      obtain ⟨r, er, _⟩ := fp_perm ld pl2 a
      rw [er]
      rfl
  rw [decide_eq_true hN, Bool.not_true, ifR_f]
  have bnd : ∀ b : Int, 0 ≤ b → b ≤ 5 → m_fewest_pours l b = .ok ((fp 5 l).bind fun pl => if b < pl.length then none else some pl) := fun b b0 b5 => by
    rw [few7 l b b0 h3 h4 nn (by omega), fp_bound (b := b.toNat) (B := 5) (by omega)]
    congr 2
    funext pl
    by_cases q : b < pl.length
    · rw [if_pos q, if_pos (by omega)]
    · rw [if_neg q, if_neg (by omega)]
  obtain ⟨w, ew, w0, w5⟩ : ∃ w : Int, (Res.bind (orLR (fp 5 l) (Res.ok ([] : List Pour))) fun t953 => Res.ok (t953.length : Int)) = .ok w ∧ 0 ≤ w ∧ w ≤ 5 := by
    cases a : fp 5 l with
    | none => exact ⟨0, rfl, by decide, by decide⟩
    | some p =>
      obtain ⟨d, d1, d2, _⟩ := fp_inv a
      have := bst_len d l p d2
      cases p with
      | nil => exact ⟨0, rfl, by decide, by decide⟩
      | cons x xs => exact ⟨((x :: xs).length : Int), rfl, by omega, by omega⟩
  rw [ew]
  simp only [bind_ok]
  refine ret_flb (ret_for (fun (d t : List Int) (s : Option (List Pour)) => s = fp 5 l ∧ ∀ x ∈ t, 0 ≤ x ∧ x ≤ 5) ?_ ?_ _ [] _ ⟨rfl, fun x hx => ?_⟩)
  rotate_left 2
  · simp only [List.mem_cons, List.not_mem_nil, or_false] at hx
    split at hx <;> omega
  · rintro d x t s ⟨rfl, hb⟩
    obtain ⟨x0, x5⟩ := hb x List.mem_cons_self
    have hb' : ∀ y ∈ t, 0 ≤ y ∧ y ≤ 5 := fun y hy => hb y (List.mem_cons_of_mem _ hy)
    rw [bnd x x0 x5]
    cases a : fp 5 l with
    | none =>
      rw [show (none : Option (List Pour)).isSome = false from rfl]
      refine ret_flb (ret_ok ?_)
      dsimp only
      simp only [bind_ok, Option.bind_none]
      rw [neO_self]
      simp only [chk_ok, decide_true, Bool.not_true, orR_ok, Bool.or_self, ifR_f]
      exact ret_ok ⟨rfl, hb'⟩
    | some p =>
      rw [show (some p : Option (List Pour)).isSome = true from rfl]
      simp only [optQ, chk_ok, bind_ok, andR_ok, Bool.true_and, Option.bind_some]
      refine ret_flb (ret_ifD (fun q => ret_ok ?_) fun q => ret_ok ?_)
      · dsimp only
        rw [if_pos q, neO_self]
        simp only [chk_ok, decide_true, Bool.not_true, orR_ok, Bool.or_self, ifR_f]
        exact ret_ok ⟨rfl, hb'⟩
      · dsimp only
        rw [if_neg q, neO_self]
        simp only [chk_ok, decide_true, Bool.not_true, orR_ok, Bool.or_self, ifR_f]
        exact ret_ok ⟨rfl, hb'⟩
  · rintro d s ⟨rfl, _⟩
    cases a : fp 5 l with
    | none => exact ret_ok rfl
    | some p =>
      dsimp only
      rw [show (some p : Option (List Pour)).isNone = false from rfl, ifR_f]
      simp only [optQ, chk_ok, bind_ok]
      obtain ⟨q, eq, lq⟩ := fp_perm ld pl2 a
      obtain ⟨p', ep', lp⟩ := fp_perm ld2 pl2.symm eq
      rw [a] at ep'
      cases ep'
      obtain ⟨d2, _, db, _⟩ := fp_inv eq
      obtain ⟨b, pb, sb⟩ := bst_pth d2 l2 q db
      rw [eq]
      simp only [optQ, chk_ok, bind_ok]
      rw [loadb_ok l2 q (pth_doable ld2 pb), pb.end_]
      simp only [bind_ok]
      rw [decide_eq_true sb, decide_eq_true (show (q.length : Int) = p.length by omega)]
      simp only [Bool.not_true, orR_ok, Bool.or_self, ifR_f]
      obtain ⟨dp, dp1, dp2, _⟩ := fp_inv a
      have lp2 := bst_len dp l p dp2
      have tl : andR (Res.ok (!decide (p = ([] : List Pour)))) (Res.bind (Res.bind (Res.bind (m_load_behind l (cutA p none (some (1 : Int)))) fun t1006 => Res.ok (t1006, ((5 : Int), ()))) fun t1008 => m_fewest_pours t1008.1 t1008.2.1) fun t1009 => chk (neA ((eO (eL (e3 (eV eI) eI eI))) t1009) ((eL (e3 (eV eI) eI eI)) (cutA p (some (1 : Int)) none)))) = .ok false := by
        cases p with
        | nil => rfl
        | cons x r =>
          obtain ⟨hx, hr⟩ := fp_tail a
          obtain ⟨ho, hc, _⟩ := PZ_mem ld.ok hx
          have la := ld.aft hx
          have sl := aft_less ho (PZ_mem ld.ok hx).2.2
          rw [cut_to (by decide), cut_from (by decide), show (1 : Int).toNat = 1 from rfl, List.take_succ_cons, List.take_zero, List.drop_succ_cons, List.drop_zero]
          rw [loadb_ok l [x] ⟨ho, hc, trivial⟩]
          simp only [bind_ok, List.foldl_cons, List.foldl_nil]
          rw [few7 (aft l x) 5 (by decide) (by rw [aft_len]; exact h3) (by rw [aft_len]; exact h4) la.nn (by omega), show (5 : Int).toNat = 5 from rfl, hr]
          simp only [bind_ok]
          rw [show neA (eO (eL (e3 (eV eI) eI eI)) (some r)) (eL (e3 (eV eI) eI eI) r) = some false from neO_self (some r)]
          simp only [chk_ok, decide_false, Bool.not_false, andR_ok, Bool.and_false, reduceCtorEq]
      rw [tl, ifR_f]
      have o0 : (0 : Int) < o.length := by omega
      rw [ixQ_ok (by decide) o0]
      simp only [chk_ok, bind_ok]
      obtain ⟨t0, t1⟩ := (mo _).mp (List.getElem_mem (l := o) (n := (0 : Int).toNat) (by omega))
      generalize o[(0 : Int).toNat]'(by omega) = t at t0 t1 ⊢
      rw [ix_gI t0 t1]
      simp only [chk_ok, bind_ok, orR_ok]
      by_cases c1 : gI l t = 0 ∨ 4 < (p.length : Int)
      · rw [show (decide (gI l t = 0) || decide ((4 : Int) < (p.length : Int))) = true by rcases c1 with z | z <;> simp [z], ifR_t]
        exact ret_ok rfl
      · rw [show (decide (gI l t = 0) || decide ((4 : Int) < (p.length : Int))) = false by simp; omega, ifR_f]
        have gt : 0 < gI l t := by
          have := nn _ (gI_mem0 t0 t1)
          omega
        obtain ⟨w1, w2, w3, w4⟩ := wid_ok h3 (by omega) nn t0 t1 gt
        rw [lcR_map (g := fun y => y + 1) (fun y _ => rfl) (by rw [sizeLine_eq]; omega)]
        simp only [bind_ok]
        rw [setQ_ok t0 (by rw [List.length_map]; omega)]
        simp only [chk_ok, bind_ok]
        rw [show (l.map fun y => y + 1).set t.toNat (gI l t - 1) = wid l t from rfl]
        rw [few7 (wid l t) 5 (by decide) (by rw [wid_len]; exact h3) (by rw [wid_len]; exact h4) w1 (by omega), show (5 : Int).toNat = 5 from rfl]
        obtain ⟨m, em, lm⟩ := fp_le (B := 5) (bst_up w3 (by rw [w4, dp2]; exact fun z => nomatch z)) (by omega)
        rw [em]
        simp only [bind_ok, optQ, chk_ok, Option.isSome_some]
        rw [decide_eq_true (show (m.length : Int) ≤ p.length + 1 by omega), andR_ok]
        exact ret_ok rfl
theorem top_law (ns : List Int) (_ : ns.length ≤ 63) (_ : ∀ z ∈ ns, Builtin.Int.intBits z ≤ 1048576) : m_law ns = .ok true := by
  refine ret_eq ?_
  unfold m_law b_law
  refine ret_fin ?_
  obtain ⟨c0, e0⟩ := cell_ok ns 0 (by omega)
  obtain ⟨c1, e1⟩ := cell_ok ns 1 (by omega)
  rw [e0, e1]
  simp only [bind_ok]
  refine ret_flb (ret_for (fun (_ _ : List Int) (_ : Unit) => True) ?_ ?_ _ [] _ trivial)
  · rintro d x t s _
    obtain ⟨l, el, hl, nn, s1, s7⟩ := lload_ok (x / 24) (3 + x % 2) 5 (by omega) (by omega) (by omega)
    rw [el]
    simp only [bind_ok]
    rw [good_ok l (x / 2 * 7 + 1) (by omega) (by omega) nn s7]
    exact ret_ok trivial
  · rintro d s _
    exact ret_ok rfl
end G

set_option Elab.async false
set_option linter.all false
set_option maxRecDepth 100000
set_option maxHeartbeats 4000000
set_option autoImplicit false
namespace G
open PySem PySem.Spec PyProof.Rows L2 TP RT
theorem all_mk {w : World} {K : Fg} {h : Heap} {mg : Str → Option Value} {fa : Addr} (X : K.In h) (G : h.Ns mainGlobals mg) (hfa : mg "law" = some (.ref fa))
    {xC_Search : Addr}
    (og_Search : PySem.W.nsIn K mainGlobals "Search" = some (some (.ref xC_Search)))
    (oa_Search : PySem.W.plainGet K xC_Search Str.empty = true)
    (ob_Search : PySem.W.hasDictIn K xC_Search = true)
    (oc_Search : PySem.W.plainOver K xC_Search = true)
    (od_Search : PySem.W.findIn K (.ref xC_Search) "__setattr__" = some (some (.builtin "object.__setattr__")))
    (oe_Search : PySem.W.makesIn K xC_Search = true)
    (of_Search : PySem.W.keepIn K (.ref xC_Search) = true)
    (on_Search_rows : PySem.W.findIn K (.ref xC_Search) "rows" = some none)
    (on_Search_known : PySem.W.findIn K (.ref xC_Search) "known" = some none)
    {f_law_cell : Addr} {od_law_cell an_law_cell : Option Addr} {sl_law_cell : Array (Option Value)} {oc_law_cell kV_law_cell dc_law_cell pm_law_cell cd_law_cell ct_law_cell : Value}
    (a_law_cell : PySem.W.nsIn K mainGlobals "_law_cell" = some (some (.ref f_law_cell))) (l_law_cell : K.lookup f_law_cell = some ⟨oc_law_cell, od_law_cell, .func (PySem.W.fnOf "_law_cell" "_law_cell" (defArgs s_law_cell) (defBody s_law_cell) (defScope s_law_cell) .none kV_law_cell dc_law_cell pm_law_cell an_law_cell cd_law_cell ct_law_cell), sl_law_cell⟩) (c_law_cell : PySem.W.codeIn K cd_law_cell "_law_cell" = true) (k_law_cell : PySem.W.keepIn K (.ref f_law_cell) = true)
    {f_law_draws : Addr} {od_law_draws an_law_draws : Option Addr} {sl_law_draws : Array (Option Value)} {oc_law_draws kV_law_draws dc_law_draws pm_law_draws cd_law_draws ct_law_draws : Value}
    (a_law_draws : PySem.W.nsIn K mainGlobals "_law_draws" = some (some (.ref f_law_draws))) (l_law_draws : K.lookup f_law_draws = some ⟨oc_law_draws, od_law_draws, .func (PySem.W.fnOf "_law_draws" "_law_draws" (defArgs s_law_draws) (defBody s_law_draws) (defScope s_law_draws) .none kV_law_draws dc_law_draws pm_law_draws an_law_draws cd_law_draws ct_law_draws), sl_law_draws⟩) (c_law_draws : PySem.W.codeIn K cd_law_draws "_law_draws" = true) (k_law_draws : PySem.W.keepIn K (.ref f_law_draws) = true)
    {f_law_load : Addr} {od_law_load an_law_load : Option Addr} {sl_law_load : Array (Option Value)} {oc_law_load kV_law_load dc_law_load pm_law_load cd_law_load ct_law_load : Value}
    (a_law_load : PySem.W.nsIn K mainGlobals "_law_load" = some (some (.ref f_law_load))) (l_law_load : K.lookup f_law_load = some ⟨oc_law_load, od_law_load, .func (PySem.W.fnOf "_law_load" "_law_load" (defArgs s_law_load) (defBody s_law_load) (defScope s_law_load) .none kV_law_load dc_law_load pm_law_load an_law_load cd_law_load ct_law_load), sl_law_load⟩) (c_law_load : PySem.W.codeIn K cd_law_load "_law_load" = true) (k_law_load : PySem.W.keepIn K (.ref f_law_load) = true)
    {f_Search____init : Addr} {od_Search____init an_Search____init : Option Addr} {sl_Search____init : Array (Option Value)} {oc_Search____init kV_Search____init dc_Search____init pm_Search____init cd_Search____init ct_Search____init : Value}
    (a_Search____init : PySem.W.findIn K (.ref xC_Search) "__init__" = some (some (.ref f_Search____init))) (l_Search____init : K.lookup f_Search____init = some ⟨oc_Search____init, od_Search____init, .func (PySem.W.fnOf "__init__" "Search.__init__" (defArgs s_Search____init) (defBody s_Search____init) (defScope s_Search____init) .none kV_Search____init dc_Search____init pm_Search____init an_Search____init cd_Search____init ct_Search____init), sl_Search____init⟩) (c_Search____init : PySem.W.codeIn K cd_Search____init "Search.__init__" = true) (k_Search____init : PySem.W.keepIn K (.ref f_Search____init) = true) (i_Search____init : PySem.W.isFn K (.ref f_Search____init) = true)
    {f_rising_rows : Addr} {od_rising_rows an_rising_rows : Option Addr} {sl_rising_rows : Array (Option Value)} {oc_rising_rows kV_rising_rows dc_rising_rows pm_rising_rows cd_rising_rows ct_rising_rows : Value}
    (a_rising_rows : PySem.W.nsIn K mainGlobals "rising_rows" = some (some (.ref f_rising_rows))) (l_rising_rows : K.lookup f_rising_rows = some ⟨oc_rising_rows, od_rising_rows, .func (PySem.W.fnOf "rising_rows" "rising_rows" (defArgs s_rising_rows) (defBody s_rising_rows) (defScope s_rising_rows) .none kV_rising_rows dc_rising_rows pm_rising_rows an_rising_rows cd_rising_rows ct_rising_rows), sl_rising_rows⟩) (c_rising_rows : PySem.W.codeIn K cd_rising_rows "rising_rows" = true) (k_rising_rows : PySem.W.keepIn K (.ref f_rising_rows) = true)
    {f_pours_of : Addr} {od_pours_of an_pours_of : Option Addr} {sl_pours_of : Array (Option Value)} {oc_pours_of kV_pours_of dc_pours_of pm_pours_of cd_pours_of ct_pours_of : Value}
    (a_pours_of : PySem.W.nsIn K mainGlobals "pours_of" = some (some (.ref f_pours_of))) (l_pours_of : K.lookup f_pours_of = some ⟨oc_pours_of, od_pours_of, .func (PySem.W.fnOf "pours_of" "pours_of" (defArgs s_pours_of) (defBody s_pours_of) (defScope s_pours_of) .none kV_pours_of dc_pours_of pm_pours_of an_pours_of cd_pours_of ct_pours_of), sl_pours_of⟩) (c_pours_of : PySem.W.codeIn K cd_pours_of "pours_of" = true) (k_pours_of : PySem.W.keepIn K (.ref f_pours_of) = true)
    {f_is_below : Addr} {od_is_below an_is_below : Option Addr} {sl_is_below : Array (Option Value)} {oc_is_below kV_is_below dc_is_below pm_is_below cd_is_below ct_is_below : Value}
    (a_is_below : PySem.W.nsIn K mainGlobals "is_below" = some (some (.ref f_is_below))) (l_is_below : K.lookup f_is_below = some ⟨oc_is_below, od_is_below, .func (PySem.W.fnOf "is_below" "is_below" (defArgs s_is_below) (defBody s_is_below) (defScope s_is_below) .none kV_is_below dc_is_below pm_is_below an_is_below cd_is_below ct_is_below), sl_is_below⟩) (c_is_below : PySem.W.codeIn K cd_is_below "is_below" = true) (k_is_below : PySem.W.keepIn K (.ref f_is_below) = true)
    {f_are_froms : Addr} {od_are_froms an_are_froms : Option Addr} {sl_are_froms : Array (Option Value)} {oc_are_froms kV_are_froms dc_are_froms pm_are_froms cd_are_froms ct_are_froms : Value}
    (a_are_froms : PySem.W.nsIn K mainGlobals "are_froms" = some (some (.ref f_are_froms))) (l_are_froms : K.lookup f_are_froms = some ⟨oc_are_froms, od_are_froms, .func (PySem.W.fnOf "are_froms" "are_froms" (defArgs s_are_froms) (defBody s_are_froms) (defScope s_are_froms) .none kV_are_froms dc_are_froms pm_are_froms an_are_froms cd_are_froms ct_are_froms), sl_are_froms⟩) (c_are_froms : PySem.W.codeIn K cd_are_froms "are_froms" = true) (k_are_froms : PySem.W.keepIn K (.ref f_are_froms) = true)
    {f_is_pour : Addr} {od_is_pour an_is_pour : Option Addr} {sl_is_pour : Array (Option Value)} {oc_is_pour kV_is_pour dc_is_pour pm_is_pour cd_is_pour ct_is_pour : Value}
    (a_is_pour : PySem.W.nsIn K mainGlobals "is_pour" = some (some (.ref f_is_pour))) (l_is_pour : K.lookup f_is_pour = some ⟨oc_is_pour, od_is_pour, .func (PySem.W.fnOf "is_pour" "is_pour" (defArgs s_is_pour) (defBody s_is_pour) (defScope s_is_pour) .none kV_is_pour dc_is_pour pm_is_pour an_is_pour cd_is_pour ct_is_pour), sl_is_pour⟩) (c_is_pour : PySem.W.codeIn K cd_is_pour "is_pour" = true) (k_is_pour : PySem.W.keepIn K (.ref f_is_pour) = true)
    {f_load_behind : Addr} {od_load_behind an_load_behind : Option Addr} {sl_load_behind : Array (Option Value)} {oc_load_behind kV_load_behind dc_load_behind pm_load_behind cd_load_behind ct_load_behind : Value}
    (a_load_behind : PySem.W.nsIn K mainGlobals "load_behind" = some (some (.ref f_load_behind))) (l_load_behind : K.lookup f_load_behind = some ⟨oc_load_behind, od_load_behind, .func (PySem.W.fnOf "load_behind" "load_behind" (defArgs s_load_behind) (defBody s_load_behind) (defScope s_load_behind) .none kV_load_behind dc_load_behind pm_load_behind an_load_behind cd_load_behind ct_load_behind), sl_load_behind⟩) (c_load_behind : PySem.W.codeIn K cd_load_behind "load_behind" = true) (k_load_behind : PySem.W.keepIn K (.ref f_load_behind) = true)
    {f_Search__come_to : Addr} {od_Search__come_to an_Search__come_to : Option Addr} {sl_Search__come_to : Array (Option Value)} {oc_Search__come_to kV_Search__come_to dc_Search__come_to pm_Search__come_to cd_Search__come_to ct_Search__come_to : Value}
    (a_Search__come_to : PySem.W.findIn K (.ref xC_Search) "come_to" = some (some (.ref f_Search__come_to))) (l_Search__come_to : K.lookup f_Search__come_to = some ⟨oc_Search__come_to, od_Search__come_to, .func (PySem.W.fnOf "come_to" "Search.come_to" (defArgs s_Search__come_to) (defBody s_Search__come_to) (defScope s_Search__come_to) .none kV_Search__come_to dc_Search__come_to pm_Search__come_to an_Search__come_to cd_Search__come_to ct_Search__come_to), sl_Search__come_to⟩) (c_Search__come_to : PySem.W.codeIn K cd_Search__come_to "Search.come_to" = true) (k_Search__come_to : PySem.W.keepIn K (.ref f_Search__come_to) = true) (i_Search__come_to : PySem.W.isFn K (.ref f_Search__come_to) = true)
    {f_Search__plan_to : Addr} {od_Search__plan_to an_Search__plan_to : Option Addr} {sl_Search__plan_to : Array (Option Value)} {oc_Search__plan_to kV_Search__plan_to dc_Search__plan_to pm_Search__plan_to cd_Search__plan_to ct_Search__plan_to : Value}
    (a_Search__plan_to : PySem.W.findIn K (.ref xC_Search) "plan_to" = some (some (.ref f_Search__plan_to))) (l_Search__plan_to : K.lookup f_Search__plan_to = some ⟨oc_Search__plan_to, od_Search__plan_to, .func (PySem.W.fnOf "plan_to" "Search.plan_to" (defArgs s_Search__plan_to) (defBody s_Search__plan_to) (defScope s_Search__plan_to) .none kV_Search__plan_to dc_Search__plan_to pm_Search__plan_to an_Search__plan_to cd_Search__plan_to ct_Search__plan_to), sl_Search__plan_to⟩) (c_Search__plan_to : PySem.W.codeIn K cd_Search__plan_to "Search.plan_to" = true) (k_Search__plan_to : PySem.W.keepIn K (.ref f_Search__plan_to) = true) (i_Search__plan_to : PySem.W.isFn K (.ref f_Search__plan_to) = true)
    {f_fewest_pours : Addr} {od_fewest_pours an_fewest_pours : Option Addr} {sl_fewest_pours : Array (Option Value)} {oc_fewest_pours kV_fewest_pours dc_fewest_pours pm_fewest_pours cd_fewest_pours ct_fewest_pours : Value}
    (a_fewest_pours : PySem.W.nsIn K mainGlobals "fewest_pours" = some (some (.ref f_fewest_pours))) (l_fewest_pours : K.lookup f_fewest_pours = some ⟨oc_fewest_pours, od_fewest_pours, .func (PySem.W.fnOf "fewest_pours" "fewest_pours" (defArgs s_fewest_pours) (defBody s_fewest_pours) (defScope s_fewest_pours) .none kV_fewest_pours dc_fewest_pours pm_fewest_pours an_fewest_pours cd_fewest_pours ct_fewest_pours), sl_fewest_pours⟩) (c_fewest_pours : PySem.W.codeIn K cd_fewest_pours "fewest_pours" = true) (k_fewest_pours : PySem.W.keepIn K (.ref f_fewest_pours) = true)
    {f_law_order : Addr} {od_law_order an_law_order : Option Addr} {sl_law_order : Array (Option Value)} {oc_law_order kV_law_order dc_law_order pm_law_order cd_law_order ct_law_order : Value}
    (a_law_order : PySem.W.nsIn K mainGlobals "_law_order" = some (some (.ref f_law_order))) (l_law_order : K.lookup f_law_order = some ⟨oc_law_order, od_law_order, .func (PySem.W.fnOf "_law_order" "_law_order" (defArgs s_law_order) (defBody s_law_order) (defScope s_law_order) .none kV_law_order dc_law_order pm_law_order an_law_order cd_law_order ct_law_order), sl_law_order⟩) (c_law_order : PySem.W.codeIn K cd_law_order "_law_order" = true) (k_law_order : PySem.W.keepIn K (.ref f_law_order) = true)
    {f_law_good : Addr} {od_law_good an_law_good : Option Addr} {sl_law_good : Array (Option Value)} {oc_law_good kV_law_good dc_law_good pm_law_good cd_law_good ct_law_good : Value}
    (a_law_good : PySem.W.nsIn K mainGlobals "_law_good" = some (some (.ref f_law_good))) (l_law_good : K.lookup f_law_good = some ⟨oc_law_good, od_law_good, .func (PySem.W.fnOf "_law_good" "_law_good" (defArgs s_law_good) (defBody s_law_good) (defScope s_law_good) .none kV_law_good dc_law_good pm_law_good an_law_good cd_law_good ct_law_good), sl_law_good⟩) (c_law_good : PySem.W.codeIn K cd_law_good "_law_good" = true) (k_law_good : PySem.W.keepIn K (.ref f_law_good) = true)
    {f_law : Addr} {od_law an_law : Option Addr} {sl_law : Array (Option Value)} {oc_law kV_law dc_law pm_law cd_law ct_law : Value}
    (a_law : PySem.W.nsIn K mainGlobals "law" = some (some (.ref f_law))) (l_law : K.lookup f_law = some ⟨oc_law, od_law, .func (PySem.W.fnOf "law" "law" (defArgs s_law) (defBody s_law) (defScope s_law) .none kV_law dc_law pm_law an_law cd_law ct_law), sl_law⟩) (c_law : PySem.W.codeIn K cd_law "law" = true) (k_law : PySem.W.keepIn K (.ref f_law) = true)

    (z_len : PySem.W.nsIn K mainGlobals "len" = some none)
    (z_range : PySem.W.nsIn K mainGlobals "range" = some none)
    (z_int : PySem.W.nsIn K mainGlobals "int" = some none)
    (z_min : PySem.W.nsIn K mainGlobals "min" = some none)
    (z_sum : PySem.W.nsIn K mainGlobals "sum" = some none)
    (z_tuple : PySem.W.nsIn K mainGlobals "tuple" = some none)
    (z_sorted : PySem.W.nsIn K mainGlobals "sorted" = some none)
    (z_list : PySem.W.nsIn K mainGlobals "list" = some none)
    (z_enumerate : PySem.W.nsIn K mainGlobals "enumerate" = some none)
    (z_isinstance : PySem.W.nsIn K mainGlobals "isinstance" = some none)
    (z_reversed : PySem.W.nsIn K mainGlobals "reversed" = some none)
    (z_bool : PySem.W.nsIn K mainGlobals "bool" = some none)
    {t_MOST_FROMS : Tok} (y_MOST_FROMS : PySem.W.nsIn K mainGlobals "MOST_FROMS" = some (some (.int 5 t_MOST_FROMS)))
    {t_MOST_LOADS : Tok} (y_MOST_LOADS : PySem.W.nsIn K mainGlobals "MOST_LOADS" = some (some (.int 4000 t_MOST_LOADS)))
    (top : ∀ ns : List Int, ns.length ≤ 63 → (∀ z ∈ ns, Builtin.Int.intBits z ≤ 1048576) → m_law ns = .ok true) :
    ∃ fd : FuncData, (∀ (s : Shared) (v : Value), BindsTo s fd ⟨[v], []⟩ [("_law_script", v)]) ∧ ∀ base : Heap, K.In base → base.Ns mainGlobals mg → FnOk PySem.Challenge.pw_tapepour_k37_whole_bounds_and_orders w K mg base (L2.CX PySem.Challenge.pw_tapepour_k37_whole_bounds_and_orders w) 8 fa fd ["_law_script"] (spL K) := by
  have e := hfa.symm.trans (PySem.W.mg_of X G a_law)
  cases e
  have F_law_cell := fun_mk (st := s_law_cell) l_law_cell c_law_cell k_law_cell
  have F_law_draws := fun_mk (st := s_law_draws) l_law_draws c_law_draws k_law_draws
  have F_law_load := fun_mk (st := s_law_load) l_law_load c_law_load k_law_load
  have F_Search____init := fun_mk (st := s_Search____init) l_Search____init c_Search____init k_Search____init
  have F_rising_rows := fun_mk (st := s_rising_rows) l_rising_rows c_rising_rows k_rising_rows
  have F_pours_of := fun_mk (st := s_pours_of) l_pours_of c_pours_of k_pours_of
  have F_is_below := fun_mk (st := s_is_below) l_is_below c_is_below k_is_below
  have F_are_froms := fun_mk (st := s_are_froms) l_are_froms c_are_froms k_are_froms
  have F_is_pour := fun_mk (st := s_is_pour) l_is_pour c_is_pour k_is_pour
  have F_load_behind := fun_mk (st := s_load_behind) l_load_behind c_load_behind k_load_behind
  have F_Search__come_to := fun_mk (st := s_Search__come_to) l_Search__come_to c_Search__come_to k_Search__come_to
  have F_Search__plan_to := fun_mk (st := s_Search__plan_to) l_Search__plan_to c_Search__plan_to k_Search__plan_to
  have F_fewest_pours := fun_mk (st := s_fewest_pours) l_fewest_pours c_fewest_pours k_fewest_pours
  have F_law_order := fun_mk (st := s_law_order) l_law_order c_law_order k_law_order
  have F_law_good := fun_mk (st := s_law_good) l_law_good c_law_good k_law_good
  have F_law := fun_mk (st := s_law) l_law c_law k_law
  have n_law_cell := F_law_cell.binds (ps := ["_law_script", "_law_k"]) fun _ _ _ _ _ _ us hl => match us, hl with | [_, _], _ => rfl
  have n_law_draws := F_law_draws.binds (ps := ["_law_cell_here", "_law_many"]) fun _ _ _ _ _ _ us hl => match us, hl with | [_, _], _ => rfl
  have n_law_load := F_law_load.binds (ps := ["_law_cell_here", "_law_tapes", "_law_most"]) fun _ _ _ _ _ _ us hl => match us, hl with | [_, _, _], _ => rfl
  have n_Search____init := F_Search____init.binds (ps := ["self", "load"]) fun _ _ _ _ _ _ us hl => match us, hl with | [_, _], _ => rfl
  have n_rising_rows := F_rising_rows.binds (ps := ["numbers"]) fun _ _ _ _ _ _ us hl => match us, hl with | [_], _ => rfl
  have n_pours_of := F_pours_of.binds (ps := ["load"]) fun _ _ _ _ _ _ us hl => match us, hl with | [_], _ => rfl
  have n_is_below := F_is_below.binds (ps := ["thing", "count"]) fun _ _ _ _ _ _ us hl => match us, hl with | [_, _], _ => rfl
  have n_are_froms := F_are_froms.binds (ps := ["froms", "tapes"]) fun _ _ _ _ _ _ us hl => match us, hl with | [_, _], _ => rfl
  have n_is_pour := F_is_pour.binds (ps := ["pour", "tapes"]) fun _ _ _ _ _ _ us hl => match us, hl with | [_, _], _ => rfl
  have n_load_behind := F_load_behind.binds (ps := ["load", "plan"]) fun _ _ _ _ _ _ us hl => match us, hl with | [_, _], _ => rfl
  have n_Search__come_to := F_Search__come_to.binds (ps := ["self", "place", "pour"]) fun _ _ _ _ _ _ us hl => match us, hl with | [_, _, _], _ => rfl
  have n_Search__plan_to := F_Search__plan_to.binds (ps := ["self", "place"]) fun _ _ _ _ _ _ us hl => match us, hl with | [_, _], _ => rfl
  have n_fewest_pours := F_fewest_pours.binds (ps := ["load", "bound"]) fun _ _ _ _ _ _ us hl => match us, hl with | [_, _], _ => rfl
  have n_law_order := F_law_order.binds (ps := ["_law_cell_here", "_law_many"]) fun _ _ _ _ _ _ us hl => match us, hl with | [_, _], _ => rfl
  have n_law_good := F_law_good.binds (ps := ["_law_load_here", "_law_cell_here"]) fun _ _ _ _ _ _ us hl => match us, hl with | [_, _], _ => rfl
  have n_law := F_law.binds (ps := ["_law_script"]) fun _ _ _ _ _ _ us hl => match us, hl with | [_], _ => rfl
  let T : Tx K mg := {
    C_Search := _
    g_Search := PySem.W.mg_of X G og_Search
    k_Search := ⟨oa_Search, ob_Search, oc_Search, od_Search⟩
    f_Search_rows := on_Search_rows
    f_Search_known := on_Search_known
    a_law_cell := _
    fd_law_cell := _
    F_law_cell := F_law_cell
    g_law_cell := PySem.W.mg_of X G a_law_cell
    n_law_cell := n_law_cell
    a_law_draws := _
    fd_law_draws := _
    F_law_draws := F_law_draws
    g_law_draws := PySem.W.mg_of X G a_law_draws
    n_law_draws := n_law_draws
    a_law_load := _
    fd_law_load := _
    F_law_load := F_law_load
    g_law_load := PySem.W.mg_of X G a_law_load
    n_law_load := n_law_load
    a_Search____init := _
    fd_Search____init := _
    F_Search____init := F_Search____init
    n_Search____init := n_Search____init
    K_Search := ⟨oe_Search, a_Search____init, i_Search____init, of_Search⟩
    a_rising_rows := _
    fd_rising_rows := _
    F_rising_rows := F_rising_rows
    g_rising_rows := PySem.W.mg_of X G a_rising_rows
    n_rising_rows := n_rising_rows
    a_pours_of := _
    fd_pours_of := _
    F_pours_of := F_pours_of
    g_pours_of := PySem.W.mg_of X G a_pours_of
    n_pours_of := n_pours_of
    a_is_below := _
    fd_is_below := _
    F_is_below := F_is_below
    g_is_below := PySem.W.mg_of X G a_is_below
    n_is_below := n_is_below
    a_are_froms := _
    fd_are_froms := _
    F_are_froms := F_are_froms
    g_are_froms := PySem.W.mg_of X G a_are_froms
    n_are_froms := n_are_froms
    a_is_pour := _
    fd_is_pour := _
    F_is_pour := F_is_pour
    g_is_pour := PySem.W.mg_of X G a_is_pour
    n_is_pour := n_is_pour
    a_load_behind := _
    fd_load_behind := _
    F_load_behind := F_load_behind
    g_load_behind := PySem.W.mg_of X G a_load_behind
    n_load_behind := n_load_behind
    a_Search__come_to := _
    fd_Search__come_to := _
    F_Search__come_to := F_Search__come_to
    n_Search__come_to := n_Search__come_to
    m_Search__come_to := ⟨a_Search__come_to, i_Search__come_to, k_Search__come_to⟩
    a_Search__plan_to := _
    fd_Search__plan_to := _
    F_Search__plan_to := F_Search__plan_to
    n_Search__plan_to := n_Search__plan_to
    m_Search__plan_to := ⟨a_Search__plan_to, i_Search__plan_to, k_Search__plan_to⟩
    a_fewest_pours := _
    fd_fewest_pours := _
    F_fewest_pours := F_fewest_pours
    g_fewest_pours := PySem.W.mg_of X G a_fewest_pours
    n_fewest_pours := n_fewest_pours
    a_law_order := _
    fd_law_order := _
    F_law_order := F_law_order
    g_law_order := PySem.W.mg_of X G a_law_order
    n_law_order := n_law_order
    a_law_good := _
    fd_law_good := _
    F_law_good := F_law_good
    g_law_good := PySem.W.mg_of X G a_law_good
    n_law_good := n_law_good
    a_law := _
    fd_law := _
    F_law := F_law
    g_law := PySem.W.mg_of X G a_law
    n_law := n_law
    b_len := PySem.W.mg_none_of X G z_len
    b_range := PySem.W.mg_none_of X G z_range
    b_int := PySem.W.mg_none_of X G z_int
    b_min := PySem.W.mg_none_of X G z_min
    b_sum := PySem.W.mg_none_of X G z_sum
    b_tuple := PySem.W.mg_none_of X G z_tuple
    b_sorted := PySem.W.mg_none_of X G z_sorted
    b_list := PySem.W.mg_none_of X G z_list
    b_enumerate := PySem.W.mg_none_of X G z_enumerate
    b_isinstance := PySem.W.mg_none_of X G z_isinstance
    b_reversed := PySem.W.mg_none_of X G z_reversed
    b_bool := PySem.W.mg_none_of X G z_bool
    c_MOST_FROMS := ⟨_, PySem.W.mg_of X G y_MOST_FROMS⟩
    c_MOST_LOADS := ⟨_, PySem.W.mg_of X G y_MOST_LOADS⟩
  }
  exact ⟨_, fun s v => .of_eq rfl, fun base _ _ => law_ok (m := mt_law) (ok_law T) fun ns h1 h2 => top ns h1 h2⟩
end G
open PySem PySem.W PyProof.Rows in
set_option maxHeartbeats 0 in
theorem PySem.Challenge.cw_tapepour_k37_whole_bounds_and_orders_holds : PySem.Challenge.rw_tapepour_k37_whole_bounds_and_orders.Holds := by
  w_on; o_law; k_head; (case hw => w_witness2)
  k_fill
  refine L2.walk_ofB (l := PySem.Challenge.rw_tapepour_k37_whole_bounds_and_orders) (n := 63) (k := 8) (x := "_law_script") (CX := fun w => L2.CX PySem.Challenge.pw_tapepour_k37_whole_bounds_and_orders w) (sp := fun w => TP.spL _) rfl (by decide) rfl ⟨rfl, by decide, by decide⟩ (fun w h Y => PySem.W.kIn_of Y) ?F (fun _ _ a ns hl hb _ hS => ⟨a, ns, rfl, hS, hl, hb, fun _ => rfl⟩) (fun _ _ _ _ _ h => TP.cx_no h)
  case F =>
    intro w mg fa h KX KG hmg
    refine' G.all_mk KX KG hmg ?og_Search ?oa_Search ?ob_Search ?oc_Search ?od_Search ?oe_Search ?of_Search ?on_Search_rows ?on_Search_known ?a_law_cell ?l_law_cell ?c_law_cell ?k_law_cell ?a_law_draws ?l_law_draws ?c_law_draws ?k_law_draws ?a_law_load ?l_law_load ?c_law_load ?k_law_load ?a_Search____init ?l_Search____init ?c_Search____init ?k_Search____init ?i_Search____init ?a_rising_rows ?l_rising_rows ?c_rising_rows ?k_rising_rows ?a_pours_of ?l_pours_of ?c_pours_of ?k_pours_of ?a_is_below ?l_is_below ?c_is_below ?k_is_below ?a_are_froms ?l_are_froms ?c_are_froms ?k_are_froms ?a_is_pour ?l_is_pour ?c_is_pour ?k_is_pour ?a_load_behind ?l_load_behind ?c_load_behind ?k_load_behind ?a_Search__come_to ?l_Search__come_to ?c_Search__come_to ?k_Search__come_to ?i_Search__come_to ?a_Search__plan_to ?l_Search__plan_to ?c_Search__plan_to ?k_Search__plan_to ?i_Search__plan_to ?a_fewest_pours ?l_fewest_pours ?c_fewest_pours ?k_fewest_pours ?a_law_order ?l_law_order ?c_law_order ?k_law_order ?a_law_good ?l_law_good ?c_law_good ?k_law_good ?a_law ?l_law ?c_law ?k_law ?z_len ?z_range ?z_int ?z_min ?z_sum ?z_tuple ?z_sorted ?z_list ?z_enumerate ?z_isinstance ?z_reversed ?z_bool ?y_MOST_FROMS ?y_MOST_LOADS G.top_law
    (case og_Search => k_is)
    (case oa_Search => k_is)
    (case ob_Search => k_is)
    (case oc_Search => k_is)
    (case od_Search => k_is)
    (case oe_Search => k_is)
    (case of_Search => k_is)
    (case on_Search_rows => k_is)
    (case on_Search_known => k_is)
    (case a_law_cell => k_is)
    (case l_law_cell => k_is)
    (case c_law_cell => k_is)
    (case k_law_cell => k_is)
    (case a_law_draws => k_is)
    (case l_law_draws => k_is)
    (case c_law_draws => k_is)
    (case k_law_draws => k_is)
    (case a_law_load => k_is)
    (case l_law_load => k_is)
    (case c_law_load => k_is)
    (case k_law_load => k_is)
    (case a_Search____init => k_is)
    (case l_Search____init => k_is)
    (case c_Search____init => k_is)
    (case k_Search____init => k_is)
    (case i_Search____init => k_is)
    (case a_rising_rows => k_is)
    (case l_rising_rows => k_is)
    (case c_rising_rows => k_is)
    (case k_rising_rows => k_is)
    (case a_pours_of => k_is)
    (case l_pours_of => k_is)
    (case c_pours_of => k_is)
    (case k_pours_of => k_is)
    (case a_is_below => k_is)
    (case l_is_below => k_is)
    (case c_is_below => k_is)
    (case k_is_below => k_is)
    (case a_are_froms => k_is)
    (case l_are_froms => k_is)
    (case c_are_froms => k_is)
    (case k_are_froms => k_is)
    (case a_is_pour => k_is)
    (case l_is_pour => k_is)
    (case c_is_pour => k_is)
    (case k_is_pour => k_is)
    (case a_load_behind => k_is)
    (case l_load_behind => k_is)
    (case c_load_behind => k_is)
    (case k_load_behind => k_is)
    (case a_Search__come_to => k_is)
    (case l_Search__come_to => k_is)
    (case c_Search__come_to => k_is)
    (case k_Search__come_to => k_is)
    (case i_Search__come_to => k_is)
    (case a_Search__plan_to => k_is)
    (case l_Search__plan_to => k_is)
    (case c_Search__plan_to => k_is)
    (case k_Search__plan_to => k_is)
    (case i_Search__plan_to => k_is)
    (case a_fewest_pours => k_is)
    (case l_fewest_pours => k_is)
    (case c_fewest_pours => k_is)
    (case k_fewest_pours => k_is)
    (case a_law_order => k_is)
    (case l_law_order => k_is)
    (case c_law_order => k_is)
    (case k_law_order => k_is)
    (case a_law_good => k_is)
    (case l_law_good => k_is)
    (case c_law_good => k_is)
    (case k_law_good => k_is)
    (case a_law => k_is)
    (case l_law => k_is)
    (case c_law => k_is)
    (case k_law => k_is)
    (case z_len => k_is)
    (case z_range => k_is)
    (case z_int => k_is)
    (case z_min => k_is)
    (case z_sum => k_is)
    (case z_tuple => k_is)
    (case z_sorted => k_is)
    (case z_list => k_is)
    (case z_enumerate => k_is)
    (case z_isinstance => k_is)
    (case z_reversed => k_is)
    (case z_bool => k_is)
    (case y_MOST_FROMS => k_is)
    (case y_MOST_LOADS => k_is)

